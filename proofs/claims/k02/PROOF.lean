import PyProof.Rows.All
import Wide.All
import OpenK.AllK
import Wide.FinOn
import PyProof.EqAt
import PyProof.EqKinds
import PyProof.TupleCall
import HandS.ForMost
import HandS.Exc
import HandS.ExcOwn
import HandS.TryOnly
import HandS.WordsExc
import HandS.CallSlots
import HandS.TupAny
import HandS.Deep
import HandS.Wide
import HandS.WideBits
import HandS.Iter
import HandS.Zip
import HandS.Comp
import HandS.IsInst
import HandS.StrMore
import HandS.More
import HandS.Replace
import HandS.Text
import PySem.Challenge.RW_lampway_k02_words
set_option Elab.async false
set_option linter.all false
set_option maxRecDepth 100000
set_option maxHeartbeats 4000000
/-! W0: values without addresses for what never changes; the heap G of what may change; the relations; the judgements. -/
namespace Lw
open PySem PySem.Spec PyProof.Rows L2

abbrev S (s : List Nat) : Str := ⟨s.toArray⟩
abbrev KW := Sum Int (List Nat)
def kK : KW → Key
  | .inl i => .inl i
  | .inr s => .inr (S s)

/-- values: tuples, and lists, dicts, instances that nothing changes any more, are values -/
inductive W where
  | non | bl (b : Bool) | int (i : Int) | str (s : List Nat) | ref (a : Addr) | ty (n : String)
  | sc (ns : List Int) | tup (xs : List W) | il (xs : List W) | dk (kvs : List (KW × W)) | io (c : Nat) (fs : List (Nat × W))

/-- what may change -/
inductive WO where
  | lst (xs : List W) | dct (kvs : List (KW × W)) | obj (c : Nat) (fs : List (Nat × W))
  | fz (od : Obj) (u : HO) (kvs : List (KW × W))

abbrev WHp := Addr → Option WO
abbrev WSt := List (Option W)
def updG (G : WHp) (a : Addr) (o : WO) : WHp := fun b => if b = a then some o else G b
theorem updG_same {G : WHp} {a : Addr} {o : WO} : updG G a o a = some o := if_pos rfl
theorem updG_ne {G : WHp} {a b : Addr} {o : WO} (h : b ≠ a) : updG G a o b = G b := if_neg h
theorem updG_updG {G : WHp} {a : Addr} {o u : WO} : updG (updG G a o) a u = updG G a u := by
  funext b; unfold updG; split <;> rfl

/-- the tables: the written part, the classes' addresses, the fields' names -/
structure Par where
  K : PySem.W.Frag
  ca : Nat → Addr
  fn : Nat → Str

section
variable (P : Par) (G : WHp) (H : Hp)
/-- a list at a that nothing changes: hidden from G -/
def RoL (a : Addr) (vs : List V) : Prop := H a = some (.lst vs) ∧ G a = none
/-- the script's list: known to be the object it is, or written -/
def ScL (a : Addr) (vs : List V) : Prop := (∃ o, H a = some (.frz o (.lst vs))) ∨ SqL P.K (fun _ => none) a vs
mutual
inductive RelW : W → V → Prop
  | non : RelW .non .non
  | bl (b : Bool) : RelW (.bl b) (.bl b)
  | int (i : Int) : RelW (.int i) (.int i)
  | str (s : List Nat) : RelW (.str s) (.str (S s))
  | ref (a : Addr) : RelW (.ref a) (.ref a)
  | ty (n : String) : RelW (.ty n) (.ty n)
  | sc (a : Addr) (ns : List Int) : ScL P H a (ns.map V.int) → RelW (.sc ns) (.ref a)
  | tup (a : Addr) (vs : List V) (ws : List W) : SqT P.K H a vs → RelWs ws vs → RelW (.tup ws) (.ref a)
  | il (a : Addr) (vs : List V) (ws : List W) : RoL G H a vs → RelWs ws vs → RelW (.il ws) (.ref a)
  | dk (a : Addr) (kv : List (Key × V)) (kvs : List (KW × W)) : H a = some (.dK kv) → G a = none → RelKs kvs kv → RelW (.dk kvs) (.ref a)
  | io (a dx : Addr) (c : Nat) (fv : List (Str × V)) (fs : List (Nat × W)) : H a = some (.ins (P.ca c) dx fv) → G a = none → RelFs fs fv → RelW (.io c fs) (.ref a)
inductive RelWs : List W → List V → Prop
  | nil : RelWs [] []
  | cons (w : W) (v : V) (ws : List W) (vs : List V) : RelW w v → RelWs ws vs → RelWs (w :: ws) (v :: vs)
inductive RelKs : List (KW × W) → List (Key × V) → Prop
  | nil : RelKs [] []
  | cons (k : KW) (w : W) (v : V) (ws : List (KW × W)) (vs : List (Key × V)) : RelW w v → RelKs ws vs → RelKs ((k, w) :: ws) ((kK k, v) :: vs)
inductive RelFs : List (Nat × W) → List (Str × V) → Prop
  | nil : RelFs [] []
  | cons (t : Nat) (w : W) (v : V) (ws : List (Nat × W)) (vs : List (Str × V)) : RelW w v → RelFs ws vs → RelFs ((t, w) :: ws) ((P.fn t, v) :: vs)
end
def RepO (a : Addr) : WO → Prop
  | .lst ws => ∃ vs, H a = some (.lst vs) ∧ RelWs P G H ws vs
  | .dct kvs => ∃ kv, H a = some (.dK kv) ∧ RelKs P G H kvs kv
  | .obj c fs => ∃ dx fv, H a = some (.ins (P.ca c) dx fv) ∧ RelFs P G H fs fv
  | .fz od u kvs => H a = some (.frz od u) ∧ ∃ kv, u = .dK kv ∧ RelKs P G H kvs kv
def Rep : Prop := ∀ a o, G a = some o → RepO P G H a o
inductive RelSt : WSt → L2.St → Prop
  | nil : RelSt [] []
  | val (w : W) (v : V) (σw : WSt) (σ : L2.St) : RelW P G H w v → RelSt σw σ → RelSt (some w :: σw) (some v :: σ)
  | hole (o : Option V) (σw : WSt) (σ : L2.St) : RelSt σw σ → RelSt (none :: σw) (o :: σ)
end
/-- what stands in H outside of G stays so -/
def Fw (G : WHp) (H : Hp) (G' : WHp) (H' : Hp) : Prop := ∀ a o, H a = some o → G a = none → H' a = some o ∧ G' a = none
theorem Fw.refl (G : WHp) (H : Hp) : Fw G H G H := fun _ _ h g => ⟨h, g⟩
theorem Fw.trans {G G1 G2 : WHp} {H H1 H2 : Hp} (a : Fw G H G1 H1) (b : Fw G1 H1 G2 H2) : Fw G H G2 H2 := fun c o h g =>
  let ⟨h1, g1⟩ := a c o h g
  b c o h1 g1

section
variable {P : Par} {G G' : WHp} {H H' : Hp}
theorem Rep.notup (rp : Rep P G H) {a : Addr} {xs : List V} (h : H a = some (.tup xs)) : G a = none := by
  cases e : G a with
  | none => rfl
  | some o =>
    have q := rp a o e
    cases o with
    | lst ws => obtain ⟨vs, z, _⟩ := q; rw [h] at z; cases z
    | dct ws => obtain ⟨vs, z, _⟩ := q; rw [h] at z; cases z
    | obj c fs => obtain ⟨dx, vs, z, _⟩ := q; rw [h] at z; cases z
    | fz od u ws => obtain ⟨z, _⟩ := q; rw [h] at z; cases z
theorem Rep.nofrzL (rp : Rep P G H) {a : Addr} {ob : Obj} {xs : List V} (h : H a = some (.frz ob (.lst xs))) : G a = none := by
  cases e : G a with
  | none => rfl
  | some o =>
    have q := rp a o e
    cases o with
    | lst ws => obtain ⟨vs, z, _⟩ := q; rw [h] at z; cases z
    | dct ws => obtain ⟨vs, z, _⟩ := q; rw [h] at z; cases z
    | obj c fs => obtain ⟨dx, vs, z, _⟩ := q; rw [h] at z; cases z
    | fz od u ws => obtain ⟨z, kv, e', _⟩ := q; rw [h] at z; cases z; cases e'
theorem Rep.nofrzT (rp : Rep P G H) {a : Addr} {ob : Obj} {xs : List V} (h : H a = some (.frz ob (.tup xs))) : G a = none := by
  cases e : G a with
  | none => rfl
  | some o =>
    have q := rp a o e
    cases o with
    | lst ws => obtain ⟨vs, z, _⟩ := q; rw [h] at z; cases z
    | dct ws => obtain ⟨vs, z, _⟩ := q; rw [h] at z; cases z
    | obj c fs => obtain ⟨dx, vs, z, _⟩ := q; rw [h] at z; cases z
    | fz od u ws => obtain ⟨z, kv, e', _⟩ := q; rw [h] at z; cases z; cases e'
theorem SqT.fw (rp : Rep P G H) (f : Fw G H G' H') {a : Addr} {vs : List V} (h : SqT P.K H a vs) : SqT P.K H' a vs := by
  rcases h with (h | ⟨o, h⟩) | h
  · exact .inl (.inl (f a _ h (rp.notup h)).1)
  · exact .inl (.inr ⟨o, (f a _ h (rp.nofrzT h)).1⟩)
  · exact .inr h
theorem RoL.fw (f : Fw G H G' H') {a : Addr} {vs : List V} (h : RoL G H a vs) : RoL G' H' a vs := f a _ h.1 h.2
theorem ScL.fw (rp : Rep P G H) (f : Fw G H G' H') {a : Addr} {vs : List V} (h : ScL P H a vs) : ScL P H' a vs := by
  rcases h with ⟨o, h⟩ | h
  · exact .inl ⟨o, (f a _ h (rp.nofrzL h)).1⟩
  · exact .inr h
theorem ScL.sq {a : Addr} {vs : List V} (h : ScL P H a vs) : SqL P.K H a vs := by
  rcases h with ⟨o, h⟩ | h
  · exact .inl (.inr ⟨o, h⟩)
  · rcases h with (h | ⟨o, h⟩) | h
    · cases h
    · cases h
    · exact .inr h
mutual
theorem RelW.fw (rp : Rep P G H) (f : Fw G H G' H') : ∀ {w : W} {v : V}, RelW P G H w v → RelW P G' H' w v
  | _, _, .non => .non
  | _, _, .bl b => .bl b
  | _, _, .int i => .int i
  | _, _, .str s => .str s
  | _, _, .ref a => .ref a
  | _, _, .ty n => .ty n
  | _, _, .sc a ns h => .sc a ns (h.fw rp f)
  | _, _, .tup a vs ws h r => .tup a vs ws (SqT.fw rp f h) (RelWs.fw rp f r)
  | _, _, .il a vs ws h r => .il a vs ws (h.fw f) (RelWs.fw rp f r)
  | _, _, .dk a kv kvs h g r => .dk a kv kvs (f a _ h g).1 (f a _ h g).2 (RelKs.fw rp f r)
  | _, _, .io a dx c fv fs h g r => .io a dx c fv fs (f a _ h g).1 (f a _ h g).2 (RelFs.fw rp f r)
theorem RelWs.fw (rp : Rep P G H) (f : Fw G H G' H') : ∀ {w : List W} {v : List V}, RelWs P G H w v → RelWs P G' H' w v
  | _, _, .nil => .nil
  | _, _, .cons w v ws vs h r => .cons w v ws vs (RelW.fw rp f h) (RelWs.fw rp f r)
theorem RelKs.fw (rp : Rep P G H) (f : Fw G H G' H') : ∀ {w : List (KW × W)} {v : List (Key × V)}, RelKs P G H w v → RelKs P G' H' w v
  | _, _, .nil => .nil
  | _, _, .cons k w v ws vs h r => .cons k w v ws vs (RelW.fw rp f h) (RelKs.fw rp f r)
theorem RelFs.fw (rp : Rep P G H) (f : Fw G H G' H') : ∀ {w : List (Nat × W)} {v : List (Str × V)}, RelFs P G H w v → RelFs P G' H' w v
  | _, _, .nil => .nil
  | _, _, .cons k w v ws vs h r => .cons k w v ws vs (RelW.fw rp f h) (RelFs.fw rp f r)
end
theorem RelSt.fw (rp : Rep P G H) (f : Fw G H G' H') : ∀ {σw : WSt} {σ : L2.St}, RelSt P G H σw σ → RelSt P G' H' σw σ
  | _, _, .nil => .nil
  | _, _, .val w v σw σ h r => .val w v σw σ (h.fw rp f) (RelSt.fw rp f r)
  | _, _, .hole o σw σ r => .hole o σw σ (RelSt.fw rp f r)
theorem RepO.fw (rp : Rep P G H) (f : Fw G H G' H') {a : Addr} {o : WO} (h : RepO P G H a o) (e : H' a = H a) : RepO P G' H' a o := by
  cases o with
  | lst ws => obtain ⟨vs, z, r⟩ := h; exact ⟨vs, by rw [e]; exact z, r.fw rp f⟩
  | dct ws => obtain ⟨vs, z, r⟩ := h; exact ⟨vs, by rw [e]; exact z, r.fw rp f⟩
  | obj c fs => obtain ⟨dx, vs, z, r⟩ := h; exact ⟨dx, vs, by rw [e]; exact z, r.fw rp f⟩
  | fz od u ws => obtain ⟨z, kv, e', r⟩ := h; exact ⟨by rw [e]; exact z, kv, e', r.fw rp f⟩

theorem Rep.free (rp : Rep P G H) {p : Addr} (h : H p = none) : G p = none := by
  cases e : G p with
  | none => rfl
  | some o =>
    have q := rp p o e
    cases o with
    | lst ws => obtain ⟨vs, z, _⟩ := q; rw [h] at z; cases z
    | dct ws => obtain ⟨vs, z, _⟩ := q; rw [h] at z; cases z
    | obj c fs => obtain ⟨dx, vs, z, _⟩ := q; rw [h] at z; cases z
    | fz od u ws => obtain ⟨z, _⟩ := q; rw [h] at z; cases z
/-- a new object that G does not see -/
theorem Fw.hid {p : Addr} {o : HO} (h : H p = none) : Fw G H G (upd H p o) := fun a u e g => ⟨by rw [upd_ne (ne_of_none e h)]; exact e, g⟩
theorem Rep.hid (rp : Rep P G H) {p : Addr} {o : HO} (h : H p = none) : Rep P G (upd H p o) := fun a u e => by
  have ne : a ≠ p := fun z => by rw [z, rp.free h] at e; cases e
  exact (rp a u e).fw rp (Fw.hid h) (upd_ne ne)
/-- a new object that G sees -/
theorem Fw.new {p : Addr} {o : HO} {u : WO} (h : H p = none) : Fw G H (updG G p u) (upd H p o) := fun a v e g => ⟨by rw [upd_ne (ne_of_none e h)]; exact e, by rw [updG_ne (ne_of_none e h)]; exact g⟩
/-- a seen object changed -/
theorem Fw.put {p : Addr} {o : HO} {u w : WO} (g : G p = some w) : Fw G H (updG G p u) (upd H p o) := fun a v e g' => by
  have ne : a ≠ p := fun z => by rw [z, g] at g'; cases g'
  exact ⟨by rw [upd_ne ne]; exact e, by rw [updG_ne ne]; exact g'⟩
theorem Rep.put (rp : Rep P G H) {p : Addr} {o : HO} {u : WO} (f : Fw G H (updG G p u) (upd H p o)) (q : RepO P (updG G p u) (upd H p o) p u) : Rep P (updG G p u) (upd H p o) := fun a v e => by
  by_cases z : a = p
  · subst z
    rw [updG_same] at e
    cases e
    exact q
  · rw [updG_ne z] at e
    exact (rp a v e).fw rp f (upd_ne z)
end
end Lw
/-! W1: the judgements over W, and expressions. -/
namespace Lw
open PySem PySem.Spec PyProof.Rows L2

abbrev WQ := W → WHp → Prop
/-- an exception: its class, its fields -/
structure Xc where
  c : Nat
  fs : List (Nat × W)
abbrev WXK := Xc → WSt → WHp → Prop
abbrev WTE := WSt → WHp → WQ → WXK → Prop
abbrev WTT := WSt → WHp → (Bool → WHp → Prop) → WXK → Prop
abbrev WTA := WSt → WHp → (List W → WHp → Prop) → WXK → Prop
structure WEnds where
  nx : WSt → WHp → Prop
  rt : WQ
  bk : WSt → WHp → Prop
  ct : WSt → WHp → Prop
abbrev WTS := WEnds → WSt → WHp → WXK → Prop
def ExcD (P : Par) (G : WHp) (H : Hp) (d : Option Addr) (fs : List (Nat × W)) : Prop :=
  (d = none ∧ fs = []) ∨ ∃ dd fv, d = some dd ∧ H dd = some (.xd fv) ∧ G dd = none ∧ RelFs P G H fs fv
def embX (P : Par) (Ga : WHp) (Ha : Hp) (Ew : WXK) : WX := fun cls d σ H => ∃ c fs σw G, cls = .ref (P.ca c) ∧ Fw Ga Ha G H ∧ RelSt P G H σw σ ∧ Rep P G H ∧ ExcD P G H d fs ∧ Ew ⟨c, fs⟩ σw G
def embE (P : Par) (Ga : WHp) (Ha : Hp) (Ew : WXK) (t : WTE) : TE := fun σ H Q => ∃ σw G Qw, Fw Ga Ha G H ∧ RelSt P G H σw σ ∧ Rep P G H ∧ t σw G Qw Ew ∧
  ∀ w G' v H', Fw G H G' H' → RelW P G' H' w v → Rep P G' H' → Qw w G' → Q v H'
def embT (P : Par) (Ga : WHp) (Ha : Hp) (Ew : WXK) (t : WTT) : TT := fun σ H Q => ∃ σw G Qw, Fw Ga Ha G H ∧ RelSt P G H σw σ ∧ Rep P G H ∧ t σw G Qw Ew ∧
  ∀ b G' H', Fw G H G' H' → Rep P G' H' → Qw b G' → Q b H'
def embA (P : Par) (Ga : WHp) (Ha : Hp) (Ew : WXK) (t : WTA) : TA := fun σ H Q => ∃ σw G Qw, Fw Ga Ha G H ∧ RelSt P G H σw σ ∧ Rep P G H ∧ t σw G Qw Ew ∧
  ∀ ws G' vs H', Fw G H G' H' → RelWs P G' H' ws vs → Rep P G' H' → Qw ws G' → Q vs H'
def embS (P : Par) (Ga : WHp) (Ha : Hp) (Ew : WXK) (t : WTS) : TS := fun D σ H => ∃ σw G Dw, Fw Ga Ha G H ∧ RelSt P G H σw σ ∧ Rep P G H ∧ t Dw σw G Ew ∧
  (∀ σw' G' σ' H', Fw G H G' H' → RelSt P G' H' σw' σ' → Rep P G' H' → Dw.nx σw' G' → D.nx σ' H') ∧
  (∀ w G' v H', Fw G H G' H' → RelW P G' H' w v → Rep P G' H' → Dw.rt w G' → D.rt v H') ∧
  (∀ σw' G' σ' H', Fw G H G' H' → RelSt P G' H' σw' σ' → Rep P G' H' → Dw.bk σw' G' → D.bk σ' H') ∧
  (∀ σw' G' σ' H', Fw G H G' H' → RelSt P G' H' σw' σ' → Rep P G' H' → Dw.ct σw' G' → D.ct σ' H')

def JE (P : Par) (X : Cx) (e : Expr) (t : WTE) : Prop := ∀ Ga Ha Ew, Takes X (embX P Ga Ha Ew) → PE X e (embE P Ga Ha Ew t)
def JT (P : Par) (X : Cx) (e : Expr) (t : WTT) : Prop := ∀ Ga Ha Ew, Takes X (embX P Ga Ha Ew) → PT X e (embT P Ga Ha Ew t)
def JW (P : Par) (X : Cx) (e : Expr) (t : WTT) : Prop := ∀ Ga Ha Ew, Takes X (embX P Ga Ha Ew) → PW X e (embT P Ga Ha Ew t)
def JA (P : Par) (X : Cx) (es : List Expr) (t : WTA) : Prop := ∀ Ga Ha Ew, Takes X (embX P Ga Ha Ew) → PA X es (embA P Ga Ha Ew t)
def JS (P : Par) (X : Cx) (st : Stmt) (t : WTS) : Prop := ∀ Ga Ha Ew, Takes X (embX P Ga Ha Ew) → PS X st (embS P Ga Ha Ew t)
def JSs (P : Par) (X : Cx) (st : List Stmt) (t : WTS) : Prop := ∀ Ga Ha Ew, Takes X (embX P Ga Ha Ew) → PSs X st (embS P Ga Ha Ew t)

section
variable {X : Cx}
theorem PE.imp {e : Expr} {t t' : TE} (h : PE X e t) (i : ∀ σ H Q, t' σ H Q → t σ H Q) : PE X e t' := ⟨fun pins s σ H Q I q => h.run pins s σ H Q I (i σ H Q q)⟩
theorem PT.imp {e : Expr} {t t' : TT} (h : PT X e t) (i : ∀ σ H Q, t' σ H Q → t σ H Q) : PT X e t' := ⟨fun pins s σ H Q I q => h.run pins s σ H Q I (i σ H Q q)⟩
theorem PW.imp {e : Expr} {t t' : TT} (h : PW X e t) (i : ∀ σ H Q, t' σ H Q → t σ H Q) : PW X e t' := ⟨fun wh pins s σ H Q I q => h.run wh pins s σ H Q I (i σ H Q q)⟩
theorem PA.imp {e : List Expr} {t t' : TA} (h : PA X e t) (i : ∀ σ H Q, t' σ H Q → t σ H Q) : PA X e t' := ⟨fun pos pins s σ H Q I q => h.run pos pins s σ H Q I (i σ H Q q)⟩
theorem PS.imp {e : Stmt} {t t' : TS} (h : PS X e t) (i : ∀ D σ H, t' D σ H → t D σ H) : PS X e t' := ⟨fun pins s σ H D I q => h.run pins s σ H D I (i D σ H q)⟩
theorem PSs.imp {e : List Stmt} {t t' : TS} (h : PSs X e t) (i : ∀ D σ H, t' D σ H → t D σ H) : PSs X e t' := ⟨fun pins s σ H D I q => h.run pins s σ H D I (i D σ H q)⟩
theorem OpR.imp {f : Value → Value → Sem Value} {r r' : R2} (h : OpR X f r) (i : ∀ x y H Q, r' x y H Q → r x y H Q) : OpR X f r' := fun pins s σ H x y v u Q I rx ry q => h pins s σ H x y v u Q I rx ry (i x y H Q q)
theorem OpR.or {f : Value → Value → Sem Value} {r r' : R2} (h : OpR X f r) (h' : OpR X f r') : OpR X f (fun x y H Q => r x y H Q ∨ r' x y H Q) := fun pins s σ H x y v u Q I rx ry q =>
  q.elim (h pins s σ H x y v u Q I rx ry) (h' pins s σ H x y v u Q I rx ry)
theorem CallR.or {f : Value} {r r' : List V → Hp → VK → Prop} (h : CallR X f r) (h' : CallR X f r') : CallR X f (fun x H Q => r x H Q ∨ r' x H Q) := fun pins s σ H x v Q I rx q =>
  q.elim (h pins s σ H x v Q I rx) (h' pins s σ H x v Q I rx)
theorem CallR.imp {f : Value} {r r' : List V → Hp → VK → Prop} (h : CallR X f r) (i : ∀ x H Q, r' x H Q → r x H Q) : CallR X f r' := fun pins s σ H x v Q I rx q => h pins s σ H x v Q I rx (i x H Q q)
theorem UnR.imp {f : Value → Sem Value} {r r' : V → Hp → VK → Prop} (h : UnR X f r) (i : ∀ x H Q, r' x H Q → r x H Q) : UnR X f r' := fun pins s σ H x v Q I rx q => h pins s σ H x v Q I rx (i x H Q q)
end

/-! ### by values -/
abbrev WR1 := W → WHp → WQ → Prop
abbrev WR2 := W → W → WHp → WQ → Prop
abbrev WRs := List W → WHp → WQ → Prop
def emb1 (P : Par) (wr : WR1) : V → Hp → VK → Prop := fun x H Q => ∃ wx G Qw, RelW P G H wx x ∧ Rep P G H ∧ wr wx G Qw ∧ ∀ w G' v H', Fw G H G' H' → RelW P G' H' w v → Rep P G' H' → Qw w G' → Q v H'
def emb2 (P : Par) (wr : WR2) : R2 := fun x y H Q => ∃ wx wy G Qw, RelW P G H wx x ∧ RelW P G H wy y ∧ Rep P G H ∧ wr wx wy G Qw ∧ ∀ w G' v H', Fw G H G' H' → RelW P G' H' w v → Rep P G' H' → Qw w G' → Q v H'
def embL (P : Par) (wr : WRs) : List V → Hp → VK → Prop := fun xs H Q => ∃ ws G Qw, RelWs P G H ws xs ∧ Rep P G H ∧ wr ws G Qw ∧ ∀ w G' v H', Fw G H G' H' → RelW P G' H' w v → Rep P G' H' → Qw w G' → Q v H'
def OpW (P : Par) (X : Cx) (f : Value → Value → Sem Value) (wr : WR2) : Prop := OpR X f (emb2 P wr)
def UnW (P : Par) (X : Cx) (f : Value → Sem Value) (wr : WR1) : Prop := UnR X f (emb1 P wr)
def CallW (P : Par) (X : Cx) (f : Value) (wr : WRs) : Prop := CallR X f (embL P wr)

/-! ### names and constants -/
def wGet : WSt → Nat → Option W
  | [], _ => none
  | o :: _, 0 => o
  | _ :: r, i + 1 => wGet r i
def wVar (i : Nat) : WTE := fun σ G Q _ => ∃ w, wGet σ i = some w ∧ Q w G
def wC (w : W) : WTE := fun _ G Q _ => Q w G
section
variable {P : Par} {X : Cx} {G : WHp} {H : Hp}
theorem RelSt.get : ∀ {σw : WSt} {σ : L2.St} {i : Nat} {w : W}, RelSt P G H σw σ → wGet σw i = some w → ∃ v, σ[i]? = some (some v) ∧ RelW P G H w v
  | _, _, i, w, .nil, e => by cases i <;> cases e
  | _, _, 0, w, .val w' v σw σ h r, e => by cases e; exact ⟨v, rfl, h⟩
  | _, _, 0, w, .hole o σw σ r, e => by cases e
  | _, _, i + 1, w, .val w' v σw σ h r, e => RelSt.get (i := i) r e
  | _, _, i + 1, w, .hole o σw σ r, e => RelSt.get (i := i) r e
theorem RelSt.set {w : W} {v : V} (h : RelW P G H w v) : ∀ {σw : WSt} {σ : L2.St} (i : Nat), RelSt P G H σw σ → RelSt P G H (σw.set i (some w)) (σ.set i (some v))
  | _, _, i, .nil => by simpa using RelSt.nil
  | _, _, 0, .val w' v' σw σ h' r => .val w v σw σ h r
  | _, _, 0, .hole o σw σ r => .val w v σw σ h r
  | _, _, i + 1, .val w' v' σw σ h' r => .val w' v' _ _ h' (RelSt.set h i r)
  | _, _, i + 1, .hole o σw σ r => .hole o _ _ (RelSt.set h i r)
theorem RelSt.del {o : Option V} : ∀ {σw : WSt} {σ : L2.St} (i : Nat), RelSt P G H σw σ → RelSt P G H (σw.set i none) (σ.set i o)
  | _, _, i, .nil => by simpa using RelSt.nil
  | _, _, 0, .val w' v' σw σ h' r => .hole o σw σ r
  | _, _, 0, .hole o' σw σ r => .hole o σw σ r
  | _, _, i + 1, .val w' v' σw σ h' r => .val w' v' _ _ h' (RelSt.del i r)
  | _, _, i + 1, .hole o' σw σ r => .hole o' _ _ (RelSt.del i r)
/-- from a rule whose reading is asked at once -/
theorem je_of {e : Expr} {t : WTE} {te : TE} (h : PE X e te) (i : ∀ σw G σ H Qw Q Ew, RelSt P G H σw σ → Rep P G H → t σw G Qw Ew → (∀ w G' v H', Fw G H G' H' → RelW P G' H' w v → Rep P G' H' → Qw w G' → Q v H') → te σ H Q) : JE P X e t :=
  fun Ga Ha Ew _ => PE.imp h fun σ H Q ⟨σw, G, Qw, _, rs, rp, ht, hq⟩ => i σw G σ H Qw Q Ew rs rp ht hq
theorem jv (i : Nat) {x : Str} {pos : Pos} (hN : X.N[i]? = some x := by rfl) (hv : Vis X.env.scope x := by first | exact Or.inl rfl | exact Or.inr (Or.inl rfl) | exact Or.inr (Or.inr rfl)) (hd : (x == ("__debug__" : Str)) = false := by decide)
    (hcd : (x == ("__classdict__" : Str)) = false := by decide) : JE P X (.Name x pos) (wVar i) :=
  je_of (pe_var hN hv hd hcd) fun σw G σ H Qw Q Ew rs rp ⟨w, e, q⟩ hq => let ⟨v, e1, r⟩ := rs.get e; ⟨v, e1, hq w G v H (.refl _ _) r rp q⟩
theorem je_int {i j pos} : JE P X (.Constant (.int i) j pos) (wC (.int i)) := je_of pe_int fun σw G σ H Qw Q Ew rs rp q hq => hq _ G _ H (.refl _ _) (.int i) rp q
theorem je_bl {b j pos} : JE P X (.Constant (.bool b) j pos) (wC (.bl b)) := je_of pe_bl fun σw G σ H Qw Q Ew rs rp q hq => hq _ G _ H (.refl _ _) (.bl b) rp q
theorem je_non {j pos} : JE P X (.Constant .none j pos) (wC .non) := je_of pe_non fun σw G σ H Qw Q Ew rs rp q hq => hq _ G _ H (.refl _ _) .non rp q
theorem je_str {x : Str} {j pos} (s : List Nat) (hs : x = S s := by decide +kernel) : JE P X (.Constant (.str x) j pos) (wC (.str s)) := by
  subst hs
  exact je_of pe_str fun σw G σ H Qw Q Ew rs rp q hq => hq _ G _ H (.refl _ _) (.str s) rp q

/-! ### operators -/
variable {a b c : Expr} {ta tb tc : WTE} {pos : Pos}
def wOp (wr : WR2) (ta tb : WTE) : WTE := fun σ G Q E => ta σ G (fun x G1 => tb σ G1 (fun y G2 => wr x y G2 Q) E) E
def wUn (wr : WR1) (ta : WTE) : WTE := fun σ G Q E => ta σ G (fun x G1 => wr x G1 Q) E
theorem op_step {wr : WR2} {ta tb : WTE} {Ga : WHp} {Ha : Hp} {Ew : WXK} : ∀ σ H Q, embE P Ga Ha Ew (wOp wr ta tb) σ H Q → tOp (emb2 P wr) (embE P Ga Ha Ew ta) (embE P Ga Ha Ew tb) σ H Q :=
  fun σ H Q ⟨σw, G, Qw, fa, rs, rp, ht, hq⟩ => ⟨σw, G, _, fa, rs, rp, ht, fun w1 G1 v1 H1 f1 r1 p1 h1 => ⟨σw, G1, _, fa.trans f1, rs.fw rp f1, p1, h1, fun w2 G2 v2 H2 f2 r2 p2 h2 =>
    ⟨w1, w2, G2, Qw, r1.fw p1 f2, r2, p2, h2, fun w G' v H' f r p q => hq w G' v H' (f1.trans (f2.trans f)) r p q⟩⟩⟩
theorem je_op {op : Operator} {wr : WR2} (ho : OpW P X (binaryOp op) wr) (ha : JE P X a ta) (hb : JE P X b tb) : JE P X (.BinOp a op b pos) (wOp wr ta tb) :=
  fun Ga Ha Ew tk => PE.imp (pe_op ho (ha Ga Ha Ew tk) (hb Ga Ha Ew tk)) op_step
theorem je_cmp {op : CmpOp} {wr : WR2} (ho : OpW P X (compareOp op) wr) (ha : JE P X a ta) (hb : JE P X b tb) (hm : behindInMarks op b = false := by first | exact nobehind _ (by decide) (by decide) | rfl) : JE P X (.Compare a [op] [b] pos) (wOp wr ta tb) :=
  fun Ga Ha Ew tk => PE.imp (pe_cmpR ho (ha Ga Ha Ew tk) (hb Ga Ha Ew tk) hm) op_step
/-- a value that is a bool, as a test -/
def wTest (t : WTE) : WTT := fun σ G Q E => t σ G (fun x G1 => ∃ k, x = .bl k ∧ Q k G1) E
theorem RelW.bool {k : Bool} {v : V} (h : RelW P G H (.bl k) v) : v = .bl k := by cases h; rfl
theorem test_step {t : WTE} {Ga : WHp} {Ha : Hp} {Ew : WXK} : ∀ σ H Q, embT P Ga Ha Ew (wTest t) σ H Q → embE P Ga Ha Ew t σ H (fun x H' => ∃ k, x = .bl k ∧ Q k H') :=
  fun σ H Q ⟨σw, G, Qw, fa, rs, rp, ht, hq⟩ => ⟨σw, G, _, fa, rs, rp, ht, fun w G1 v H1 f1 r p ⟨k, e, q⟩ => by subst e; cases r; exact ⟨k, rfl, hq k G1 H1 f1 p q⟩⟩
theorem jt_val (h : JE P X a ta) (he : ∀ whole, isTrue a X.env whole = (do let v ← whole; standAt a.pos; holding [v] (truthy v)) := by intro _; rfl) : JT P X a (wTest ta) := fun Ga Ha Ew tk => PT.imp (pt_val (h Ga Ha Ew tk) he) test_step
theorem jt_cmp {op : CmpOp} {wr : WR2} (ho : OpW P X (compareOp op) wr) (ha : JE P X a ta) (hb : JE P X b tb) (hm : behindInMarks op b = false := by first | exact nobehind _ (by decide) (by decide) | rfl) : JT P X (.Compare a [op] [b] pos) (wTest (wOp wr ta tb)) :=
  fun Ga Ha Ew tk => PT.imp (pt_cmpR ho (ha Ga Ha Ew tk) (hb Ga Ha Ew tk) hm) fun σ H Q ⟨σw, G, Qw, fa, rs, rp, ht, hq⟩ => op_step σ H _ ⟨σw, G, _, fa, rs, rp, ht, fun w G1 v H1 f1 r p ⟨k, e, q⟩ => by subst e; cases r; exact ⟨k, rfl, hq k G1 H1 f1 p q⟩⟩
/-! ### and, or, not, if -/
variable {rest : List Expr} {tA tB : WTT}
def wAnd (t u : WTT) : WTT := fun σ G Q E => t σ G (fun c G1 => if c = true then u σ G1 Q E else Q false G1) E
def wOr (t u : WTT) : WTT := fun σ G Q E => t σ G (fun c G1 => if c = true then Q true G1 else u σ G1 Q E) E
def wNot (t : WTT) : WTT := fun σ G Q E => t σ G (fun c G1 => Q (!c) G1) E
theorem jw_and1 (ha : JT P X a tA) : JW P X (.BoolOp .And [a] pos) tA := fun Ga Ha Ew tk => pw_and1 (ha Ga Ha Ew tk)
theorem jw_or1 (ha : JT P X a tA) : JW P X (.BoolOp .Or [a] pos) tA := fun Ga Ha Ew tk => pw_or1 (ha Ga Ha Ew tk)
theorem jw_and (ha : JT P X a tA) (hb : JW P X (.BoolOp .And (b :: rest) pos) tB) : JW P X (.BoolOp .And (a :: b :: rest) pos) (wAnd tA tB) := fun Ga Ha Ew tk =>
  PW.imp (pw_and (ha Ga Ha Ew tk) (hb Ga Ha Ew tk)) fun σ H Q ⟨σw, G, Qw, fa, rs, rp, ht, hq⟩ => ⟨σw, G, _, fa, rs, rp, ht, fun c G1 H1 f1 p1 h1 => by
    cases c with
    | true => exact ⟨σw, G1, Qw, fa.trans f1, rs.fw rp f1, p1, h1, fun b G2 H2 f2 p2 q => hq b G2 H2 (f1.trans f2) p2 q⟩
    | false => exact hq false G1 H1 f1 p1 h1⟩
theorem jw_or (ha : JT P X a tA) (hb : JW P X (.BoolOp .Or (b :: rest) pos) tB) : JW P X (.BoolOp .Or (a :: b :: rest) pos) (wOr tA tB) := fun Ga Ha Ew tk =>
  PW.imp (pw_or (ha Ga Ha Ew tk) (hb Ga Ha Ew tk)) fun σ H Q ⟨σw, G, Qw, fa, rs, rp, ht, hq⟩ => ⟨σw, G, _, fa, rs, rp, ht, fun c G1 H1 f1 p1 h1 => by
    cases c with
    | false => exact ⟨σw, G1, Qw, fa.trans f1, rs.fw rp f1, p1, h1, fun b G2 H2 f2 p2 q => hq b G2 H2 (f1.trans f2) p2 q⟩
    | true => exact hq true G1 H1 f1 p1 h1⟩
theorem JW.pt {e : Expr} {t : WTT} (h : JW P X e t) : JT P X e t := fun Ga Ha Ew tk => PW.pt (h Ga Ha Ew tk)
theorem jt_not (ha : JT P X a tA) : JT P X (.UnaryOp .Not a pos) (wNot tA) := fun Ga Ha Ew tk =>
  PT.imp (pt_not (ha Ga Ha Ew tk)) fun σ H Q ⟨σw, G, Qw, fa, rs, rp, ht, hq⟩ => ⟨σw, G, _, fa, rs, rp, ht, fun c G1 H1 f1 p1 h1 => hq (!c) G1 H1 f1 p1 h1⟩
/-- as values, all bools -/
def wAndV (ta tb : WTE) : WTE := fun σ G Q E => ta σ G (fun x G1 => ∃ c, x = .bl c ∧ if c = true then tb σ G1 Q E else Q (.bl false) G1) E
def wOrV (ta tb : WTE) : WTE := fun σ G Q E => ta σ G (fun x G1 => ∃ c, x = .bl c ∧ if c = true then Q (.bl true) G1 else tb σ G1 Q E) E
def wNotV (ta : WTE) : WTE := fun σ G Q E => ta σ G (fun x G1 => ∃ c, x = .bl c ∧ Q (.bl (!c)) G1) E
theorem je_one {op} {t : WTE} (h : JE P X a t) : JE P X (.BoolOp op [a] pos) t := fun Ga Ha Ew tk => pe_one (h Ga Ha Ew tk)
theorem je_and (ha : JE P X a ta) (hb : JE P X (.BoolOp .And (b :: rest) pos) tb) : JE P X (.BoolOp .And (a :: b :: rest) pos) (wAndV ta tb) := fun Ga Ha Ew tk =>
  PE.imp (pe_and (ha Ga Ha Ew tk) (hb Ga Ha Ew tk)) fun σ H Q ⟨σw, G, Qw, fa, rs, rp, ht, hq⟩ => ⟨σw, G, _, fa, rs, rp, ht, fun w G1 v1 H1 f1 r1 p1 ⟨c, e, h1⟩ => by
    subst e
    cases r1
    refine ⟨c, rfl, ?_⟩
    cases c with
    | true => exact ⟨σw, G1, Qw, fa.trans f1, rs.fw rp f1, p1, h1, fun w2 G2 v2 H2 f2 r2 p2 q => hq w2 G2 v2 H2 (f1.trans f2) r2 p2 q⟩
    | false => exact hq _ G1 _ H1 f1 (.bl false) p1 h1⟩
theorem je_or (ha : JE P X a ta) (hb : JE P X (.BoolOp .Or (b :: rest) pos) tb) : JE P X (.BoolOp .Or (a :: b :: rest) pos) (wOrV ta tb) := fun Ga Ha Ew tk =>
  PE.imp (pe_or (ha Ga Ha Ew tk) (hb Ga Ha Ew tk)) fun σ H Q ⟨σw, G, Qw, fa, rs, rp, ht, hq⟩ => ⟨σw, G, _, fa, rs, rp, ht, fun w G1 v1 H1 f1 r1 p1 ⟨c, e, h1⟩ => by
    subst e
    cases r1
    refine ⟨c, rfl, ?_⟩
    cases c with
    | false => exact ⟨σw, G1, Qw, fa.trans f1, rs.fw rp f1, p1, h1, fun w2 G2 v2 H2 f2 r2 p2 q => hq w2 G2 v2 H2 (f1.trans f2) r2 p2 q⟩
    | true => exact hq _ G1 _ H1 f1 (.bl true) p1 h1⟩
theorem je_not (ha : JE P X a ta) : JE P X (.UnaryOp .Not a pos) (wNotV ta) := fun Ga Ha Ew tk =>
  PE.imp (pe_not (ha Ga Ha Ew tk)) fun σ H Q ⟨σw, G, Qw, fa, rs, rp, ht, hq⟩ => ⟨σw, G, _, fa, rs, rp, ht, fun w G1 v1 H1 f1 r1 p1 ⟨c, e, h1⟩ => by
    subst e
    cases r1
    exact ⟨c, rfl, hq _ G1 _ H1 f1 (.bl _) p1 h1⟩⟩
def wIf (t : WTT) (ta tb : WTE) : WTE := fun σ G Q E => t σ G (fun c G1 => if c = true then ta σ G1 Q E else tb σ G1 Q E) E
theorem je_ifExp (hc : JT P X c tA) (ha : JE P X a ta) (hb : JE P X b tb) : JE P X (.IfExp c a b pos) (wIf tA ta tb) := fun Ga Ha Ew tk =>
  PE.imp (pe_ifExp (hc Ga Ha Ew tk) (ha Ga Ha Ew tk) (hb Ga Ha Ew tk)) fun σ H Q ⟨σw, G, Qw, fa, rs, rp, ht, hq⟩ => ⟨σw, G, _, fa, rs, rp, ht, fun d G1 H1 f1 p1 h1 => by
    cases d with
    | true => exact ⟨σw, G1, Qw, fa.trans f1, rs.fw rp f1, p1, h1, fun w2 G2 v2 H2 f2 r2 p2 q => hq w2 G2 v2 H2 (f1.trans f2) r2 p2 q⟩
    | false => exact ⟨σw, G1, Qw, fa.trans f1, rs.fw rp f1, p1, h1, fun w2 G2 v2 H2 f2 r2 p2 q => hq w2 G2 v2 H2 (f1.trans f2) r2 p2 q⟩⟩
/-- a < b < c -/
def wChain (wr wr' : WR2) (ta tb tc : WTE) : WTE := fun σ G Q E => ta σ G (fun x G1 => tb σ G1 (fun y G2 => wr x y G2 fun z G3 => ∃ k, z = .bl k ∧ if k = true then tc σ G3 (fun u G4 => wr' y u G4 Q) E else Q (.bl false) G3) E) E

theorem je_un {op : UnaryOp} {wr : WR1} (ho : UnW P X (unaryOp op) wr) (ha : JE P X a ta) : JE P X (.UnaryOp op a pos) (wUn wr ta) :=
  fun Ga Ha Ew tk => PE.imp (pe_un ho (ha Ga Ha Ew tk)) fun σ H Q ⟨σw, G, Qw, fa, rs, rp, ht, hq⟩ => ⟨σw, G, _, fa, rs, rp, ht, fun w1 G1 v1 H1 f1 r1 p1 h1 =>
    ⟨w1, G1, Qw, r1, p1, h1, fun w G' v H' f r p q => hq w G' v H' (f1.trans f) r p q⟩⟩
end
end Lw
/-! W2: statements, loops, calls of the text's defs. -/
namespace Lw
open PySem PySem.Spec PyProof.Rows L2
section
variable {P : Par} {X : Cx} {st : Stmt} {rest : List Stmt} {t u : WTS} {e : Expr} {te : WTE} {pos : Pos}
def wNext : WTS := fun D σ G _ => D.nx σ G
def wSeq (t u : WTS) : WTS := fun D σ G E => t { D with nx := fun σ' G' => u D σ' G' E } σ G E
def wBreak : WTS := fun D σ G _ => D.bk σ G
def wCont : WTS := fun D σ G _ => D.ct σ G
def wNever : WTS := fun _ _ _ _ => False
theorem jss_nil : JSs P X [] wNext := fun Ga Ha Ew tk => PSs.imp pss_nil fun D σ H ⟨σw, G, Dw, fa, rs, rp, ht, h1, h2, h3, h4⟩ => h1 σw G σ H (.refl _ _) rs rp ht
theorem jss_cons (ha : JS P X st t) (hb : JSs P X rest u) : JSs P X (st :: rest) (wSeq t u) := fun Ga Ha Ew tk =>
  PSs.imp (pss_cons (ha Ga Ha Ew tk) (hb Ga Ha Ew tk)) fun D σ H ⟨σw, G, Dw, fa, rs, rp, ht, h1, h2, h3, h4⟩ => ⟨σw, G, _, fa, rs, rp, ht, fun σw' G' σ' H' f r p q =>
    ⟨σw', G', Dw, fa.trans f, r, p, q, fun a b c d f' => h1 a b c d (f.trans f'), fun a b c d f' => h2 a b c d (f.trans f'), fun a b c d f' => h3 a b c d (f.trans f'), fun a b c d f' => h4 a b c d (f.trans f')⟩, h2, h3, h4⟩
theorem jss_one (ha : JS P X st t) : JSs P X [st] t := fun Ga Ha Ew tk => pss_one (ha Ga Ha Ew tk)
theorem js_pass : JS P X (.Pass pos) wNext := fun Ga Ha Ew tk => PS.imp ps_pass fun D σ H ⟨σw, G, Dw, fa, rs, rp, ht, h1, h2, h3, h4⟩ => h1 σw G σ H (.refl _ _) rs rp ht
theorem js_break : JS P X (.Break pos) wBreak := fun Ga Ha Ew tk => PS.imp ps_break fun D σ H ⟨σw, G, Dw, fa, rs, rp, ht, h1, h2, h3, h4⟩ => h3 σw G σ H (.refl _ _) rs rp ht
theorem js_continue : JS P X (.Continue pos) wCont := fun Ga Ha Ew tk => PS.imp ps_continue fun D σ H ⟨σw, G, Dw, fa, rs, rp, ht, h1, h2, h3, h4⟩ => h4 σw G σ H (.refl _ _) rs rp ht
theorem js_never : JS P X st wNever := fun Ga Ha Ew tk => PS.imp ps_never fun D σ H ⟨σw, G, Dw, fa, rs, rp, ht, _⟩ => ht
theorem jss_never {sts : List Stmt} : JSs P X sts wNever := fun Ga Ha Ew tk => PSs.imp pss_never fun D σ H ⟨σw, G, Dw, fa, rs, rp, ht, _⟩ => ht
def wDrop (te : WTE) : WTS := fun D σ G E => te σ G (fun _ G1 => D.nx σ G1) E
theorem js_expr (he : JE P X e te) (hs : swapsWith e none pos.line X.env = pure false := by rfl) : JS P X (.Expr e pos) (wDrop te) := fun Ga Ha Ew tk =>
  PS.imp (ps_expr (he Ga Ha Ew tk) hs) fun D σ H ⟨σw, G, Dw, fa, rs, rp, ht, h1, h2, h3, h4⟩ => ⟨σw, G, _, fa, rs, rp, ht, fun w G' v H' f r p q => h1 σw G' σ H' f (rs.fw rp f) p q⟩
def wRet (te : WTE) : WTS := fun D σ G E => te σ G D.rt E
theorem js_ret (he : JE P X e te) : JS P X (.Return (some e) pos) (wRet te) := fun Ga Ha Ew tk =>
  PS.imp (ps_ret (he Ga Ha Ew tk)) fun D σ H ⟨σw, G, Dw, fa, rs, rp, ht, h1, h2, h3, h4⟩ => ⟨σw, G, _, fa, rs, rp, ht, fun w G' v H' f r p q => h2 w G' v H' f r p q⟩
def wRetN : WTS := fun D _ G _ => D.rt .non G
theorem js_retN : JS P X (.Return none pos) wRetN := fun Ga Ha Ew tk => PS.imp ps_retN fun D σ H ⟨σw, G, Dw, fa, rs, rp, ht, h1, h2, h3, h4⟩ => h2 .non G .non H (.refl _ _) .non rp ht
def wIfS (c : WTT) (t u : WTS) : WTS := fun D σ G E => c σ G (fun b G1 => if b = true then t D σ G1 E else u D σ G1 E) E
theorem js_if {c : Expr} {a b : List Stmt} {tc : WTT} (hc : JT P X c tc) (ha : JSs P X a t) (hb : JSs P X b u) : JS P X (.If c a b pos) (wIfS tc t u) := fun Ga Ha Ew tk =>
  PS.imp (ps_if (hc Ga Ha Ew tk) (ha Ga Ha Ew tk) (hb Ga Ha Ew tk)) fun D σ H ⟨σw, G, Dw, fa, rs, rp, ht, h1, h2, h3, h4⟩ => ⟨σw, G, _, fa, rs, rp, ht, fun d G1 H1 f p q => by
    have ends := And.intro (fun a b c d f' => h1 a b c d (f.trans f')) (And.intro (fun a b c d f' => h2 a b c d (f.trans f')) (And.intro (fun a b c d f' => h3 a b c d (f.trans f')) (fun a b c d f' => h4 a b c d (f.trans f'))))
    cases d with
    | true => exact ⟨σw, G1, Dw, fa.trans f, rs.fw rp f, p, q, ends⟩
    | false => exact ⟨σw, G1, Dw, fa.trans f, rs.fw rp f, p, q, ends⟩⟩

/-! ### targets -/
abbrev WTG := W → WSt → WHp → (WSt → WHp → Prop) → WXK → Prop
def embG (P : Par) (Ga : WHp) (Ha : Hp) (Ew : WXK) (t : WTG) : TG := fun v σ H Q => ∃ w σw G Qw, Fw Ga Ha G H ∧ RelW P G H w v ∧ RelSt P G H σw σ ∧ Rep P G H ∧ t w σw G Qw Ew ∧
  ∀ σw' G' σ' H', Fw G H G' H' → RelSt P G' H' σw' σ' → Rep P G' H' → Qw σw' G' → Q σ' H'
def JG (P : Par) (X : Cx) (e : Expr) (t : WTG) : Prop := ∀ Ga Ha Ew, Takes X (embX P Ga Ha Ew) → PG X e (embG P Ga Ha Ew t)
theorem PG.imp {e : Expr} {t t' : TG} (h : PG X e t) (i : ∀ v σ H Q, t' v σ H Q → t v σ H Q) : PG X e t' := ⟨fun pins s σ H v u Q I r q => h.run pins s σ H v u Q I r (i v σ H Q q)⟩
def wN (i : Nat) : WTG := fun w σ G Q _ => Q (σ.set i (some w)) G
theorem jg_name {i : Nat} {x : Str} (hN : X.N.Nodup) (hi : X.N[i]? = some x) (hx : Loc X.env.scope x) (hf : X.fn x = true ∨ X.env.scope.names.lookup x = some .local := by first | exact .inl rfl | exact .inr rfl | assumption) : JG P X (.Name x pos) (wN i) := fun Ga Ha Ew tk =>
  PG.imp (pg_name hN hi hx hf) fun v σ H Q ⟨w, σw, G, Qw, fa, rw_, rs, rp, ht, hq⟩ => hq _ G _ H (.refl _ _) (rs.set rw_ i) rp ht
def wAsg (te : WTE) (g : WTG) : WTS := fun D σ G E => te σ G (fun x G1 => g x σ G1 D.nx E) E
theorem js_set {i : Nat} {x : Str} {pos' : Pos} (hN : X.N.Nodup) (hi : X.N[i]? = some x) (hx : Loc X.env.scope x) (he : JE P X e te) (hs : swapsWith e (some (.Name x pos')) pos.line X.env = pure false := by rfl) (hf : X.fn x = true ∨ X.env.scope.names.lookup x = some .local := by first | exact .inl rfl | exact .inr rfl | assumption) :
    JS P X (.Assign [.Name x pos'] e pos) (wAsg te (wN i)) := fun Ga Ha Ew tk =>
  PS.imp (ps_set hN hi hx (he Ga Ha Ew tk) hs hf) fun D σ H ⟨σw, G, Dw, fa, rs, rp, ht, h1, h2, h3, h4⟩ => ⟨σw, G, _, fa, rs, rp, ht, fun w G' v H' f r p q => h1 _ G' _ H' f ((rs.fw rp f).set r i) p q⟩
theorem js_asg {tg : Expr} {g : WTG} (he : JE P X e te) (hg : JG P X tg g) (hs : swapsWithSole [tg] e pos.line X.env = pure false := by rfl) (hw : swappedStores [tg] e X.env = pure none := by rfl)
    (h1 : (assignEach [tg] X.env).map (·.2) = [assign tg X.env] := by rfl) : JS P X (.Assign [tg] e pos) (wAsg te g) := fun Ga Ha Ew tk =>
  PS.imp (ps_asg (he Ga Ha Ew tk) (hg Ga Ha Ew tk) hs hw h1) fun D σ H ⟨σw, G, Dw, fa, rs, rp, ht, h1, h2, h3, h4⟩ => ⟨σw, G, _, fa, rs, rp, ht, fun w G' v H' f r p q =>
    ⟨w, σw, G', Dw.nx, fa.trans f, r, rs.fw rp f, p, q, fun a b c d f' => h1 a b c d (f.trans f')⟩⟩
/-- a, b = a tuple -/
abbrev WTGs := List W → WSt → WHp → (WSt → WHp → Prop) → WXK → Prop
def embGs (P : Par) (Ga : WHp) (Ha : Hp) (Ew : WXK) (t : WTGs) : TGs := fun v σ H Q => ∃ w σw G Qw, Fw Ga Ha G H ∧ RelWs P G H w v ∧ RelSt P G H σw σ ∧ Rep P G H ∧ t w σw G Qw Ew ∧
  ∀ σw' G' σ' H', Fw G H G' H' → RelSt P G' H' σw' σ' → Rep P G' H' → Qw σw' G' → Q σ' H'
def JGs (P : Par) (X : Cx) (e : List Expr) (t : WTGs) : Prop := ∀ Ga Ha Ew, Takes X (embX P Ga Ha Ew) → PGs X e (embGs P Ga Ha Ew t)
theorem PGs.imp {e : List Expr} {t t' : TGs} (h : PGs X e t) (i : ∀ v σ H Q, t' v σ H Q → t v σ H Q) : PGs X e t' := ⟨fun pins s σ H v u Q I r q => h.run pins s σ H v u Q I r (i v σ H Q q)⟩
def wGNil : WTGs := fun vs σ G Q _ => vs = [] ∧ Q σ G
def wGCons (t : WTG) (u : WTGs) : WTGs := fun vs σ G Q E => ∃ v r, vs = v :: r ∧ t v σ G (fun σ' G' => u r σ' G' Q E) E
theorem jgs_nil : JGs P X [] wGNil := fun Ga Ha Ew tk => PGs.imp pgs_nil fun v σ H Q ⟨w, σw, G, Qw, fa, rw_, rs, rp, ht, hq⟩ => by
  obtain ⟨rfl, q⟩ := ht
  cases rw_
  exact ⟨rfl, hq _ G _ H (.refl _ _) rs rp q⟩
theorem jgs_cons {es : List Expr} {g : WTG} {gs : WTGs} (ha : JG P X e g) (hb : JGs P X es gs) (hs : (assignEach (e :: es) X.env).map (·.2) = assign e X.env :: (assignEach es X.env).map (·.2) := by rfl) : JGs P X (e :: es) (wGCons g gs) := fun Ga Ha Ew tk =>
  PGs.imp (pgs_cons (ha Ga Ha Ew tk) (hb Ga Ha Ew tk) hs) fun v σ H Q ⟨w, σw, G, Qw, fa, rw_, rs, rp, ht, hq⟩ => by
    obtain ⟨w1, wr, rfl, q⟩ := ht
    cases rw_ with
    | cons _ v1 _ vr r1 rr =>
      exact ⟨v1, vr, rfl, w1, σw, G, _, fa, r1, rs, rp, q, fun σw' G' σ' H' f r p q2 => ⟨wr, σw', G', Qw, fa.trans f, rr.fw rp f, r, p, q2, fun a b c d f' => hq a b c d (f.trans f')⟩⟩
def wGTup (n : Nat) (t : WTGs) : WTG := fun w σ G Q E => ∃ xs, w = .tup xs ∧ xs.length = n ∧ t xs σ G Q E
theorem RelWs.length {G : WHp} {H : Hp} : ∀ {ws : List W} {vs : List V}, RelWs P G H ws vs → ws.length = vs.length
  | _, _, .nil => rfl
  | _, _, .cons w v ws vs _ r => by simp [RelWs.length r]
theorem jg_tup (hK : X.K = P.K) {es : List Expr} {k : Nat} {g : WTGs} {n : Nat} (hc : X.calm = true) (h : JGs P X es g)
    (hn : (assignEach es X.env).length = n := by rfl) (hst : (assignEach es X.env).findIdx? (·.1) = none := by rfl) : JG P X (.Tuple es k pos) (wGTup n g) := fun Ga Ha Ew tk =>
  PG.imp (pg_tup hc (h Ga Ha Ew tk) hn hst) fun v σ H Q ⟨w, σw, G, Qw, fa, rw_, rs, rp, ht, hq⟩ => by
    obtain ⟨xs, rfl, hl, q⟩ := ht
    cases rw_ with
    | tup a vs ws sq r => exact ⟨a, vs, rfl, by rw [hK]; exact sq, by rw [← r.length]; exact hl, xs, σw, G, Qw, fa, r, rs, rp, q, hq⟩
end

/-! ### for -/
/-- what is walked: its items, and what must stay for them to come -/
abbrev WTI := WSt → WHp → (List W → (WHp → Prop) → WHp → Prop) → WXK → Prop
/-- soundness of what is walked: the items come, one by one, at every heap that is reached with ok -/
def embI (P : Par) (Ga : WHp) (Ha : Hp) (Ew : WXK) (t : WTI) : TI := fun σ H R => ∃ σw G Rw, Fw Ga Ha G H ∧ RelSt P G H σw σ ∧ Rep P G H ∧ t σw G Rw Ew ∧
  ∀ (xs : List W) (ok : WHp → Prop) (G1 : WHp) (H1 : Hp) (J : It), Fw G H G1 H1 → Rep P G1 H1 → Rw xs ok G1 →
    (∀ i G2 H2, Fw G1 H1 G2 H2 → Rep P G2 H2 → ok G2 → xs.length ≤ i → J.stop i H2) →
    (∀ i G2 H2, Fw G1 H1 G2 H2 → Rep P G2 H2 → ok G2 → i < xs.length → J.go i H2) →
    (∀ i G2 H2 x H3, Fw G1 H1 G2 H2 → Rep P G2 H2 → ok G2 → i < xs.length → J.yld i H2 x H3 → ∃ w, xs[i]? = some w ∧ Fw G2 H2 G2 H3 ∧ Rep P G2 H3 ∧ RelW P G2 H3 w x) → R J H1
def JI (P : Par) (X : Cx) (tg iter : Expr) (t : WTI) : Prop := ∀ Ga Ha Ew, Takes X (embX P Ga Ha Ew) → PI X tg iter (embI P Ga Ha Ew t)
def wFor (wi : WTI) (g : WTG) (tb : WTS) : WTS := fun D σ G E => wi σ G (fun xs ok G1 => ∃ Inv : Nat → WSt → WHp → Prop, Inv 0 σ G1 ∧ (∀ i σ' G', i ≤ xs.length → Inv i σ' G' → ok G') ∧
  (∀ i x σ' G', xs[i]? = some x → Inv i σ' G' → g x σ' G' (fun σ2 G2 => tb { D with nx := Inv (i + 1), ct := Inv (i + 1), bk := D.nx } σ2 G2 E) E) ∧ (∀ σ' G', Inv xs.length σ' G' → D.nx σ' G')) E
section
variable {P : Par} {X : Cx} {pos : Pos} {tg iter : Expr} {body : List Stmt} {wi : WTI} {g : WTG} {tb : WTS}
theorem js_for (hp : PassesOwn (model X.prog X.w) X.A X.env X.xe) (hc : X.calm = true) (hi : JI P X tg iter wi) (hg : JG P X tg g) (hb : JSs P X body tb)
    (hs : ∀ x, foldedSetIterable iter X.env x = pure x := by intro _; rfl) : JS P X (.For tg iter body [] pos) (wFor wi g tb) := fun Ga Ha Ew tk =>
  PS.imp (ps_for hp hc (hi Ga Ha Ew tk) (hg Ga Ha Ew tk) (hb Ga Ha Ew tk) hs) fun D σ H ⟨σw, G, Dw, fa, rs, rp, ht, h1, h2, h3, h4⟩ => ⟨σw, G, _, fa, rs, rp, ht, fun xs ok G1 H1 J f1 p1 hR hstop hgo hyld => by
    obtain ⟨Iv, i0, iok, istep, iend⟩ := hR
    refine ⟨fun i m σ' H' => m = xs.length - i ∧ i ≤ xs.length ∧ ∃ σw' G', Fw G1 H1 G' H' ∧ RelSt P G' H' σw' σ' ∧ Rep P G' H' ∧ Iv i σw' G', ⟨_, rfl, Nat.zero_le _, σw, G1, .refl _ _, rs.fw rp f1, p1, i0⟩, ?_⟩
    rintro i m σ' H' ⟨rfl, hi, σw', G', f', rs', rp', iv⟩
    have hok := iok i σw' G' hi iv
    by_cases hlt : i < xs.length
    · refine .inr ⟨hgo i G' H' f' rp' hok hlt, fun σ2 H2 => i + 1 ≤ xs.length ∧ ∃ σw' G', Fw G1 H1 G' H2 ∧ RelSt P G' H2 σw' σ2 ∧ Rep P G' H2 ∧ Iv (i + 1) σw' G', fun σ2 H2 n => ⟨xs.length - (i + 1), by omega, rfl, n⟩, fun x H3 y => ?_⟩
      obtain ⟨w, hw, f3, p3, rw_⟩ := hyld i G' H' x H3 f' rp' hok hlt y
      refine ⟨w, σw', G', _, fa.trans (f1.trans (f'.trans f3)), rw_, rs'.fw rp' f3, p3, istep i w σw' G' hw iv, fun σw4 G4 σ4 H4 f4 r4 p4 q4 => ?_⟩
      refine ⟨σw4, G4, _, fa.trans (f1.trans ((f'.trans f3).trans f4)), r4, p4, q4, fun σw5 G5 σ5 H5 f5 r5 p5 q5 => ?_, fun w5 G5 v5 H5 f5 r5 p5 q5 => ?_, fun σw5 G5 σ5 H5 f5 r5 p5 q5 => ?_, fun σw5 G5 σ5 H5 f5 r5 p5 q5 => ?_⟩
      · exact ⟨hlt, σw5, G5, (f'.trans f3).trans (f4.trans f5), r5, p5, q5⟩
      · exact h2 w5 G5 v5 H5 (f1.trans ((f'.trans f3).trans (f4.trans f5))) r5 p5 q5
      · exact h1 σw5 G5 σ5 H5 (f1.trans ((f'.trans f3).trans (f4.trans f5))) r5 p5 q5
      · exact ⟨hlt, σw5, G5, (f'.trans f3).trans (f4.trans f5), r5, p5, q5⟩
    · have e : i = xs.length := by omega
      subst e
      exact .inl ⟨hstop _ G' H' f' rp' hok (Nat.le_refl _), h1 σw' G' σ' H' (f1.trans f') rs' rp' (iend σw' G' iv)⟩⟩
def wWhile (c : WTT) (tb : WTS) : WTS := fun D σ G E => ∃ Inv : Nat → WSt → WHp → Prop, (∃ m, Inv m σ G) ∧ ∀ m σ' G', Inv m σ' G' → c σ' G' (fun b G2 =>
  if b = true then tb { D with nx := fun σ3 G3 => ∃ m', m' < m ∧ Inv m' σ3 G3, ct := fun σ3 G3 => ∃ m', m' < m ∧ Inv m' σ3 G3, bk := D.nx } σ' G2 E else D.nx σ' G2) E
theorem js_while {c : Expr} {tc : WTT} (hp : PassesOwn (model X.prog X.w) X.A X.env X.xe) (hc : JT P X c tc) (hb : JSs P X body tb) : JS P X (.While c body [] pos) (wWhile tc tb) := fun Ga Ha Ew tk =>
  PS.imp (ps_while hp (hc Ga Ha Ew tk) (hb Ga Ha Ew tk)) fun D σ H ⟨σw, G, Dw, fa, rs, rp, ⟨Iv, ⟨m0, i0⟩, istep⟩, h1, h2, h3, h4⟩ => by
    refine ⟨fun m σ' H' => ∃ σw' G', Fw G H G' H' ∧ RelSt P G' H' σw' σ' ∧ Rep P G' H' ∧ Iv m σw' G', ⟨m0, σw, G, .refl _ _, rs, rp, i0⟩, ?_⟩
    rintro m σ' H' ⟨σw', G', f', rs', rp', iv⟩
    refine ⟨σw', G', _, fa.trans f', rs', rp', istep m σw' G' iv, fun b G2 H2 f2 p2 q2 => ?_⟩
    cases b with
    | true =>
      refine ⟨_, fun σ3 H3 n => n, σw', G2, _, fa.trans (f'.trans f2), rs'.fw rp' f2, p2, q2, fun σw5 G5 σ5 H5 f5 r5 p5 ⟨m', hm, q5⟩ => ?_, fun w5 G5 v5 H5 f5 r5 p5 q5 => ?_, fun σw5 G5 σ5 H5 f5 r5 p5 q5 => ?_, fun σw5 G5 σ5 H5 f5 r5 p5 ⟨m', hm, q5⟩ => ?_⟩
      · exact ⟨m', hm, σw5, G5, f'.trans (f2.trans f5), r5, p5, q5⟩
      · exact h2 w5 G5 v5 H5 (f'.trans (f2.trans f5)) r5 p5 q5
      · exact h1 σw5 G5 σ5 H5 (f'.trans (f2.trans f5)) r5 p5 q5
      · exact ⟨m', hm, σw5, G5, f'.trans (f2.trans f5), r5, p5, q5⟩
    | false => exact h1 σw' G2 σ' H2 (f'.trans f2) (rs'.fw rp' f2) p2 q2
end

/-! ### arguments -/
section
variable {P : Par} {X : Cx} {e : Expr} {es : List Expr} {te : WTE} {ta : WTA} {pos : Pos}
def wNil : WTA := fun _ G Q _ => Q [] G
def wCons (ta : WTE) (tr : WTA) : WTA := fun σ G Q E => ta σ G (fun x G1 => tr σ G1 (fun xs G2 => Q (x :: xs) G2) E) E
theorem ja_nil : JA P X [] wNil := fun Ga Ha Ew tk => PA.imp pa_nil fun σ H Q ⟨σw, G, Qw, fa, rs, rp, ht, hq⟩ => hq _ G _ H (.refl _ _) .nil rp ht
theorem ja_cons (ha : JE P X e te) (hr : JA P X es ta) (hs : starEach (e :: es) X.env = (false, eval e X.env) :: starEach es X.env := by rfl) : JA P X (e :: es) (wCons te ta) := fun Ga Ha Ew tk =>
  PA.imp (pa_cons (ha Ga Ha Ew tk) (hr Ga Ha Ew tk) hs) fun σ H Q ⟨σw, G, Qw, fa, rs, rp, ht, hq⟩ => ⟨σw, G, _, fa, rs, rp, ht, fun w G1 v H1 f1 r1 p1 q1 =>
    ⟨σw, G1, _, fa.trans f1, rs.fw rp f1, p1, q1, fun ws G2 vs H2 f2 r2 p2 q2 => hq (w :: ws) G2 (v :: vs) H2 (f1.trans f2) (.cons _ _ _ _ (r1.fw p1 f2) r2) p2 q2⟩⟩
/-- a display: a tuple; a list that nothing changes; a list that may change -/
def wTup (t : WTA) : WTE := fun σ G Q E => t σ G (fun xs G1 => xs.length ≤ sizeLine ∧ Q (.tup xs) G1) E
def wLstI (t : WTA) : WTE := fun σ G Q E => t σ G (fun xs G1 => xs.length ≤ sizeLine ∧ Q (.il xs) G1) E
def wLstM (t : WTA) : WTE := fun σ G Q E => t σ G (fun xs G1 => xs.length ≤ sizeLine ∧ ∀ p, G1 p = none → Q (.ref p) (updG G1 p (.lst xs))) E
theorem je_tup {x1} (h : JA P X es ta) : JE P X (.Tuple es x1 pos) (wTup ta) := fun Ga Ha Ew tk =>
  PE.imp (pe_tup (h Ga Ha Ew tk)) fun σ H Q ⟨σw, G, Qw, fa, rs, rp, ht, hq⟩ => ⟨σw, G, _, fa, rs, rp, ht, fun ws G1 vs H1 f1 r1 p1 ⟨hl, q1⟩ => ⟨by rw [← r1.length]; exact hl, fun p hp =>
    hq _ G1 _ _ (f1.trans (.hid hp)) (.tup p vs ws (.inl (.inl upd_same)) (r1.fw p1 (.hid hp))) (p1.hid hp) q1⟩⟩
theorem je_lstI (h : JA P X es ta) : JE P X (.List es pos) (wLstI ta) := fun Ga Ha Ew tk =>
  PE.imp (pe_lst (h Ga Ha Ew tk)) fun σ H Q ⟨σw, G, Qw, fa, rs, rp, ht, hq⟩ => ⟨σw, G, _, fa, rs, rp, ht, fun ws G1 vs H1 f1 r1 p1 ⟨hl, q1⟩ => ⟨by rw [← r1.length]; exact hl, fun p hp =>
    hq _ G1 _ _ (f1.trans (.hid hp)) (.il p vs ws ⟨upd_same, p1.free hp⟩ (r1.fw p1 (.hid hp))) (p1.hid hp) q1⟩⟩
theorem je_lstM (h : JA P X es ta) : JE P X (.List es pos) (wLstM ta) := fun Ga Ha Ew tk =>
  PE.imp (pe_lst (h Ga Ha Ew tk)) fun σ H Q ⟨σw, G, Qw, fa, rs, rp, ht, hq⟩ => ⟨σw, G, _, fa, rs, rp, ht, fun ws G1 vs H1 f1 r1 p1 ⟨hl, q1⟩ => ⟨by rw [← r1.length]; exact hl, fun p hp =>
    hq _ _ _ _ (f1.trans (.new hp)) (.ref p) (p1.put (u := .lst ws) (.new hp) ⟨vs, upd_same, r1.fw p1 (.new hp)⟩) (q1 p (p1.free hp))⟩⟩
end

/-! ### the text's defs -/
/-- a def's promise -/
abbrev WSp := List W → WHp → WQ → (Xc → WHp → Prop) → Prop
def embSp (P : Par) (sp : WSp) : Sp := fun vs H Q E => ∃ ws G Qw Ew, RelWs P G H ws vs ∧ Rep P G H ∧ sp ws G Qw Ew ∧ (∀ w G' v H', Fw G H G' H' → RelW P G' H' w v → Rep P G' H' → Qw w G' → Q v H') ∧
  (∀ c fs G' d H', Fw G H G' H' → Rep P G' H' → ExcD P G' H' d fs → Ew ⟨c, fs⟩ G' → E (.ref (P.ca c)) d H')
abbrev FnW (P : Par) (prog : Program) (w : World) (mg : Str → Option Value) (base : Heap) (k : Nat) (f : Addr) (fd : FuncData) (ps : List Str) (sp : WSp) : Prop :=
  FnOk prog w P.K mg base (L2.CX prog w) k f fd ps (embSp P sp)
section
variable {P : Par} {X : Cx} {k : Nat} {f : Addr} {fd : FuncData} {ps : List Str} {sp : WSp} {x : Str} {p pos : Pos} {e : Expr} {es : List Expr} {ta : WTA}
def wCall (sp : WSp) (t : WTA) : WTE := fun σ G Q E => t σ G (fun ws G1 => sp ws G1 Q fun c G2 => E c σ G2) E
/-- what is wished of an exception of a call, at the caller's slots -/
theorem passW {Ga : WHp} {Ha : Hp} {Ew : WXK} (tk : Takes X (embX P Ga Ha Ew)) (σ : L2.St) : PassesAt (L2.CX X.prog X.w) X σ (fun cls d H' => embX P Ga Ha Ew cls d σ H') := passAt tk σ
theorem call_step {Ga : WHp} {Ha : Hp} {Ew : WXK} : ∀ σ H Q, embE P Ga Ha Ew (wCall sp ta) σ H Q → tCallSD (embSp P sp) [] (fun σ cls d H' => embX P Ga Ha Ew cls d σ H') (embA P Ga Ha Ew ta) σ H Q :=
  fun σ H Q ⟨σw, G, Qw, fa, rs, rp, ht, hq⟩ => ⟨σw, G, _, fa, rs, rp, ht, fun ws G1 vs H1 f1 r1 p1 q1 => by
    show embSp P sp (vs ++ []) H1 Q _
    rw [List.append_nil]
    exact ⟨ws, G1, Qw, _, r1, p1, q1, fun w G2 v H2 f2 r2 p2 q2 => hq w G2 v H2 (f1.trans f2) r2 p2 q2, fun c fs G2 d H2 f2 p2 ed q2 => ⟨c, fs, σw, G2, rfl, fa.trans (f1.trans f2), rs.fw rp (f1.trans f2), p2, ed, q2⟩⟩⟩
theorem je_call (hK : X.K = P.K) (F : FnW P X.prog X.w X.mg X.base k f fd ps sp) (hr : Room k X.A) (hg : Gl X x) (hm : X.mg x = some (.ref f)) (hk : PySem.W.keepIn P.K (.ref f) = true) (hb : Binds P.K fd ps [])
    (ha : JA P X (e :: es) ta) (hdb : (x == ("__debug__" : Str)) = false := by decide) (he : starEach (e :: es) X.env = (false, eval e X.env) :: starEach es X.env := by rfl) (hpl : (backTo pos (starEach es X.env)).any (·.1) = false := by rfl) :
    JE P X (.Call (.Name x p) (e :: es) [] pos) (wCall sp ta) := fun Ga Ha Ew tk =>
  PE.imp (pe_callSD (E := fun σ cls d H' => embX P Ga Ha Ew cls d σ H') (by rw [hK]; exact F) hr hg hm (by rw [hK]; exact hk) (by rw [hK]; exact hb) .nil (fun σ => passW tk σ) (ha Ga Ha Ew tk) hdb he hpl) call_step
/-- a def by its body -/
def wStart (N : List Str) (ws : List W) : WSt := ws.map some ++ List.replicate (N.length - ws.length) none
theorem RelSt.start {G : WHp} {H : Hp} (N : List Str) : ∀ {ws : List W} {vs : List V} (n : Nat), RelWs P G H ws vs → RelSt P G H (ws.map some ++ List.replicate n none) (vs.map some ++ List.replicate n none)
  | _, _, 0, .nil => .nil
  | _, _, n + 1, .nil => by
    show RelSt P G H (none :: List.replicate n none) (none :: List.replicate n none)
    exact .hole _ _ _ (RelSt.start N (ws := []) (vs := []) n .nil)
  | _, _, n, .cons w v ws vs h r => .val w v _ _ h (RelSt.start N n r)
theorem takes_top {prog : Program} {w : World} {K : PySem.W.Frag} {mg : Str → Option Value} {base : Heap} {N : List Str} {qual : Str} {scope : Scope} {f : Addr} {cd : Value} {A : Around} {outer : List Env} {s : Shared} {H : Hp} {E : XK} {W : WX}
    (hW : ∀ cls d σ H', W cls d σ H' → E cls d H') : Takes (cxOf (L2.CX prog w) prog w K mg base N qual scope f cd A outer s H E) W := Takes.imp (takes_of rfl rfl rfl rfl) hW
theorem Fun.okW {prog : Program} {w : World} {mg : Str → Option Value} {base : Heap} {x qual : Str} {st : Stmt} {N : List Str} (F : Fun P.K x qual st f fd) (Sc : FnScope N ps (defScope st)) (len : ∀ ws G Q E, sp ws G Q E → ws.length = ps.length)
    (hbody : ∀ (cdv : Value) (A : Around) (outer : List Env) (s : Shared) (H : Hp) (E : XK), Room k (A.deeper (envOfC qual (defScope st) s.heap.objs.size f cdv)) →
      ∃ t : WTS, JSs P (cxOf (L2.CX prog w) prog w P.K mg base N qual (defScope st) f cdv A outer s H E) (defBody st) t ∧
        ∀ ws G Q Ex, sp ws G Q Ex → t { nx := fun _ G' => Q .non G', rt := Q, bk := fun _ _ => False, ct := fun _ _ => False } (wStart N ws) G (fun c _ G' => Ex c G')) : FnW P prog w mg base (k + 1) f fd ps sp := by
  refine F.okX Sc (fun vs H Q E h => ?_) (fun cdv A outer s H vs Q E hr h => ?_)
  · obtain ⟨ws, G, Qw, Ew, r, _, h, _⟩ := h
    rw [← r.length]
    exact len _ _ _ _ h
  · obtain ⟨ws, G, Qw, Ew, r, rp, h, hq, hE⟩ := h
    obtain ⟨t, ht, hs⟩ := hbody cdv A outer s H E hr
    refine ⟨_, ht G H (fun c _ G' => Ew c G') (takes_top fun cls d σ H' ⟨c, fs, σw, G', e1, f1, _, p1, ed, q⟩ => by subst e1; exact hE c fs G' d H' f1 p1 ed q), wStart N ws, G, _, .refl _ _, ?_, rp, hs ws G Qw Ew h, fun σw' G' σ' H' f1 r1 p1 q1 => hq .non G' .non H' f1 .non p1 q1, fun w G' v H' f1 r1 p1 q1 => hq w G' v H' f1 r1 p1 q1, fun _ _ _ _ _ _ _ q => q.elim, fun _ _ _ _ _ _ _ q => q.elim⟩
    unfold wStart L2.start
    rw [r.length]
    exact RelSt.start N _ r
end
end Lw
/-! W3: operators by values. -/
namespace Lw
open PySem PySem.Spec PyProof.Rows L2

/-! ### texts -/
theorem S_len (s : List Nat) : (S s).length = s.length := rfl
theorem S_list (s : List Nat) : (S s).cps.toList = s := rfl
theorem S_app (s t : List Nat) : (S s : Str) ++ (S t : Str) = S (s ++ t) := by
  show (⟨s.toArray ++ t.toArray⟩ : Str) = ⟨(s ++ t).toArray⟩
  congr 1
  simp
theorem S_inj {s t : List Nat} (h : S s = S t) : s = t := by
  have := congrArg (fun z : Str => z.cps.toList) h
  exact this
theorem S_of (z : Str) : z = S z.cps.toList := by
  cases z with
  | mk c => cases c; rfl
theorem dec_S (s t : List Nat) : decide (S s = S t) = decide (s = t) := by
  by_cases h : s = t
  · subst h; simp
  · rw [decide_eq_false h, decide_eq_false fun q => h (S_inj q)]

/-! ### lists, tuples, as one reads them -/
/-- a list that may be joined to another: what nothing changes, or seen -/
def lstOf (G : WHp) : W → Option (List W)
  | .il xs => some xs
  | .ref p => match G p with
    | some (.lst xs) => some xs
    | _ => none
  | _ => none
/-- a list, the script too -/
def sqOf (G : WHp) : W → Option (List W)
  | .sc ns => some (ns.map W.int)
  | w => lstOf G w
section
variable {P : Par} {X : Cx} {G : WHp} {H : Hp}
theorem RelWs.ints : ∀ (ns : List Int), RelWs P G H (ns.map W.int) (ns.map V.int)
  | [] => .nil
  | n :: r => .cons _ _ _ _ (.int n) (RelWs.ints r)
theorem lstOf_rel (rp : Rep P G H) {w : W} {v : V} {xs : List W} (r : RelW P G H w v) (e : lstOf G w = some xs) : ∃ a vs, v = .ref a ∧ H a = some (.lst vs) ∧ RelWs P G H xs vs := by
  cases r with
  | il a vs ws h rs => cases e; exact ⟨a, vs, rfl, h.1, rs⟩
  | ref a =>
    dsimp only [lstOf] at e
    cases q : G a with
    | none => rw [q] at e; cases e
    | some o =>
      rw [q] at e
      cases o with
      | lst ws =>
        cases e
        obtain ⟨vs, h, rs⟩ := rp a _ q
        exact ⟨a, vs, rfl, h, rs⟩
      | dct _ => cases e
      | obj _ _ => cases e
      | fz _ _ _ => cases e
  | non => cases e
  | bl b => cases e
  | int i => cases e
  | str s => cases e
  | ty n => cases e
  | sc a ns h => cases e
  | tup a vs ws h rs => cases e
  | dk a kv kvs h g rs => cases e
  | io a dx c fv fs h g rs => cases e
theorem sqOf_rel (rp : Rep P G H) {w : W} {v : V} {xs : List W} (r : RelW P G H w v) (e : sqOf G w = some xs) : ∃ a vs, v = .ref a ∧ SqL P.K H a vs ∧ RelWs P G H xs vs := by
  have go : ∀ {w}, RelW P G H w v → lstOf G w = some xs → ∃ a vs, v = .ref a ∧ SqL P.K H a vs ∧ RelWs P G H xs vs := fun r e => by
    obtain ⟨a, vs, e1, h, rs⟩ := lstOf_rel rp r e
    exact ⟨a, vs, e1, .of h, rs⟩
  cases w with
  | sc ns =>
    cases e
    cases r with
    | sc a _ h => exact ⟨a, _, rfl, h.sq, .ints ns⟩
  | _ => exact go r e
theorem RelWs.get : ∀ {ws : List W} {vs : List V} {i : Nat} {w : W}, RelWs P G H ws vs → ws[i]? = some w → ∃ v, vs[i]? = some v ∧ RelW P G H w v
  | _, _, i, w, .nil, e => by simp at e
  | _, _, 0, w, .cons w' v' ws vs h r, e => by simp at e; subst e; exact ⟨v', rfl, h⟩
  | _, _, i + 1, w, .cons w' v' ws vs h r, e => by
    obtain ⟨v, h1, h2⟩ := RelWs.get (i := i) r (by simpa using e)
    exact ⟨v, by simpa using h1, h2⟩
theorem RelWs.get' {ws : List W} {vs : List V} {i : Nat} {v : V} (r : RelWs P G H ws vs) (e : vs[i]? = some v) : ∃ w, ws[i]? = some w ∧ RelW P G H w v := by
  have hi : i < vs.length := (List.getElem?_eq_some_iff.mp e).1
  have hw : i < ws.length := by rw [r.length]; exact hi
  obtain ⟨v', h1, h2⟩ := r.get (List.getElem?_eq_getElem hw)
  rw [e] at h1
  cases h1
  exact ⟨_, List.getElem?_eq_getElem hw, h2⟩
theorem RelWs.append : ∀ {ws zs : List W} {vs us : List V}, RelWs P G H ws vs → RelWs P G H zs us → RelWs P G H (ws ++ zs) (vs ++ us)
  | _, _, _, _, .nil, s => s
  | _, _, _, _, .cons _ _ _ _ h r, s => .cons _ _ _ _ h (RelWs.append r s)
theorem RelWs.take : ∀ {ws : List W} {vs : List V} (n : Nat), RelWs P G H ws vs → RelWs P G H (ws.take n) (vs.take n)
  | _, _, 0, _ => by simpa using RelWs.nil
  | _, _, n + 1, .nil => by simpa using RelWs.nil
  | _, _, n + 1, .cons _ _ _ _ h r => .cons _ _ _ _ h (RelWs.take n r)
theorem RelWs.drop : ∀ {ws : List W} {vs : List V} (n : Nat), RelWs P G H ws vs → RelWs P G H (ws.drop n) (vs.drop n)
  | _, _, 0, r => r
  | _, _, n + 1, .nil => by simpa using RelWs.nil
  | _, _, n + 1, .cons _ _ _ _ h r => RelWs.drop n r
theorem RelWs.set {w : W} {v : V} (h : RelW P G H w v) : ∀ {ws : List W} {vs : List V} (i : Nat), RelWs P G H ws vs → RelWs P G H (ws.set i w) (vs.set i v)
  | _, _, i, .nil => by simpa using RelWs.nil
  | _, _, 0, .cons _ _ _ _ _ r => .cons _ _ _ _ h r
  | _, _, i + 1, .cons _ _ _ _ q r => .cons _ _ _ _ q (RelWs.set h i r)
theorem RelWs.atI {ws : List W} {vs : List V} {i : Int} {w : W} (r : RelWs P G H ws vs) (e : atI ws i = some w) : ∃ v, atI vs i = some v ∧ RelW P G H w v := by
  unfold L2.atI at e ⊢
  rw [← r.length]
  cases q : ixN ws.length i with
  | none => rw [q] at e; cases e
  | some j => rw [q] at e; exact r.get e

/-! ### arithmetic -/
/-- the end of a rule that makes no object -/
theorem emb_end {Qw : WQ} {Q : VK} {w : W} {v : V} (hq : ∀ w G' v H', Fw G H G' H' → RelW P G' H' w v → Rep P G' H' → Qw w G' → Q v H') (rp : Rep P G H) (r : RelW P G H w v) (q : Qw w G) : Q v H := hq w G v H (.refl _ _) r rp q
def big : Nat := 16777216
theorem big_eq : sizeLine = big := sizeLine_eq
def oAdd : WR2 := fun x y G Q => match x, y with
  | .int i, .int j => Q (.int (i + j)) G
  | .str s, .str t => s.length + t.length ≤ big ∧ Q (.str (s ++ t)) G
  | .tup xs, .tup ys => xs.length + ys.length ≤ big ∧ Q (.tup (xs ++ ys)) G
  | x, y => ∃ xs ys, lstOf G x = some xs ∧ lstOf G y = some ys ∧ xs.length + ys.length ≤ big ∧ Q (.il (xs ++ ys)) G
theorem ow_add (hK : X.K = P.K) : OpW P X (binaryOp .Add) oAdd := by
  refine OpR.imp (OpR.or op_add (OpR.or op_add_str (OpR.or op_catA op_cat))) fun x y H Q ⟨wx, wy, G, Qw, rx, ry, rp, h, hq⟩ => ?_
  have lists : ∀ {wx wy : W}, RelW P G H wx x → RelW P G H wy y → (∃ xs ys, lstOf G wx = some xs ∧ lstOf G wy = some ys ∧ xs.length + ys.length ≤ big ∧ Qw (.il (xs ++ ys)) G) → rCat x y H Q := by
    rintro wx wy rx ry ⟨xs, ys, ex, ey, hl, q⟩
    obtain ⟨a, vs, rfl, ha, ra⟩ := lstOf_rel rp rx ex
    obtain ⟨b, us, rfl, hb, rb⟩ := lstOf_rel rp ry ey
    refine ⟨a, b, vs, us, rfl, rfl, ha, hb, by rw [← ra.length, ← rb.length, big_eq]; exact hl, fun p hp => ?_⟩
    exact hq _ G _ _ (.hid hp) (.il p _ _ ⟨upd_same, rp.free hp⟩ ((ra.append rb).fw rp (.hid hp))) (rp.hid hp) q
  by_cases h1 : ∃ i j, wx = .int i ∧ wy = .int j
  · obtain ⟨i, j, rfl, rfl⟩ := h1
    cases rx; cases ry
    exact .inl ⟨i, j, rfl, rfl, emb_end hq rp (.int _) h⟩
  by_cases h2 : ∃ i j, wx = .str i ∧ wy = .str j
  · obtain ⟨i, j, rfl, rfl⟩ := h2
    cases rx; cases ry
    exact .inr (.inl ⟨_, _, rfl, rfl, by rw [S_len, S_len, big_eq]; exact h.1, by rw [S_app]; exact emb_end hq rp (.str _) h.2⟩)
  by_cases h3 : ∃ i j, wx = .tup i ∧ wy = .tup j
  · obtain ⟨i, j, rfl, rfl⟩ := h3
    cases rx with
    | tup a vs _ ha ra =>
      cases ry with
      | tup b us _ hb rb =>
        refine .inr (.inr (.inl ⟨a, b, vs, us, rfl, rfl, by rw [hK]; exact ha, by rw [hK]; exact hb, by rw [← ra.length, ← rb.length, big_eq]; exact h.1, fun e => ?_, fun e1 e2 => ?_, fun _ _ p hp => ?_⟩))
        · subst e
          cases ra
          exact emb_end hq rp (.tup b us _ hb rb) h.2
        · subst e2
          cases rb
          have q2 := h.2
          rw [List.append_nil] at q2
          exact emb_end hq rp (.tup a vs _ ha ra) q2
        · exact hq _ G _ _ (.hid hp) (.tup p _ _ (.inl (.inl upd_same)) ((ra.append rb).fw rp (.hid hp))) (rp.hid hp) h.2
  refine .inr (.inr (.inr (lists rx ry ?_)))
  revert h
  unfold oAdd
  split
  · exact fun _ => absurd ⟨_, _, rfl, rfl⟩ h1
  · exact fun _ => absurd ⟨_, _, rfl, rfl⟩ h2
  · exact fun _ => absurd ⟨_, _, rfl, rfl⟩ h3
  · exact id
def oI (C : Int → Int → Prop) (g : Int → Int → Int) : WR2 := fun x y G Q => match x, y with
  | .int i, .int j => C i j ∧ Q (.int (g i j)) G
  | _, _ => False
theorem ow_int {f : Value → Value → Sem Value} {C : Int → Int → Prop} {g : Int → Int → Int} (h : OpR X f (rI C fun i j => .int (g i j))) : OpW P X f (oI C g) :=
  OpR.imp h fun x y H Q ⟨wx, wy, G, Qw, rx, ry, rp, h, hq⟩ => by
    unfold oI at h
    split at h
    · cases rx; cases ry; exact ⟨_, _, rfl, rfl, h.1, emb_end hq rp (.int _) h.2⟩
    · exact h.elim
theorem ow_int0 {f : Value → Value → Sem Value} {g : Int → Int → Int} (h : OpR X f (rI0 fun i j => .int (g i j))) : OpW P X f (oI (fun _ _ => True) g) :=
  OpR.imp h fun x y H Q ⟨wx, wy, G, Qw, rx, ry, rp, h, hq⟩ => by
    unfold oI at h
    split at h
    · cases rx; cases ry; exact ⟨_, _, rfl, rfl, emb_end hq rp (.int _) h.2⟩
    · exact h.elim
abbrev oSub : WR2 := oI (fun _ _ => True) (· - ·)
abbrev oMul : WR2 := oI CMul (· * ·)
abbrev oMod : WR2 := oI (fun _ j => 0 < j) (· % ·)
abbrev oDiv : WR2 := oI CDiv (· / ·)
abbrev oPow : WR2 := oI CPow (fun i j => i ^ j.toNat)
abbrev oShl : WR2 := oI CShl (fun i j => i * 2 ^ j.toNat)
abbrev oShr : WR2 := oI (fun _ j => 0 ≤ j) (fun i j => i / 2 ^ j.toNat)
abbrev oAnd : WR2 := oI (fun _ _ => True) Builtin.bitAnd
abbrev oOr : WR2 := oI (fun _ _ => True) Builtin.bitOr
theorem ow_sub : OpW P X (binaryOp .Sub) oSub := ow_int0 op_sub
theorem ow_mul : OpW P X (binaryOp .Mult) oMul := ow_int op_mul
theorem ow_mod : OpW P X (binaryOp .Mod) oMod := ow_int op_mod
theorem ow_div : OpW P X (binaryOp .FloorDiv) oDiv := ow_int op_fdiv
theorem ow_pow : OpW P X (binaryOp .Pow) oPow := ow_int op_pow
theorem ow_shl : OpW P X (binaryOp .LShift) oShl := ow_int op_shlW
theorem ow_shr : OpW P X (binaryOp .RShift) oShr := ow_int op_shr
theorem ow_and : OpW P X (binaryOp .BitAnd) oAnd := ow_int0 op_and
theorem ow_or : OpW P X (binaryOp .BitOr) oOr := ow_int0 op_or
/-- list * int -/
def oRep : WR2 := fun x y G Q => match y with
  | .int k => ∃ xs, lstOf G x = some xs ∧ -(2 ^ 63) ≤ k ∧ k < 2 ^ 63 ∧ xs.length * k.toNat ≤ big ∧ Q (.il (List.replicate k.toNat xs).flatten) G
  | _ => False
def oNeg : WR1 := fun x G Q => match x with
  | .int i => Q (.int (-i)) G
  | _ => False
theorem uw_neg : UnW P X (unaryOp .USub) oNeg := UnR.imp un_neg fun x H Q ⟨wx, G, Qw, rx, rp, h, hq⟩ => by
  unfold oNeg at h
  split at h
  · cases rx; exact ⟨_, rfl, emb_end hq rp (.int _) h⟩
  · exact h.elim

/-! ### comparisons -/
def oC (p : Int → Int → Bool) : WR2 := fun x y G Q => match x, y with
  | .int i, .int j => Q (.bl (p i j)) G
  | _, _ => False
theorem ow_cmp {f : Value → Value → Sem Value} {p : Int → Int → Bool} (h : OpR X f (rI0 fun i j => .bl (p i j))) : OpW P X f (oC p) :=
  OpR.imp h fun x y H Q ⟨wx, wy, G, Qw, rx, ry, rp, h, hq⟩ => by
    unfold oC at h
    split at h
    · cases rx; cases ry; exact ⟨_, _, rfl, rfl, emb_end hq rp (.bl _) h⟩
    · exact h.elim
abbrev oLt : WR2 := oC fun i j => decide (i < j)
abbrev oLe : WR2 := oC fun i j => decide (i ≤ j)
abbrev oGt : WR2 := oC fun i j => decide (j < i)
abbrev oGe : WR2 := oC fun i j => decide (j ≤ i)
theorem ow_lt : OpW P X (compareOp .Lt) oLt := ow_cmp op_lt
theorem ow_le : OpW P X (compareOp .LtE) oLe := ow_cmp op_le
theorem ow_gt : OpW P X (compareOp .Gt) oGt := ow_cmp op_gt
theorem ow_ge : OpW P X (compareOp .GtE) oGe := ow_cmp op_ge
end

mutual
inductive DpW (G : WHp) : W → PyData → Prop
  | non : DpW G .non .none
  | bl (b : Bool) : DpW G (.bl b) (.bool b)
  | int (i : Int) : DpW G (.int i) (.int i)
  | str (s : List Nat) : DpW G (.str s) (.str (S s))
  | tup (ws : List W) (ds : List PyData) : DpWs G ws ds → DpW G (.tup ws) (.tuple ds)
  | lst (w : W) (ws : List W) (ds : List PyData) : sqOf G w = some ws → DpWs G ws ds → DpW G w (.list ds)
inductive DpWs (G : WHp) : List W → List PyData → Prop
  | nil : DpWs G [] []
  | cons (w : W) (d : PyData) (ws : List W) (ds : List PyData) : DpW G w d → DpWs G ws ds → DpWs G (w :: ws) (d :: ds)
end
section
variable {P : Par} {X : Cx} {G : WHp} {H : Hp}
mutual
theorem DpW.dp (rp : Rep P G H) : ∀ {w : W} {v : V} {d : PyData}, DpW G w d → RelW P G H w v → Dp P.K H v d
  | _, _, _, .non, r => by cases r; exact .non
  | _, _, _, .bl b, r => by cases r; exact .bl b
  | _, _, _, .int i, r => by cases r; exact .int i
  | _, _, _, .str s, r => by cases r; exact .str _
  | _, _, _, .tup ws ds h, r => by
    cases r with
    | tup a vs _ ha ra => exact .tup ha (DpWs.dp rp h ra)
  | _, _, _, .lst w ws ds e h, r => by
    obtain ⟨a, vs, rfl, ha, ra⟩ := sqOf_rel rp r e
    exact .lst ha (DpWs.dp rp h ra)
theorem DpWs.dp (rp : Rep P G H) : ∀ {w : List W} {v : List V} {d : List PyData}, DpWs G w d → RelWs P G H w v → DpAll P.K H v d
  | _, _, _, .nil, r => by cases r; exact .nil
  | _, _, _, .cons w d ws ds h hs, r => by
    cases r with
    | cons _ v _ vs r1 rr => exact .cons (DpW.dp rp h r1) (DpWs.dp rp hs rr)
end
/-- scalars that == tells apart -/
def sclW : W → W → Option Bool
  | .int i, .int j => some (decide (i = j))
  | .str s, .str t => some (decide (s = t))
  | .bl a, .bl b => some (decide (a = b))
  | .non, .non => some true
  | .non, .int _ => some false
  | .int _, .non => some false
  | .non, .str _ => some false
  | .str _, .non => some false
  | .non, .bl _ => some false
  | .bl _, .non => some false
  | .int _, .str _ => some false
  | .str _, .int _ => some false
  | .bl _, .str _ => some false
  | .str _, .bl _ => some false
  | _, _ => none
theorem sclW_rel {wx wy : W} {x y : V} {k : Bool} (rx : RelW P G H wx x) (ry : RelW P G H wy y) (e : sclW wx wy = some k) : scal x y = true ∧ decide (x = y) = k := by
  unfold sclW at e
  split at e <;> first
    | (cases e; cases rx; cases ry; exact ⟨rfl, by simp⟩)
    | (cases e; cases rx; cases ry; refine ⟨rfl, ?_⟩; first | rfl | simp | (rw [← dec_S]; congr 1; exact propext ⟨fun h => V.str.inj h, fun h => by rw [h]⟩))
    | cases e
/-- data that are compared item by item: what the comparison says -/
def eqD (G : WHp) (x y : W) (k : Bool → Prop) : Prop := ∃ d e, DpW G x d ∧ DpW G y e ∧ SeqAt.shaped d = true ∧ SeqAt.shaped e = true ∧ k (PyData.eqv d e)
def oEq : WR2 := fun x y G Q => match sclW x y with
  | some k => Q (.bl k) G
  | none => eqD G x y fun k => Q (.bl k) G
def oNe : WR2 := fun x y G Q => match sclW x y with
  | some k => Q (.bl (!k)) G
  | none => eqD G x y fun k => Q (.bl (!k)) G
theorem ow_eq (hK : X.K = P.K) (hu : X.A.units + 64 < cLine) : OpW P X (compareOp .Eq) oEq := OpR.imp (OpR.or op_eq (op_eqD hu)) fun x y H Q ⟨wx, wy, G, Qw, rx, ry, rp, h, hq⟩ => by
  revert h
  unfold oEq
  cases e : sclW wx wy with
  | some k =>
    intro q
    obtain ⟨h1, h2⟩ := sclW_rel rx ry e
    exact .inl ⟨h1, by rw [h2]; exact emb_end hq rp (.bl _) q⟩
  | none =>
    rintro ⟨d, e, hd, he, sd, se, q⟩
    exact .inr ⟨d, e, by rw [hK]; exact hd.dp rp rx, by rw [hK]; exact he.dp rp ry, sd, se, emb_end hq rp (.bl _) q⟩
theorem ow_ne (hK : X.K = P.K) (hu : X.A.units + 64 < cLine) : OpW P X (compareOp .NotEq) oNe := OpR.imp (OpR.or op_ne (op_neD hu)) fun x y H Q ⟨wx, wy, G, Qw, rx, ry, rp, h, hq⟩ => by
  revert h
  unfold oNe
  cases e : sclW wx wy with
  | some k =>
    intro q
    obtain ⟨h1, h2⟩ := sclW_rel rx ry e
    exact .inl ⟨h1, by rw [h2]; exact emb_end hq rp (.bl _) q⟩
  | none =>
    rintro ⟨d, e, hd, he, sd, se, q⟩
    exact .inr ⟨d, e, by rw [hK]; exact hd.dp rp rx, by rw [hK]; exact he.dp rp ry, sd, se, emb_end hq rp (.bl _) q⟩
def isNonW : W → Bool
  | .non => true
  | _ => false
theorem isNonW_rel {w : W} {v : V} (r : RelW P G H w v) : decide (v = .non) = isNonW w := by cases r <;> simp [isNonW]
def oIs : WR2 := fun x y G Q => match y with
  | .non => Q (.bl (isNonW x)) G
  | _ => False
def oIsNot : WR2 := fun x y G Q => match y with
  | .non => Q (.bl (!isNonW x)) G
  | _ => False
theorem ow_is : OpW P X (compareOp .Is) oIs := OpR.imp op_isN fun x y H Q ⟨wx, wy, G, Qw, rx, ry, rp, h, hq⟩ => by
  unfold oIs at h
  split at h
  · cases ry; exact ⟨rfl, by rw [isNonW_rel rx]; exact emb_end hq rp (.bl _) h⟩
  · exact h.elim
theorem ow_isnot : OpW P X (compareOp .IsNot) oIsNot := OpR.imp op_notN fun x y H Q ⟨wx, wy, G, Qw, rx, ry, rp, h, hq⟩ => by
  unfold oIsNot at h
  split at h
  · cases ry; exact ⟨rfl, by rw [isNonW_rel rx]; exact emb_end hq rp (.bl _) h⟩
  · exact h.elim

/-! ### in -/
/-- flat values -/
def flW : W → Bool
  | .non => true
  | .bl _ => true
  | .int _ => true
  | .str _ => true
  | _ => false
def eqFl : W → W → Bool
  | .non, .non => true
  | .bl a, .bl b => a == b
  | .bl a, .int b => (if a then 1 else 0) == b
  | .int a, .bl b => a == (if b then 1 else 0)
  | .int a, .int b => a == b
  | .str a, .str b => decide (a = b)
  | _, _ => false
theorem flW_rel {w : W} {v : V} (r : RelW P G H w v) (h : flW w = true) : flatV v = true := by cases r <;> first | rfl | cases h
theorem eqFl_rel {w z : W} {v u : V} (r : RelW P G H w v) (s : RelW P G H z u) (h : flW w = true) (h' : flW z = true) : eqV v u = eqFl w z := by
  cases r <;> first
    | (exact absurd (show false = true from h) Bool.false_ne_true)
    | (cases s <;> first
        | (exact absurd (show false = true from h') Bool.false_ne_true)
        | rfl
        | (unfold eqV eqFl; rw [← dec_S]; rfl)
        | (show (S _ == S _) = decide _; rw [← dec_S]; rfl))
theorem all_flat : ∀ {ws : List W} {vs : List V}, RelWs P G H ws vs → ws.all flW = true → vs.all flatV = true
  | _, _, .nil, _ => rfl
  | _, _, .cons w v ws vs h r, e => by
    rw [List.all_cons, Bool.and_eq_true] at e ⊢
    exact ⟨flW_rel h e.1, all_flat r e.2⟩
theorem inV_rel {x : W} {v : V} (rx : RelW P G H x v) (hx : flW x = true) : ∀ {ws : List W} {vs : List V}, RelWs P G H ws vs → ws.all flW = true → inV v vs = ws.any fun y => eqFl y x
  | _, _, .nil, _ => rfl
  | _, _, .cons w u ws vs h r, e => by
    rw [List.all_cons, Bool.and_eq_true] at e
    show (eqV u v || inV v vs) = (eqFl w x || ws.any fun y => eqFl y x)
    rw [eqFl_rel h rx e.1 hx, inV_rel rx hx r e.2]
/-- one sign in a text; a flat value in a list or tuple of flat values -/
def inW (G : WHp) (x y : W) (k : Bool → Prop) : Prop := match x, y with
  | .str s, .str t => ∃ c, s = [c] ∧ k (decide (c ∈ t))
  | x, .tup ws => flW x = true ∧ ws.all flW = true ∧ k (ws.any fun y => eqFl y x)
  | x, y => ∃ ws, sqOf G y = some ws ∧ flW x = true ∧ ws.all flW = true ∧ k (ws.any fun y => eqFl y x)
def oIn : WR2 := fun x y G Q => inW G x y fun b => Q (.bl b) G
def oNotIn : WR2 := fun x y G Q => inW G x y fun b => Q (.bl (!b)) G
theorem inW_rel (rp : Rep P G H) {x y : W} {u v : V} {k : Bool → Prop} (rx : RelW P G H x u) (ry : RelW P G H y v) (h : inW G x y k) :
    (∃ (c : Nat) (z : Str), u = .str ⟨#[c]⟩ ∧ v = .str z ∧ k (decide (c ∈ z.cps.toList))) ∨ ∃ p xs, v = .ref p ∧ (SqL P.K H p xs ∨ SqT P.K H p xs) ∧ flatV u = true ∧ xs.all flatV = true ∧ k (inV u xs) := by
  unfold inW at h
  split at h
  · obtain ⟨c, rfl, q⟩ := h
    cases rx; cases ry
    exact .inl ⟨c, _, rfl, rfl, q⟩
  · obtain ⟨h1, h2, q⟩ := h
    cases ry with
    | tup a vs _ ha ra => exact .inr ⟨a, vs, rfl, .inr ha, flW_rel rx h1, all_flat ra h2, by rw [inV_rel rx h1 ra h2]; exact q⟩
  · obtain ⟨ws, e, h1, h2, q⟩ := h
    obtain ⟨a, vs, rfl, ha, ra⟩ := sqOf_rel rp ry e
    exact .inr ⟨a, vs, rfl, .inl ha, flW_rel rx h1, all_flat ra h2, by rw [inV_rel rx h1 ra h2]; exact q⟩
theorem ow_in (hK : X.K = P.K) : OpW P X (compareOp .In) oIn := OpR.imp (OpR.or op_in_sign op_in_seq) fun x y H Q ⟨wx, wy, G, Qw, rx, ry, rp, h, hq⟩ => by
  rcases inW_rel rp rx ry h with ⟨c, z, e1, e2, q⟩ | ⟨p, xs, e, hs, h1, h2, q⟩
  · exact .inl ⟨c, z, e1, e2, emb_end hq rp (.bl _) q⟩
  · exact .inr ⟨p, xs, e, by rw [hK]; exact hs, h1, h2, emb_end hq rp (.bl _) q⟩
theorem ow_notin (hK : X.K = P.K) : OpW P X (compareOp .NotIn) oNotIn := OpR.imp (OpR.or op_notIn_sign op_notIn_seq) fun x y H Q ⟨wx, wy, G, Qw, rx, ry, rp, h, hq⟩ => by
  rcases inW_rel rp rx ry h with ⟨c, z, e1, e2, q⟩ | ⟨p, xs, e, hs, h1, h2, q⟩
  · exact .inl ⟨c, z, e1, e2, emb_end hq rp (.bl _) q⟩
  · exact .inr ⟨p, xs, e, by rw [hK]; exact hs, h1, h2, emb_end hq rp (.bl _) q⟩

/-! ### a[i] -/
def oIx : WR2 := fun x y G Q => match x, y with
  | .str s, .int i => s.length ≤ big ∧ ∃ c, atI s i = some c ∧ Q (.str [c]) G
  | .tup ws, .int i => ∃ w, atI ws i = some w ∧ Q w G
  | x, .int i => ∃ ws w, sqOf G x = some ws ∧ atI ws i = some w ∧ Q w G
  | _, _ => False
def IxW (P : Par) (X : Cx) (wr : WR2) : Prop := IxR X (emb2 P wr)
theorem IxR.imp {r r' : R2} (h : IxR X r) (i : ∀ x y H Q, r' x y H Q → r x y H Q) : IxR X r' := fun value slice pins s σ H x y v u Q I rx ry q hs => h value slice pins s σ H x y v u Q I rx ry (i x y H Q q) hs
theorem iw_seq (hK : X.K = P.K) : IxW P X oIx := IxR.imp ix_seq fun x y H Q ⟨wx, wy, G, Qw, rx, ry, rp, h, hq⟩ => by
  unfold oIx at h
  split at h
  · obtain ⟨hl, c, e, q⟩ := h
    cases rx; cases ry
    exact .inr (.inr ⟨_, _, c, rfl, rfl, by rw [S_len, big_eq]; exact hl, e, emb_end hq rp (.str [c]) q⟩)
  · obtain ⟨w, e, q⟩ := h
    cases ry
    cases rx with
    | tup a vs _ ha ra =>
      obtain ⟨v, e', r⟩ := ra.atI e
      exact .inr (.inl ⟨a, vs, _, v, rfl, rfl, by rw [hK]; exact ha, e', emb_end hq rp r q⟩)
  · obtain ⟨ws, w, e0, e, q⟩ := h
    cases ry
    obtain ⟨a, vs, rfl, ha, ra⟩ := sqOf_rel rp rx e0
    obtain ⟨v, e', r⟩ := ra.atI e
    exact .inl ⟨a, vs, _, v, rfl, rfl, by rw [hK]; exact ha, e', emb_end hq rp r q⟩
  · exact h.elim
theorem je_ix {a b : Expr} {ta tb : WTE} {pos : Pos} {wr : WR2} (hr : IxW P X wr) (ha : JE P X a ta) (hb : JE P X b tb) (hs : PlainIx b := by exact fun _ _ => rfl) : JE P X (.Subscript a b pos) (wOp wr ta tb) :=
  fun Ga Ha Ew tk => PE.imp (pe_ix hr (ha Ga Ha Ew tk) (hb Ga Ha Ew tk) hs) op_step
end
end Lw
/-! W4: freezing; slices; what is walked; comprehensions; builtins. -/
namespace Lw
open PySem PySem.Spec PyProof.Rows L2

/-! ### fewer seen objects -/
section
variable {P : Par} {X : Cx} {G G2 : WHp} {H : Hp}
mutual
theorem RelW.sub (s : ∀ a, G a = none → G2 a = none) : ∀ {w : W} {v : V}, RelW P G H w v → RelW P G2 H w v
  | _, _, .non => .non
  | _, _, .bl b => .bl b
  | _, _, .int i => .int i
  | _, _, .str x => .str x
  | _, _, .ref a => .ref a
  | _, _, .ty n => .ty n
  | _, _, .sc a ns h => .sc a ns h
  | _, _, .tup a vs ws h r => .tup a vs ws h (RelWs.sub s r)
  | _, _, .il a vs ws h r => .il a vs ws ⟨h.1, s a h.2⟩ (RelWs.sub s r)
  | _, _, .dk a kv kvs h g r => .dk a kv kvs h (s a g) (RelKs.sub s r)
  | _, _, .io a dx c fv fs h g r => .io a dx c fv fs h (s a g) (RelFs.sub s r)
theorem RelWs.sub (s : ∀ a, G a = none → G2 a = none) : ∀ {w : List W} {v : List V}, RelWs P G H w v → RelWs P G2 H w v
  | _, _, .nil => .nil
  | _, _, .cons w v ws vs h r => .cons w v ws vs (RelW.sub s h) (RelWs.sub s r)
theorem RelKs.sub (s : ∀ a, G a = none → G2 a = none) : ∀ {w : List (KW × W)} {v : List (Key × V)}, RelKs P G H w v → RelKs P G2 H w v
  | _, _, .nil => .nil
  | _, _, .cons k w v ws vs h r => .cons k w v ws vs (RelW.sub s h) (RelKs.sub s r)
theorem RelFs.sub (s : ∀ a, G a = none → G2 a = none) : ∀ {w : List (Nat × W)} {v : List (Str × V)}, RelFs P G H w v → RelFs P G2 H w v
  | _, _, .nil => .nil
  | _, _, .cons k w v ws vs h r => .cons k w v ws vs (RelW.sub s h) (RelFs.sub s r)
end
theorem RelSt.sub (s : ∀ a, G a = none → G2 a = none) : ∀ {σw : WSt} {σ : L2.St}, RelSt P G H σw σ → RelSt P G2 H σw σ
  | _, _, .nil => .nil
  | _, _, .val w v σw σ h r => .val w v σw σ (h.sub s) (RelSt.sub s r)
  | _, _, .hole o σw σ r => .hole o σw σ (RelSt.sub s r)
theorem RepO.sub (s : ∀ a, G a = none → G2 a = none) {a : Addr} {o : WO} (h : RepO P G H a o) : RepO P G2 H a o := by
  cases o with
  | lst ws => obtain ⟨vs, z, r⟩ := h; exact ⟨vs, z, r.sub s⟩
  | dct ws => obtain ⟨vs, z, r⟩ := h; exact ⟨vs, z, r.sub s⟩
  | obj c fs => obtain ⟨dx, vs, z, r⟩ := h; exact ⟨dx, vs, z, r.sub s⟩
  | fz od u ws => obtain ⟨z, kv, e', r⟩ := h; exact ⟨z, kv, e', r.sub s⟩
/-- G2 is a part of G -/
def Sub (G2 G : WHp) : Prop := ∀ a o, G2 a = some o → G a = some o
theorem Sub.nn (s : Sub G2 G) : ∀ a, G a = none → G2 a = none := fun a e => by
  cases q : G2 a with
  | none => rfl
  | some o => rw [s a o q] at e; cases e
theorem Sub.refl (G : WHp) : Sub G G := fun _ _ h => h
theorem Sub.trans {G1 G2 G3 : WHp} (a : Sub G1 G2) (b : Sub G2 G3) : Sub G1 G3 := fun c o h => b c o (a c o h)
theorem Sub.new {p : Addr} {o : WO} (h : G p = none) : Sub G (updG G p o) := fun a u e => by
  rw [updG_ne (fun z => by rw [z, h] at e; cases e)]; exact e
theorem Rep.sub (s : Sub G2 G) (rp : Rep P G H) : Rep P G2 H := fun a o e => (rp a o (s a o e)).sub s.nn
/-- w2 is w seen as a value, the objects outside of G2 left -/
inductive Frz (G G2 : WHp) : W → W → Prop
  | same (w : W) : Frz G G2 w w
  | lst (p : Addr) (ws : List W) : G p = some (.lst ws) → G2 p = none → Frz G G2 (.ref p) (.il ws)
  | dct (p : Addr) (ws : List (KW × W)) : G p = some (.dct ws) → G2 p = none → Frz G G2 (.ref p) (.dk ws)
  | obj (p : Addr) (c : Nat) (fs : List (Nat × W)) : G p = some (.obj c fs) → G2 p = none → Frz G G2 (.ref p) (.io c fs)
theorem Frz.rel (s : Sub G2 G) (rp : Rep P G H) {w w2 : W} {v : V} (f : Frz G G2 w w2) (r : RelW P G H w v) : RelW P G2 H w2 v := by
  cases f with
  | same => exact r.sub s.nn
  | lst p ws e n =>
    cases r
    obtain ⟨vs, h, rs⟩ := rp p _ e
    exact .il p vs ws ⟨h, n⟩ (rs.sub s.nn)
  | dct p ws e n =>
    cases r
    obtain ⟨vs, h, rs⟩ := rp p _ e
    exact .dk p vs ws h n (rs.sub s.nn)
  | obj p c fs e n =>
    cases r
    obtain ⟨dx, vs, h, rs⟩ := rp p _ e
    exact .io p dx c vs fs h n (rs.sub s.nn)
/-- a tuple whose items are seen as values -/
inductive Frzs (G G2 : WHp) : List W → List W → Prop
  | nil : Frzs G G2 [] []
  | cons (w w2 : W) (ws ws2 : List W) : Frz G G2 w w2 → Frzs G G2 ws ws2 → Frzs G G2 (w :: ws) (w2 :: ws2)
theorem Frzs.rel (s : Sub G2 G) (rp : Rep P G H) : ∀ {w w2 : List W} {v : List V}, Frzs G G2 w w2 → RelWs P G H w v → RelWs P G2 H w2 v
  | _, _, _, .nil, .nil => .nil
  | _, _, _, .cons w w2 ws ws2 f fs, .cons _ v _ vs r rs => .cons _ _ _ _ (f.rel s rp r) (Frzs.rel s rp fs rs)
/-- what is handed back may be seen as a value; objects may be left -/
def View (w : W) (G : WHp) (w2 : W) (G2 : WHp) : Prop := Sub G2 G ∧ (Frz G G2 w w2 ∨ ∃ ws ws2, w = .tup ws ∧ w2 = .tup ws2 ∧ Frzs G G2 ws ws2)
theorem View.rel {w w2 : W} {v : V} (f : View w G w2 G2) (rp : Rep P G H) (r : RelW P G H w v) : RelW P G2 H w2 v ∧ Rep P G2 H := by
  obtain ⟨s, f | ⟨ws, ws2, rfl, rfl, fs⟩⟩ := f
  · exact ⟨f.rel s rp r, rp.sub s⟩
  · refine ⟨?_, rp.sub s⟩
    cases r with
    | tup a vs _ h rs => exact .tup a vs ws2 h (fs.rel s rp rs)
theorem View.refl {w : W} {G : WHp} : View w G w G := ⟨.refl G, .inl (.same w)⟩
theorem Fw.sub {Ga : WHp} {Ha : Hp} (f : Fw Ga Ha G H) (s : Sub G2 G) : Fw Ga Ha G2 H := fun a o h g => let ⟨h1, g1⟩ := f a o h g; ⟨h1, s.nn a g1⟩
def delG (G : WHp) (p : Addr) : WHp := fun b => if b = p then none else G b
theorem delG_same {p : Addr} : delG G p p = none := if_pos rfl
theorem delG_ne {p a : Addr} (h : a ≠ p) : delG G p a = G a := if_neg h
theorem Sub.del {p : Addr} : Sub (delG G p) G := fun a o e => by
  by_cases h : a = p
  · subst h; rw [delG_same] at e; cases e
  · rwa [delG_ne h] at e
theorem delG_updG {p : Addr} {o : WO} (h : G p = none) : delG (updG G p o) p = G := by
  funext b
  by_cases e : b = p
  · subst e; rw [delG_same, h]
  · rw [delG_ne e, updG_ne e]
end

/-! ### slices -/
abbrev WTO := WSt → WHp → (Option Int → WHp → Prop) → WXK → Prop
def embO (P : Par) (Ga : WHp) (Ha : Hp) (Ew : WXK) (t : WTO) : TO := fun σ H Q => ∃ σw G Qw, Fw Ga Ha G H ∧ RelSt P G H σw σ ∧ Rep P G H ∧ t σw G Qw Ew ∧ ∀ b G' H', Fw G H G' H' → Rep P G' H' → Qw b G' → Q b H'
def JO (P : Par) (X : Cx) (e : Option Expr) (t : WTO) : Prop := ∀ Ga Ha Ew, Takes X (embX P Ga Ha Ew) → PO X e (embO P Ga Ha Ew t)
def wNoPart : WTO := fun _ G Q _ => Q none G
def wPart (te : WTE) : WTO := fun σ G Q E => te σ G (fun x G1 => ∃ i, x = .int i ∧ Q (some i) G1) E
def cutL {α : Type} (xs : List α) (lo hi : Option Int) : List α := (xs.drop (HT.sIx xs.length 0 lo)).take (HT.sIx xs.length xs.length hi - HT.sIx xs.length 0 lo)
abbrev WRSl := W → Option Int → Option Int → WHp → WQ → Prop
def wSl (wr : WRSl) (te : WTE) (tl th : WTO) : WTE := fun σ G Q E => te σ G (fun x G1 => tl σ G1 (fun l G2 => th σ G2 (fun u G3 => wr x l u G3 Q) E) E) E
def embSl (P : Par) (wr : WRSl) : V → Option Int → Option Int → Hp → VK → Prop := fun x lo hi H Q => ∃ wx G Qw, RelW P G H wx x ∧ Rep P G H ∧ wr wx lo hi G Qw ∧ ∀ w G' v H', Fw G H G' H' → RelW P G' H' w v → Rep P G' H' → Qw w G' → Q v H'
def SlW (P : Par) (X : Cx) (wr : WRSl) : Prop := SlR X (embSl P wr)
section
variable {P : Par} {X : Cx} {G : WHp} {H : Hp} {e : Expr} {te : WTE} {lo hi : Option Expr} {tl th : WTO} {pos p2 : Pos}
theorem jo_none : JO P X none wNoPart := fun Ga Ha Ew tk => ⟨fun pins s σ H Q I ⟨σw, G, Qw, fa, rs, rp, ht, hq⟩ => (po_none (X := X)).run pins s σ H Q I (hq none G H (.refl _ _) rp ht)⟩
theorem jo_some (h : JE P X e te) : JO P X (some e) (wPart te) := fun Ga Ha Ew tk => ⟨fun pins s σ H Q I ⟨σw, G, Qw, fa, rs, rp, ht, hq⟩ => (po_some (h Ga Ha Ew tk)).run pins s σ H Q I
  ⟨σw, G, _, fa, rs, rp, ht, fun w G' v H' f r p ⟨i, e, q⟩ => by subst e; cases r; exact ⟨i, rfl, hq (some i) G' H' f p q⟩⟩⟩
theorem je_slice {wr : WRSl} (hr : SlW P X wr) (he : JE P X e te) (hl : JO P X lo tl) (hu : JO P X hi th) : JE P X (.Subscript e (.Slice lo hi none p2) pos) (wSl wr te tl th) := fun Ga Ha Ew tk =>
  PE.imp (pe_slice hr (he Ga Ha Ew tk) (hl Ga Ha Ew tk) (hu Ga Ha Ew tk)) fun σ H Q ⟨σw, G, Qw, fa, rs, rp, ht, hq⟩ => ⟨σw, G, _, fa, rs, rp, ht, fun w1 G1 v1 H1 f1 r1 p1 h1 => ⟨σw, G1, _, fa.trans f1, rs.fw rp f1, p1, h1, fun l G2 H2 f2 p2 h2 =>
    ⟨σw, G2, _, fa.trans (f1.trans f2), (rs.fw rp f1).fw p1 f2, p2, h2, fun u G3 H3 f3 p3 h3 => ⟨w1, G3, Qw, r1.fw p1 f2 |>.fw p2 f3, p3, h3, fun w G' v H' f r p q => hq w G' v H' (f1.trans (f2.trans (f3.trans f))) r p q⟩⟩⟩⟩
theorem SlR.imp {r r' : V → Option Int → Option Int → Hp → VK → Prop} (h : SlR X r) (i : ∀ x l u H Q, r' x l u H Q → r x l u H Q) : SlR X r' := fun pins s σ H x v vl vu lo hi sl Q I rx hs pl pu q => h pins s σ H x v vl vu lo hi sl Q I rx hs pl pu (i _ _ _ _ _ q)
theorem RelWs.cut {ws : List W} {vs : List V} (r : RelWs P G H ws vs) (lo hi : Option Int) : RelWs P G H (cutL ws lo hi) (cutV vs lo hi) := by
  unfold cutL cutV
  rw [r.length]
  exact (r.drop _).take _
theorem cutS_S (s : List Nat) (lo hi : Option Int) : cutS (S s) lo hi = S (cutL s lo hi) := rfl
theorem cut_whole {α : Type} {xs : List α} {lo hi : Option Int} (h : HT.sIx xs.length 0 lo = 0 ∧ HT.sIx xs.length xs.length hi = xs.length) : cutL xs lo hi = xs := by
  unfold cutL
  rw [h.1, h.2, List.drop_zero, Nat.sub_zero, List.take_length]
def oSl : WRSl := fun x lo hi G Q => match x with
  | .str s => s.length ≤ big ∧ Q (.str (cutL s lo hi)) G
  | .tup ws => Q (.tup (cutL ws lo hi)) G
  | x => ∃ ws, sqOf G x = some ws ∧ Q (.il (cutL ws lo hi)) G
/-- a new list that may change -/
def oSlM : WRSl := fun x lo hi G Q => ∃ ws, sqOf G x = some ws ∧ ∀ p, G p = none → Q (.ref p) (updG G p (.lst (cutL ws lo hi)))
theorem sw_seq (hK : X.K = P.K) : SlW P X oSl := SlR.imp (SlR.or sl_str (SlR.or sl_tupA sl_list)) fun x lo hi H Q ⟨wx, G, Qw, rx, rp, h, hq⟩ => by
  unfold oSl at h
  split at h
  · cases rx
    exact .inl ⟨_, rfl, by rw [S_len, big_eq]; exact h.1, by rw [cutS_S]; exact emb_end hq rp (.str _) h.2⟩
  · rename_i ws
    cases rx with
    | tup a vs _ ha ra =>
      refine .inr (.inl ⟨a, vs, rfl, by rw [hK]; exact ha, fun e => ?_, fun _ p hp => ?_⟩)
      · rw [← ra.length] at e
        rw [cut_whole e] at h
        exact emb_end hq rp (.tup a vs ws ha ra) h
      · exact hq _ G _ _ (.hid hp) (.tup p _ _ (.inl (.inl upd_same)) ((ra.cut lo hi).fw rp (.hid hp))) (rp.hid hp) h
  · obtain ⟨ws, e, q⟩ := h
    obtain ⟨a, vs, rfl, ha, ra⟩ := sqOf_rel rp rx e
    exact .inr (.inr ⟨a, vs, rfl, by rw [hK]; exact ha, fun p hp => hq _ G _ _ (.hid hp) (.il p _ _ ⟨upd_same, rp.free hp⟩ ((ra.cut lo hi).fw rp (.hid hp))) (rp.hid hp) q⟩)
theorem sw_seqM (hK : X.K = P.K) : SlW P X oSlM := SlR.imp sl_list fun x lo hi H Q ⟨wx, G, Qw, rx, rp, ⟨ws, e, q⟩, hq⟩ => by
  obtain ⟨a, vs, rfl, ha, ra⟩ := sqOf_rel rp rx e
  exact ⟨a, vs, rfl, by rw [hK]; exact ha, fun p hp => hq _ _ _ _ (.new hp) (.ref p) (rp.put (u := .lst (cutL ws lo hi)) (.new hp) ⟨_, upd_same, (ra.cut lo hi).fw rp (.new hp)⟩) (q p (rp.free hp))⟩
end

/-! ### what is walked -/
section
variable {P : Par} {X : Cx} {G : WHp} {H : Hp} {tg e : Expr} {te : WTE} {ta : WTA} {p pos : Pos}
theorem PI.imp {t t' : TI} (h : PI X tg e t) (i : ∀ σ H R, t' σ H R → t σ H R) : PI X tg e t' := ⟨fun pins s σ H R I q => h.run pins s σ H R I (i σ H R q)⟩
/-- a list, a tuple or a text, by its value -/
def iAny (K : PySem.W.Frag) (tl : TE) : TI := fun σ H R => tl σ H fun x H1 => (∃ a, x = .ref a ∧ (∃ xs, SqL K H1 a xs) ∧ R (Itl K a) H1) ∨ (∃ a, x = .ref a ∧ (∃ xs, SqT K H1 a xs) ∧ R (Itt K a) H1) ∨ ∃ z, x = .str z ∧ R (Its z) H1
/-- an expression that was asked already -/
theorem pi_any {tl : TE} (hl : PE X e tl) : PI X tg e (iAny X.K tl) := by
  refine ⟨fun pins s σ H R I h => ?_⟩
  refine thn (hl.run pins s σ H _ I h) fun v s1 ⟨x, H1, I1, r1, q1⟩ => ?_
  rcases q1 with ⟨a, e, ⟨xs, hq⟩, q⟩ | ⟨a, e, ⟨xs, hq⟩, q⟩ | ⟨z, ez, q⟩
  · subst e
    cases r1
    obtain ⟨its, rv, p, hz⟩ := I1.list hq
    refine wpAny_pyIter_list p.isList ?_
    refine ⟨s1.heap.objs.size, [s1.heap.objs.size], _, _, H1, rfl, I1.kept (t' := s1.toks) fun b o e => Heap.get?_push_of_some _ e, turn_list a _, ⟨_, Heap.get?_push_size _ rfl, rfl, rfl⟩, fun b hb => ?_, q⟩
    have e : b = s1.heap.objs.size := by simpa using hb
    subst e
    exact I1.fpOk (Nat.le_refl _) (I1.hok.fresh (Nat.le_refl _))
  · subst e
    cases r1
    obtain ⟨its, rv, p, hz⟩ := I1.tuple hq
    refine wpAny_pyIter_tuple (show s1.heap.IsTuple a its.toArray from p) ?_
    refine ⟨s1.heap.objs.size, [s1.heap.objs.size], _, _, H1, rfl, I1.kept (t' := s1.toks) fun b o e => Heap.get?_push_of_some _ e, turn_tuple a _, ⟨_, Heap.get?_push_size _ rfl, rfl, rfl⟩, fun b hb => ?_, q⟩
    have e : b = s1.heap.objs.size := by simpa using hb
    subst e
    exact I1.fpOk (Nat.le_refl _) (I1.hok.fresh (Nat.le_refl _))
  · subst ez
    obtain ⟨t, rfl⟩ := r1
    cases ha : z.cps.all (· < 128)
    · exact wpAny_pyIter_wide ha (pi_one (tk := s1.toks) I1 _ (turn_str _ z t "str_iterator" (.inr rfl)) ⟨_, Heap.get?_push_size _ rfl, rfl, rfl⟩ q)
    · exact wpAny_pyIter_ascii ha (pi_one (tk := s1.toks) I1 _ (turn_str _ z t "str_ascii_iterator" (.inl rfl)) ⟨_, Heap.get?_push_size _ rfl, rfl, rfl⟩ q)
/-- over a list (one that nothing changes, the script, or one that is seen), a tuple, a text -/
def wIter (te : WTE) : WTI := fun σ G R E => te σ G (fun x G1 => match x with
  | .tup ws => R ws (fun _ => True) G1
  | .str s => R (s.map fun c => .str [c]) (fun _ => True) G1
  | .il ws => R ws (fun _ => True) G1
  | .sc ns => R (ns.map .int) (fun _ => True) G1
  | .ref p => ∃ ws, G1 p = some (.lst ws) ∧ R ws (fun G' => G' p = some (.lst ws)) G1
  | _ => False) E
theorem itl_ok {K : PySem.W.Frag} (hK : K = P.K) {G1 : WHp} {H1 : Hp} {ok : WHp → Prop} {a : Addr} {ws : List W} (hs : ∀ G2 H2, Fw G1 H1 G2 H2 → Rep P G2 H2 → ok G2 → ∃ vs, SqL P.K H2 a vs ∧ RelWs P G2 H2 ws vs) :
    (∀ i G2 H2, Fw G1 H1 G2 H2 → Rep P G2 H2 → ok G2 → ws.length ≤ i → (Itl K a).stop i H2) ∧
    (∀ i G2 H2, Fw G1 H1 G2 H2 → Rep P G2 H2 → ok G2 → i < ws.length → (Itl K a).go i H2) ∧
    (∀ i G2 H2 x H3, Fw G1 H1 G2 H2 → Rep P G2 H2 → ok G2 → i < ws.length → (Itl K a).yld i H2 x H3 → ∃ w, ws[i]? = some w ∧ Fw G2 H2 G2 H3 ∧ Rep P G2 H3 ∧ RelW P G2 H3 w x) := by
  subst hK
  refine ⟨fun i G2 H2 f rp ok hi => ?_, fun i G2 H2 f rp ok hi => ?_, fun i G2 H2 x H3 f rp ok _ y => ?_⟩
  · obtain ⟨vs, h1, h2⟩ := hs G2 H2 f rp ok
    exact ⟨vs, h1, by rw [← h2.length]; exact hi⟩
  · obtain ⟨vs, h1, h2⟩ := hs G2 H2 f rp ok
    obtain ⟨v, e, _⟩ := h2.get (List.getElem?_eq_getElem hi)
    exact ⟨vs, v, h1, e⟩
  · obtain ⟨vs, h1, h2⟩ := hs G2 H2 f rp ok
    obtain ⟨rfl, hy⟩ := y
    obtain ⟨w, e, r⟩ := h2.get' (hy vs h1)
    exact ⟨w, e, .refl _ _, rp, r⟩
theorem ji_iter (hK : X.K = P.K) (he : JE P X e te) : JI P X tg e (wIter te) := fun Ga Ha Ew tk =>
  PI.imp (pi_any (he Ga Ha Ew tk)) fun σ H R ⟨σw, G, Rw, fa, rs, rp, ht, hR⟩ => ⟨σw, G, _, fa, rs, rp, ht, fun w G1 v H1 f1 r1 p1 h1 => by
    revert h1
    split
    · rename_i ws
      intro h1
      cases r1 with
      | tup a vs _ ha ra =>
        refine .inr (.inl ⟨a, rfl, ⟨vs, by rw [hK]; exact ha⟩, ?_⟩)
        refine hR ws _ G1 H1 _ f1 p1 h1 (fun i G2 H2 f rp _ hi => ⟨vs, by rw [hK]; exact SqT.fw p1 f ha, by rw [← ra.length]; exact hi⟩) (fun i G2 H2 f rp _ hi => ?_) fun i G2 H2 x H3 f rp _ _ y => ?_
        · obtain ⟨v, e, _⟩ := ra.get (List.getElem?_eq_getElem hi)
          exact ⟨vs, v, by rw [hK]; exact SqT.fw p1 f ha, e⟩
        · obtain ⟨rfl, hy⟩ := y
          obtain ⟨w, e, r⟩ := ra.get' (hy vs (by rw [hK]; exact SqT.fw p1 f ha))
          exact ⟨w, e, .refl _ _, rp, r.fw p1 f⟩
    · rename_i s
      intro h1
      cases r1
      refine .inr (.inr ⟨_, rfl, ?_⟩)
      refine hR _ _ G1 H1 _ f1 p1 h1 (fun i G2 H2 f rp _ hi => ?_) (fun i G2 H2 f rp _ hi => ?_) fun i G2 H2 x H3 f rp _ _ y => ?_
      · show (s.toArray).size ≤ i
        rw [List.length_map] at hi
        simpa using hi
      · show i < (s.toArray).size
        rw [List.length_map] at hi
        simpa using hi
      · obtain ⟨rfl, c, hc, rfl⟩ := y
        refine ⟨.str [c], ?_, .refl _ _, rp, .str [c]⟩
        have hc' : s[i]? = some c := by simpa using hc
        rw [List.getElem?_map, hc']
        rfl
    · rename_i ws
      intro h1
      cases r1 with
      | il a vs _ ha ra =>
        obtain ⟨h2, h3, h4⟩ := itl_ok (P := P) (G1 := G1) (H1 := H1) (ok := fun _ => True) (a := a) (ws := ws) hK fun G2 H2 f rp _ => ⟨vs, .of (ha.fw f).1, ra.fw p1 f⟩
        exact .inl ⟨a, rfl, ⟨vs, by rw [hK]; exact .of ha.1⟩, hR ws _ G1 H1 _ f1 p1 h1 h2 h3 h4⟩
    · rename_i ns
      intro h1
      cases r1 with
      | sc a _ ha =>
        obtain ⟨h2, h3, h4⟩ := itl_ok (P := P) (G1 := G1) (H1 := H1) (ok := fun _ => True) (a := a) (ws := ns.map W.int) hK fun G2 H2 f rp _ => ⟨_, (ha.fw p1 f).sq, .ints ns⟩
        exact .inl ⟨a, rfl, ⟨_, by rw [hK]; exact ha.sq⟩, hR _ _ G1 H1 _ f1 p1 h1 h2 h3 h4⟩
    · rename_i p
      rintro ⟨ws, e, h1⟩
      cases r1
      obtain ⟨vs, hp, ra⟩ := p1 p _ e
      obtain ⟨h2, h3, h4⟩ := itl_ok (P := P) (G1 := G1) (H1 := H1) (ok := fun G' => G' p = some (.lst ws)) (a := p) (ws := ws) hK fun G2 H2 f rp ok => let ⟨vs2, z, r⟩ := rp p _ ok; ⟨vs2, .of z, r⟩
      exact .inl ⟨p, rfl, ⟨vs, by rw [hK]; exact .of hp⟩, hR ws _ G1 H1 _ f1 p1 h1 h2 h3 h4⟩
    · exact fun h => h.elim⟩
/-- the ints lo, lo + 1, .. -/
def rngW (lo : Int) (n : Nat) : List W := (List.range n).map fun i => .int (lo + (i : Nat))
theorem rngW_get {lo : Int} {n i : Nat} {w : W} (h : (rngW lo n)[i]? = some w) : i < n ∧ w = .int (lo + i) := by
  unfold rngW at h
  rw [List.getElem?_map] at h
  by_cases hi : i < n
  · rw [List.getElem?_range hi] at h
    exact ⟨hi, (Option.some.inj h).symm⟩
  · rw [List.getElem?_eq_none (by simpa using hi)] at h
    cases h
theorem rngW_at {lo : Int} {n i : Nat} (h : i < n) : (rngW lo n)[i]? = some (.int (lo + i)) := by
  unfold rngW
  rw [List.getElem?_map, List.getElem?_range h]
  rfl
theorem rngW_len {lo : Int} {n : Nat} : (rngW lo n).length = n := by simp [rngW]
def wRng1 (ta : WTA) : WTI := fun σ G R E => ta σ G (fun vs G1 => ∃ j : Int, vs = [.int j] ∧ -(2 ^ 62) ≤ j ∧ j < 2 ^ 62 ∧ R (rngW 0 j.toNat) (fun _ => True) G1) E
def wRng2 (ta : WTA) : WTI := fun σ G R E => ta σ G (fun vs G1 => ∃ i j : Int, vs = [.int i, .int j] ∧ (-(2 ^ 62) ≤ i ∧ i < 2 ^ 62 ∧ -(2 ^ 62) ≤ j ∧ j < 2 ^ 62) ∧ R (rngW i (j - i).toNat) (fun _ => True) G1) E
theorem itr_ok {lo : Int} {n : Nat} {G1 : WHp} {H1 : Hp} {ok : WHp → Prop} :
    (∀ i G2 H2, Fw G1 H1 G2 H2 → Rep P G2 H2 → ok G2 → (rngW lo n).length ≤ i → (Itr lo n).stop i H2) ∧
    (∀ i G2 H2, Fw G1 H1 G2 H2 → Rep P G2 H2 → ok G2 → i < (rngW lo n).length → (Itr lo n).go i H2) ∧
    (∀ i G2 H2 x H3, Fw G1 H1 G2 H2 → Rep P G2 H2 → ok G2 → i < (rngW lo n).length → (Itr lo n).yld i H2 x H3 → ∃ w, (rngW lo n)[i]? = some w ∧ Fw G2 H2 G2 H3 ∧ Rep P G2 H3 ∧ RelW P G2 H3 w x) := by
  refine ⟨fun i G2 H2 f rp ok hi => by rw [rngW_len] at hi; exact hi, fun i G2 H2 f rp ok hi => by rw [rngW_len] at hi; exact hi, fun i G2 H2 x H3 f rp ok hi y => ?_⟩
  obtain ⟨rfl, rfl⟩ := y
  rw [rngW_len] at hi
  exact ⟨_, rngW_at hi, .refl _ _, rp, .int _⟩
theorem ji_range1 {a : Expr} {q : Pos} (hg : Gl X "range") (hm : X.mg "range" = none) (ha : JA P X [a] ta) (hs : starEach [a] X.env = [(false, eval a X.env)] := by rfl) : JI P X tg (.Call (.Name "range" q) [a] [] pos) (wRng1 ta) := fun Ga Ha Ew tk =>
  PI.imp (pi_range1 hg hm (ha Ga Ha Ew tk) hs) fun σ H R ⟨σw, G, Rw, fa, rs, rp, ht, hR⟩ => ⟨σw, G, _, fa, rs, rp, ht, fun ws G1 vs H1 f1 r1 p1 ⟨j, e, h1, h2, q⟩ => by
    subst e
    cases r1 with
    | cons _ _ _ _ r rr =>
      cases r; cases rr
      obtain ⟨k1, k2, k3⟩ := itr_ok (P := P) (lo := 0) (n := j.toNat) (G1 := G1) (H1 := H1) (ok := fun _ => True)
      exact ⟨j, rfl, h1, h2, hR _ _ G1 H1 _ f1 p1 q k1 k2 k3⟩⟩
theorem ji_range2 {a b : Expr} {q : Pos} (hg : Gl X "range") (hm : X.mg "range" = none) (ha : JA P X [a, b] ta) (hs : starEach [a, b] X.env = [(false, eval a X.env), (false, eval b X.env)] := by rfl) (hs2 : starEach [b] X.env = [(false, eval b X.env)] := by rfl) : JI P X tg (.Call (.Name "range" q) [a, b] [] pos) (wRng2 ta) := fun Ga Ha Ew tk =>
  PI.imp (pi_range2 hg hm (ha Ga Ha Ew tk) hs hs2) fun σ H R ⟨σw, G, Rw, fa, rs, rp, ht, hR⟩ => ⟨σw, G, _, fa, rs, rp, ht, fun ws G1 vs H1 f1 r1 p1 ⟨i, j, e, h1, q⟩ => by
    subst e
    cases r1 with
    | cons _ _ _ _ r rr =>
      cases rr with
      | cons _ _ _ _ r' rr =>
        cases r; cases r'; cases rr
        obtain ⟨k1, k2, k3⟩ := itr_ok (P := P) (lo := i) (n := (j - i).toNat) (G1 := G1) (H1 := H1) (ok := fun _ => True)
        exact ⟨i, j, rfl, h1, hR _ _ G1 H1 _ f1 p1 q k1 k2 k3⟩⟩
/-- the pairs of places and items -/
def enumW : Nat → List W → List W
  | _, [] => []
  | i, w :: ws => .tup [.int (i : Nat), w] :: enumW (i + 1) ws
theorem enumW_len : ∀ (k : Nat) (ws : List W), (enumW k ws).length = ws.length
  | _, [] => rfl
  | k, w :: ws => by simp [enumW, enumW_len (k + 1) ws]
theorem enumW_at : ∀ (k : Nat) (ws : List W) (i : Nat) (w : W), ws[i]? = some w → (enumW k ws)[i]? = some (.tup [.int ((k + i : Nat)), w])
  | _, [], _, _, h => by simp at h
  | k, z :: ws, 0, w, h => by simp at h; subst h; rfl
  | k, z :: ws, i + 1, w, h => by
    have := enumW_at (k + 1) ws i w (by simpa using h)
    rw [show k + (i + 1) = k + 1 + i by omega]
    simpa [enumW] using this
theorem enumW_get {k : Nat} {ws : List W} {i : Nat} {x : W} (h : (enumW k ws)[i]? = some x) : ∃ w, ws[i]? = some w ∧ x = .tup [.int ((k + i : Nat)), w] := by
  have hi : i < ws.length := by
    have := (List.getElem?_eq_some_iff.mp h).1
    rwa [enumW_len] at this
  have e := enumW_at k ws i _ (List.getElem?_eq_getElem hi)
  rw [h] at e
  exact ⟨_, List.getElem?_eq_getElem hi, Option.some.inj e⟩
/-- of a list, where it lies -/
def srcL (G : WHp) (x : W) (R : List W → (WHp → Prop) → Prop) : Prop := match x with
  | .il ws => R ws (fun _ => True)
  | .sc ns => R (ns.map .int) (fun _ => True)
  | .ref p => ∃ ws, G p = some (.lst ws) ∧ R ws (fun G' => G' p = some (.lst ws))
  | _ => False
theorem srcL_ok {G1 : WHp} {H1 : Hp} {x : W} {v : V} {R : List W → (WHp → Prop) → Prop} (p1 : Rep P G1 H1) (r : RelW P G1 H1 x v) (h : srcL G1 x R) :
    ∃ a ws ok, v = .ref a ∧ R ws ok ∧ ok G1 ∧ ∀ G2 H2, Fw G1 H1 G2 H2 → Rep P G2 H2 → ok G2 → ∃ vs, SqL P.K H2 a vs ∧ RelWs P G2 H2 ws vs := by
  unfold srcL at h
  split at h
  · cases r with
    | il a vs ws ha ra => exact ⟨a, _, _, rfl, h, trivial, fun G2 H2 f rp _ => ⟨vs, .of (ha.fw f).1, ra.fw p1 f⟩⟩
  · cases r with
    | sc a _ ha => exact ⟨a, _, _, rfl, h, trivial, fun G2 H2 f rp _ => ⟨_, (ha.fw p1 f).sq, .ints _⟩⟩
  · obtain ⟨ws, e, q⟩ := h
    cases r
    exact ⟨_, ws, _, rfl, q, e, fun G2 H2 f rp ok => let ⟨vs2, z, r⟩ := rp _ _ ok; ⟨vs2, .of z, r⟩⟩
  · exact h.elim
def wEnum (ta : WTA) : WTI := fun σ G R E => ta σ G (fun vs G1 => ∃ x, vs = [x] ∧ srcL G1 x fun ws ok => R (enumW 0 ws) ok G1) E
theorem ji_enum (hK : X.K = P.K) {q tpos : Pos} {elts : List Expr} {kk : Nat} (hg : Gl X "enumerate") (hm : X.mg "enumerate" = none) (ha : JA P X [e] ta) (hs : starEach [e] X.env = [(false, eval e X.env)] := by rfl) :
    JI P X (.Tuple elts kk tpos) (.Call (.Name "enumerate" q) [e] [] pos) (wEnum ta) := fun Ga Ha Ew tk =>
  PI.imp (pi_enum hg hm (ha Ga Ha Ew tk) hs) fun σ H R ⟨σw, G, Rw, fa, rs, rp, ht, hR⟩ => ⟨σw, G, _, fa, rs, rp, ht, fun ws G1 vs H1 f1 r1 p1 ⟨x, e, q⟩ => by
    subst e
    cases r1 with
    | cons _ v _ _ r rr =>
      cases rr
      obtain ⟨a, ws, ok, rfl, q, k0, kk⟩ := srcL_ok p1 r q
      obtain ⟨vs0, hs0, _⟩ := kk G1 H1 (.refl _ _) p1 k0
      refine ⟨a, vs0, rfl, by rw [hK]; exact hs0, hR _ _ G1 H1 _ f1 p1 q (fun i G2 H2 f rp ok hi => ?_) (fun i G2 H2 f rp ok hi => ?_) fun i G2 H2 x H3 f rp ok hi y => ?_⟩
      · obtain ⟨vs, h1, h2⟩ := kk G2 H2 f rp ok
        rw [enumW_len] at hi
        exact ⟨vs, by rw [hK]; exact h1, by rw [← h2.length]; exact hi⟩
      · obtain ⟨vs, h1, h2⟩ := kk G2 H2 f rp ok
        rw [enumW_len] at hi
        obtain ⟨v, e, _⟩ := h2.get (List.getElem?_eq_getElem hi)
        exact ⟨vs, v, by rw [hK]; exact h1, e⟩
      · obtain ⟨vs, h1, h2⟩ := kk G2 H2 f rp ok
        obtain ⟨T, u, rfl, hT, rfl, hy⟩ := y
        obtain ⟨w, e, r⟩ := h2.get' (hy vs (by rw [hK]; exact h1))
        refine ⟨_, enumW_at 0 ws i w e, .hid hT, rp.hid hT, .tup T _ _ (.inl (.inl upd_same)) ?_⟩
        rw [Nat.zero_add]
        exact .cons _ _ _ _ (.int _) (.cons _ _ _ _ (r.fw rp (.hid hT)) .nil)⟩
end

/-! ### comprehensions -/
/-- no exception is wished for -/
def noX : WXK := fun _ _ _ => False
theorem takesF {P : Par} {X : Cx} {Ga : WHp} {Ha : Hp} : Takes X (embX P Ga Ha noX) := fun _ _ x => by
  obtain ⟨_, _, _, _, _, _, _, _, _, _, _, _, _, _, _, _, z⟩ := x
  obtain ⟨_, _, _, _, _, _, _, _, _, q⟩ := z
  exact q.elim
def JTs (P : Par) (X : Cx) (e : List Expr) (t : WTT) : Prop := ∀ Ga Ha Ew, Takes X (embX P Ga Ha Ew) → PTs X e (embT P Ga Ha Ew t)
def wYes : WTT := fun _ G Q _ => Q true G
section
variable {P : Par} {X : Cx} {c : Expr} {t : WTT}
theorem jts_nil : JTs P X [] wYes := fun Ga Ha Ew tk => ⟨fun pins s σ H Q I ⟨σw, G, Qw, fa, rs, rp, ht, hq⟩ => (pts_nil (X := X)).run pins s σ H Q I (hq true G H (.refl _ _) rp ht)⟩
theorem jts_one (h : JT P X c t) : JTs P X [c] t := fun Ga Ha Ew tk => pts_one (h Ga Ha Ew tk)
/-- [elt for x in .. if ..], x in slot j: the new list is seen while it is made; behind it as fin says -/
def wLcG (fin : Addr → List W → WHp → WQ → Prop) (wi : WTI) (j : Nat) (tt : WTT) (te : WTE) : WTE := fun σ G Q E => wi σ G (fun xs ok G1 => xs.length ≤ big ∧ ∀ D, G1 D = none → ∃ Pv : Nat → List W → WHp → Prop, Pv 0 [] (updG G1 D (.lst [])) ∧
  (∀ k acc G', k ≤ xs.length → Pv k acc G' → ok G' ∧ G' D = some (.lst acc) ∧ acc.length ≤ k) ∧
  (∀ k x acc G', xs[k]? = some x → Pv k acc G' → tt ((σ.set j none).set j (some x)) G' (fun b G3 => if b = true then te ((σ.set j none).set j (some x)) G3 (fun y G4 => G4 D = some (.lst acc) ∧ Pv (k + 1) (acc ++ [y]) (updG G4 D (.lst (acc ++ [y])))) noX else Pv (k + 1) acc G3) noX) ∧
  (∀ acc G', Pv xs.length acc G' → fin D acc G' Q)) E
abbrev wLcM := wLcG fun D _ G' Q => Q (.ref D) G'
abbrev wLcI := wLcG fun D acc G' Q => Q (.il acc) (delG G' D)
theorem lc_step {wi : WTI} {j : Nat} {tt : WTT} {te : WTE} {fin : Addr → List W → WHp → WQ → Prop} (hfin : ∀ {G' H' D acc Qw} {Q : VK} , Rep P G' H' → G' D = some (.lst acc) → fin D acc G' Qw → (∀ w G2 v H2, RelW P G2 H2 w v → Rep P G2 H2 → Sub G2 G' → H2 = H' → Qw w G2 → Q v H2) → Q (.ref D) H')
    {Ga : WHp} {Ha : Hp} {Ew : WXK} (σ : L2.St) (H : Hp) (Q : VK) (h : embE P Ga Ha Ew (wLcG fin wi j tt te) σ H Q) :
    tLc (embI P Ga Ha Ew wi) (gName j) (embT P (fun _ => none) (fun _ => none) noX tt) (embE P (fun _ => none) (fun _ => none) noX te) [j] σ H Q := by
  obtain ⟨σw, G, Qw, fa, rs, rp, ht, hq⟩ := h
  refine ⟨σw, G, _, fa, rs, rp, ht, fun xs ok G1 H1 J f1 p1 hR hstop hgo hyld D hD => ?_⟩
  obtain ⟨hl, hR⟩ := hR
  obtain ⟨Pv, i0, iok, istep, iend⟩ := hR D (p1.free hD)
  have fany : ∀ G' H', Fw (fun _ => none) (fun _ => none) G' H' := fun G' H' a o h => by cases h
  have fD : Fw G1 H1 (updG G1 D (.lst [])) (upd H1 D (.lst [])) := .new hD
  refine ⟨fun i m H' => m = xs.length - i ∧ i ≤ xs.length ∧ ∃ acc G', Fw G1 H1 G' H' ∧ Rep P G' H' ∧ Pv i acc G', ⟨_, rfl, Nat.zero_le _, [], _, fD, p1.put (u := .lst []) fD ⟨[], upd_same, .nil⟩, i0⟩, ?_⟩
  rintro i m H' ⟨rfl, hi, acc, G', f', rp', iv⟩
  obtain ⟨hok, hDa, hal⟩ := iok i acc G' hi iv
  by_cases hlt : i < xs.length
  · refine .inr ⟨hgo i G' H' f' rp' hok hlt, fun H2 => i + 1 ≤ xs.length ∧ ∃ acc G', Fw G1 H1 G' H2 ∧ Rep P G' H2 ∧ Pv (i + 1) acc G', fun H2 n => ⟨xs.length - (i + 1), by omega, rfl, n⟩, fun x H3 y => ?_⟩
    obtain ⟨w, hw, f3, p3, rw_⟩ := hyld i G' H' x H3 f' rp' hok hlt y
    have rs3 : RelSt P G' H3 ((σw.set j none).set j (some w)) ((wipe σ [j]).set j (some x)) := RelSt.set rw_ j (RelSt.del j ((rs.fw rp (f1.trans f')).fw rp' f3))
    show wipe (((wipe σ [j]).set j (some x))) [j] = wipe σ [j] ∧ _
    refine ⟨by show (((σ.set j none).set j (some x)).set j none) = σ.set j none; rw [List.set_set, List.set_set], ?_⟩
    refine ⟨_, G', _, fany _ _, rs3, p3, istep i w acc G' hw iv, fun b G4 H4 f4 p4 q4 => ?_⟩
    cases b with
    | false => exact ⟨hlt, acc, G4, f'.trans (f3.trans f4), p4, q4⟩
    | true =>
      refine ⟨_, G4, _, fany _ _, rs3.fw p3 f4, p4, q4, fun y G5 v H5 f5 r5 p5 ⟨hD5, q5⟩ => ?_⟩
      obtain ⟨vs, hv, rv⟩ := p5 D _ hD5
      have fp : Fw G5 H5 (updG G5 D (.lst (acc ++ [y]))) (upd H5 D (.lst (vs ++ [v]))) := .put hD5
      refine ⟨vs, hv, ?_, hlt, acc ++ [y], _, f'.trans (f3.trans (f4.trans (f5.trans fp))), p5.put (u := .lst (acc ++ [y])) fp ⟨vs ++ [v], upd_same, (rv.append (.cons _ _ _ _ r5 .nil)).fw p5 fp⟩, q5⟩
      rw [← rv.length, big_eq]
      omega
  · have e : i = xs.length := by omega
    subst e
    refine .inl ⟨hstop _ G' H' f' rp' hok (Nat.le_refl _), hfin rp' hDa (iend acc G' iv) fun w G2 v H2 r p s eH q => ?_⟩
    subst eH
    exact hq w G2 v H2 (f1.trans (f'.sub s)) r p q
theorem fin_M {P : Par} {G' : WHp} {H' : Hp} {D : Addr} {acc : List W} {Qw : WQ} {Q : VK} (rp : Rep P G' H') (e : G' D = some (.lst acc)) (q : Qw (.ref D) G') (hq : ∀ w G2 v H2, RelW P G2 H2 w v → Rep P G2 H2 → Sub G2 G' → H2 = H' → Qw w G2 → Q v H2) : Q (.ref D) H' :=
  hq _ G' _ H' (.ref D) rp (.refl _) rfl q
theorem fin_I {P : Par} {G' : WHp} {H' : Hp} {D : Addr} {acc : List W} {Qw : WQ} {Q : VK} (rp : Rep P G' H') (e : G' D = some (.lst acc)) (q : Qw (.il acc) (delG G' D)) (hq : ∀ w G2 v H2, RelW P G2 H2 w v → Rep P G2 H2 → Sub G2 G' → H2 = H' → Qw w G2 → Q v H2) : Q (.ref D) H' :=
  hq _ _ _ H' ((Frz.lst D acc e delG_same).rel .del rp (.ref D)) (rp.sub .del) .del rfl q
theorem je_lcM {elt iter : Expr} {ifs : List Expr} {scope : Scope} {j : Nat} {x : Str} {xp pos : Pos} {wi : WTI} {tt : WTT} {te : WTE} (hc : X.calm = true) (hN : X.N.Nodup) (hi : JI P X (.Name x xp) iter wi) (ok : BlkOk X.N X.env.scope scope [(x, j)])
    (hg : ∀ (s : Shared) (H : Hp) (C : Addr) (cl : List (Str × Addr)) (fp : List Addr), PG (X.blk s H scope (compEnvC scope cl C X.env) fp) (.Name x xp) (gName j)) (ht : ∀ (s : Shared) (H : Hp) (C : Addr) (cl : List (Str × Addr)) (fp : List Addr), JTs P (X.blk s H scope (compEnvC scope cl C X.env) fp) ifs tt)
    (he : ∀ (s : Shared) (H : Hp) (C : Addr) (cl : List (Str × Addr)) (fp : List Addr), JE P (X.blk s H scope (compEnvC scope cl C X.env) fp) elt te) (hs : ∀ x, foldedSetIterable iter X.env x = pure x := by intro _; rfl) :
    JE P X (.ListComp elt [⟨.Name x xp, iter, ifs, 0⟩] scope pos) (wLcM wi j tt te) := fun Ga Ha Ew tk =>
  PE.imp (pe_lc (own := [(x, j)]) hc hN (hi Ga Ha Ew tk) ok hg (fun s H C cl fp => ht s H C cl fp _ _ _ takesF) (fun s H C cl fp => he s H C cl fp _ _ _ takesF) hs) (lc_step fin_M)
theorem je_lcI {elt iter : Expr} {ifs : List Expr} {scope : Scope} {j : Nat} {x : Str} {xp pos : Pos} {wi : WTI} {tt : WTT} {te : WTE} (hc : X.calm = true) (hN : X.N.Nodup) (hi : JI P X (.Name x xp) iter wi) (ok : BlkOk X.N X.env.scope scope [(x, j)])
    (hg : ∀ (s : Shared) (H : Hp) (C : Addr) (cl : List (Str × Addr)) (fp : List Addr), PG (X.blk s H scope (compEnvC scope cl C X.env) fp) (.Name x xp) (gName j)) (ht : ∀ (s : Shared) (H : Hp) (C : Addr) (cl : List (Str × Addr)) (fp : List Addr), JTs P (X.blk s H scope (compEnvC scope cl C X.env) fp) ifs tt)
    (he : ∀ (s : Shared) (H : Hp) (C : Addr) (cl : List (Str × Addr)) (fp : List Addr), JE P (X.blk s H scope (compEnvC scope cl C X.env) fp) elt te) (hs : ∀ x, foldedSetIterable iter X.env x = pure x := by intro _; rfl) :
    JE P X (.ListComp elt [⟨.Name x xp, iter, ifs, 0⟩] scope pos) (wLcI wi j tt te) := fun Ga Ha Ew tk =>
  PE.imp (pe_lc (own := [(x, j)]) hc hN (hi Ga Ha Ew tk) ok hg (fun s H C cl fp => ht s H C cl fp _ _ _ takesF) (fun s H C cl fp => he s H C cl fp _ _ _ takesF) hs) (lc_step fin_I)
end
end Lw
/-! W5: built-in functions and methods. -/
namespace Lw
open PySem PySem.Spec PyProof.Rows L2
section
variable {P : Par} {X : Cx} {G : WHp} {H : Hp} {e o : Expr} {es : List Expr} {te to : WTE} {ta : WTA} {p pos : Pos} {x : Str}

def wCB (wr : WRs) (t : WTA) : WTE := fun σ G Q E => t σ G (fun ws G1 => wr ws G1 Q) E
theorem cb_step {wr : WRs} {Ga : WHp} {Ha : Hp} {Ew : WXK} : ∀ σ H Q, embE P Ga Ha Ew (wCB wr ta) σ H Q → tCB (embL P wr) (embA P Ga Ha Ew ta) σ H Q :=
  fun σ H Q ⟨σw, G, Qw, fa, rs, rp, ht, hq⟩ => ⟨σw, G, _, fa, rs, rp, ht, fun ws G1 vs H1 f1 r1 p1 q1 => ⟨ws, G1, Qw, r1, p1, q1, fun w G' v H' f r p q => hq w G' v H' (f1.trans f) r p q⟩⟩
theorem je_callB {id : String} {wr : WRs} (hc : CallW P X (.builtin id) wr) (hg : Gl X x) (hm : X.mg x = none) (hv : bootBuiltins x = some (.builtin id)) (ha : JA P X (e :: es) ta) (hn : x ≠ "__name__" := by decide) (hdb : (x == ("__debug__" : Str)) = false := by decide)
    (he : starEach (e :: es) X.env = (false, eval e X.env) :: starEach es X.env := by rfl) (hpl : (backTo pos (starEach es X.env)).any (·.1) = false := by rfl) : JE P X (.Call (.Name x p) (e :: es) [] pos) (wCB wr ta) := fun Ga Ha Ew tk =>
  PE.imp (pe_callB hc hg hm hv (ha Ga Ha Ew tk) hn hdb he hpl) cb_step
theorem je_callTy {T : String} {wr : WRs} (hc : CallW P X (.type T) wr) (hg : Gl X x) (hm : X.mg x = none) (hv : bootBuiltins x = some (.type T)) (ha : JA P X (e :: es) ta) (hn : x ≠ "__name__" := by decide) (hdb : (x == ("__debug__" : Str)) = false := by decide)
    (he : starEach (e :: es) X.env = (false, eval e X.env) :: starEach es X.env := by rfl) (hpl : (backTo pos (starEach es X.env)).any (·.1) = false := by rfl) : JE P X (.Call (.Name x p) (e :: es) [] pos) (wCB wr ta) := fun Ga Ha Ew tk =>
  PE.imp (pe_callTy hc hg hm hv (ha Ga Ha Ew tk) hn hdb he hpl) cb_step
theorem je_bltn {v : W} {v' : V} {u : Value} (hg : Gl X x) (hm : X.mg x = none) (hv : bootBuiltins x = some u) (r : RelV v' u) (rw_ : ∀ G H, RelW P G H v v') (hn : x ≠ "__name__" := by decide) (hd : (x == ("__debug__" : Str)) = false := by decide) : JE P X (.Name x pos) (wC v) :=
  je_of (pe_bltn hg hm hv r hn hd) fun σw G σ H Qw Q Ew rs rp q hq => hq _ G _ H (.refl _ _) (rw_ G H) rp q
theorem RelWs.one {w : W} {vs : List V} (r : RelWs P G H [w] vs) : ∃ v, vs = [v] ∧ RelW P G H w v := by
  cases r with
  | cons _ v _ _ r rr => cases rr; exact ⟨v, rfl, r⟩
theorem RelWs.two {w z : W} {vs : List V} (r : RelWs P G H [w, z] vs) : ∃ v u, vs = [v, u] ∧ RelW P G H w v ∧ RelW P G H z u := by
  cases r with
  | cons _ v _ _ r rr =>
    obtain ⟨u, rfl, r'⟩ := rr.one
    exact ⟨v, u, rfl, r, r'⟩
theorem RelWs.zero {vs : List V} (r : RelWs P G H [] vs) : vs = [] := by cases r; rfl

/-! ### len, str, int, isinstance, min, max, list, tuple -/
def oLen : WRs := fun ws G Q => match ws with
  | [.str s] => s.length ≤ big ∧ Q (.int s.length) G
  | [.tup xs] => Q (.int xs.length) G
  | [x] => ∃ xs, sqOf G x = some xs ∧ Q (.int xs.length) G
  | _ => False
theorem cw_len (hK : X.K = P.K) : CallW P X (.builtin "len") oLen := CallR.imp call_len fun vs H Q ⟨ws, G, Qw, r, rp, h, hq⟩ => by
  unfold oLen at h
  split at h
  · obtain ⟨v, rfl, r1⟩ := r.one
    cases r1
    exact ⟨_, _, rfl, ⟨by rw [S_len, big_eq]; exact h.1, rfl⟩, emb_end hq rp (.int _) h.2⟩
  · obtain ⟨v, rfl, r1⟩ := r.one
    cases r1 with
    | tup a vs _ ha ra => exact ⟨_, _, rfl, .inr ⟨vs, by rw [hK]; exact ha, ra.length⟩, emb_end hq rp (.int _) h⟩
  · obtain ⟨xs, e, q⟩ := h
    obtain ⟨v, rfl, r1⟩ := r.one
    obtain ⟨a, vs, rfl, ha, ra⟩ := sqOf_rel rp r1 e
    exact ⟨_, _, rfl, .inl ⟨vs, by rw [hK]; exact ha, ra.length⟩, emb_end hq rp (.int _) q⟩
  · exact h.elim
/-- the signs of a whole number -/
def strI (i : Int) : List Nat := (Str.ofString (toString i)).cps.toList
theorem strI_nat (n : Nat) : strI (n : Int) = TL.numL n := TL.tl_num n
def oStr : WRs := fun ws G Q => match ws with
  | [.int i] => i.natAbs.log2 < 1920 ∧ Q (.str (strI i)) G
  | _ => False
theorem cw_str : CallW P X (.type "str") oStr := CallR.imp call_str_int fun vs H Q ⟨ws, G, Qw, r, rp, h, hq⟩ => by
  unfold oStr at h
  split at h
  · obtain ⟨v, rfl, r1⟩ := r.one
    cases r1
    refine ⟨_, rfl, h.1, ?_⟩
    have := emb_end hq rp (.str _) h.2
    rw [show (S (strI _) : Str) = Str.ofString (toString _) from (S_of _).symm] at this
    exact this
  · exact h.elim
def oInt : WRs := fun ws G Q => match ws with
  | [.int i] => Q (.int i) G
  | [.bl k] => Q (.int (if k then 1 else 0)) G
  | [.str s] => ∃ n, PySem.intText? (S s) = some n ∧ s.length ≤ 640 ∧ Q (.int n) G
  | _ => False
theorem cw_int : CallW P X (.type "int") oInt := CallR.imp (CallR.or call_int1 call_int_str) fun vs H Q ⟨ws, G, Qw, r, rp, h, hq⟩ => by
  unfold oInt at h
  split at h
  · obtain ⟨v, rfl, r1⟩ := r.one
    cases r1
    exact .inl (.inl ⟨_, rfl, emb_end hq rp (.int _) h⟩)
  · obtain ⟨v, rfl, r1⟩ := r.one
    cases r1
    exact .inl (.inr ⟨_, rfl, emb_end hq rp (.int _) h⟩)
  · obtain ⟨n, e, hl, q⟩ := h
    obtain ⟨v, rfl, r1⟩ := r.one
    cases r1
    exact .inr ⟨_, n, rfl, e, hl, emb_end hq rp (.int _) q⟩
  · exact h.elim
/-- the built-in type of a value -/
def tyN (G : WHp) : W → Option String
  | .non => some "NoneType"
  | .bl _ => some "bool"
  | .int _ => some "int"
  | .str _ => some "str"
  | .il _ => some "list"
  | .dk _ => some "dict"
  | .ref p => match G p with
    | some (.lst _) => some "list"
    | some (.dct _) => some "dict"
    | _ => none
  | _ => none
theorem tyN_rel {K : PySem.W.Frag} (rp : Rep P G H) {w : W} {v : V} {n : String} (r : RelW P G H w v) (e : tyN G w = some n) : TyX K H v (.type n) := by
  cases r with
  | non => cases e; exact .base .non
  | bl b => cases e; exact .base (.bl b)
  | int i => cases e; exact .base (.int i)
  | str s => cases e; exact .base (.str _)
  | il a vs ws h rs => cases e; exact .base (.lst h.1)
  | dk a kv kvs h g rs => cases e; exact .base (.dK h)
  | ref a =>
    dsimp only [tyN] at e
    cases q : G a with
    | none => rw [q] at e; cases e
    | some o =>
      rw [q] at e
      cases o with
      | lst ws => cases e; obtain ⟨vs, h, rs⟩ := rp a _ q; exact .base (.lst h)
      | dct ws => cases e; obtain ⟨vs, h, rs⟩ := rp a _ q; exact .base (.dK h)
      | obj _ _ => cases e
      | fz _ _ _ => cases e
  | ty n => cases e
  | sc a ns h => cases e
  | tup a vs ws h rs => cases e
  | io a dx c fv fs h g rs => cases e
/-- isinstance(x, T), T a built-in class -/
def oIsi : WRs := fun ws G Q => match ws with
  | [.tup _, .ty T] => ∃ b, kitB "tuple" T = some b ∧ Q (.bl b) G
  | [x, .ty T] => ∃ n b, tyN G x = some n ∧ kitB n T = some b ∧ Q (.bl b) G
  | _ => False
theorem cw_isi (hK : X.K = P.K) : CallW P X (.builtin "isinstance") oIsi := CallR.imp call_isi fun vs H Q ⟨ws, G, Qw, r, rp, h, hq⟩ => by
  unfold oIsi at h
  split at h
  · obtain ⟨b, e, q⟩ := h
    obtain ⟨v, u, rfl, r1, r2⟩ := r.two
    cases r2
    cases r1 with
    | tup a vs _ ha ra =>
      refine ⟨_, _, .type "tuple", _, b, rfl, .ty _, ?_, kit_ty e, emb_end hq rp (.bl _) q⟩
      rw [hK]
      rcases ha with (ha | ⟨o, ha⟩) | ⟨o, its, n, ha, hc, _⟩
      · exact .base (.tup ha)
      · exact .fTuple ha
      · exact .kTuple ha hc
  · obtain ⟨n, b, e1, e2, q⟩ := h
    obtain ⟨v, u, rfl, r1, r2⟩ := r.two
    cases r2
    exact ⟨_, _, _, _, b, rfl, .ty _, tyN_rel rp r1 e1, kit_ty e2, emb_end hq rp (.bl _) q⟩
  · exact h.elim
def oMax2 : WRs := fun ws G Q => match ws with
  | [.int i, .int j] => Q (.int (if j > i then j else i)) G
  | _ => False
def oMin2 : WRs := fun ws G Q => match ws with
  | [.int i, .int j] => Q (.int (if j < i then j else i)) G
  | _ => False
theorem cw_max2 (hc : X.calm = true) : CallW P X (.builtin "max") oMax2 := CallR.imp (call_max2 hc) fun vs H Q ⟨ws, G, Qw, r, rp, h, hq⟩ => by
  unfold oMax2 at h
  split at h
  · obtain ⟨v, u, rfl, r1, r2⟩ := r.two
    cases r1; cases r2
    exact ⟨_, _, rfl, emb_end hq rp (.int _) h⟩
  · exact h.elim
theorem cw_min2 (hc : X.calm = true) : CallW P X (.builtin "min") oMin2 := CallR.imp (call_min2 hc) fun vs H Q ⟨ws, G, Qw, r, rp, h, hq⟩ => by
  unfold oMin2 at h
  split at h
  · obtain ⟨v, u, rfl, r1, r2⟩ := r.two
    cases r1; cases r2
    exact ⟨_, _, rfl, emb_end hq rp (.int _) h⟩
  · exact h.elim
/-- the ints of a list -/
theorem RelWs.ofInts : ∀ {ns : List Int} {vs : List V}, RelWs P G H (ns.map W.int) vs → vs = ns.map V.int
  | [], _, .nil => rfl
  | n :: ns, _, .cons _ v _ vs r rr => by
    cases r
    rw [RelWs.ofInts rr]
    rfl
def oSum : WRs := fun ws G Q => ∃ (x : W) (ns : List Int), ws = [x] ∧ sqOf G x = some (ns.map W.int) ∧ Q (.int ns.sum) G
theorem cw_sum (hK : X.K = P.K) (hc : X.calm = true) : CallW P X (.builtin "sum") oSum := CallR.imp (cr_sum hc) fun vs H Q ⟨ws, G, Qw, r, rp, ⟨x, ns, e0, e, q⟩, hq⟩ => by
  subst e0
  obtain ⟨v, rfl, r1⟩ := r.one
  obtain ⟨a, vs, rfl, ha, ra⟩ := sqOf_rel rp r1 e
  rw [ra.ofInts] at ha
  exact ⟨a, ns, rfl, by rw [hK]; exact ha, emb_end hq rp (.int _) q⟩
def oMaxL : WRs := fun ws G Q => ∃ (x : W) (ns : List Int), ws = [x] ∧ sqOf G x = some (ns.map W.int) ∧ 0 < ns.length ∧ ∀ m, m ∈ ns → (∀ y, y ∈ ns → y ≤ m) → Q (.int m) G
def oMinL : WRs := fun ws G Q => ∃ (x : W) (ns : List Int), ws = [x] ∧ sqOf G x = some (ns.map W.int) ∧ 0 < ns.length ∧ ∀ m, m ∈ ns → (∀ y, y ∈ ns → m ≤ y) → Q (.int m) G
theorem cw_maxL (hK : X.K = P.K) (hc : X.calm = true) : CallW P X (.builtin "max") oMaxL := CallR.imp (cr_max hc) fun vs H Q ⟨ws, G, Qw, r, rp, ⟨x, ns, e0, e, h0, q⟩, hq⟩ => by
  subst e0
  obtain ⟨v, rfl, r1⟩ := r.one
  obtain ⟨a, vs, rfl, ha, ra⟩ := sqOf_rel rp r1 e
  rw [ra.ofInts] at ha
  exact ⟨a, ns, rfl, by rw [hK]; exact ha, h0, fun m h1 h2 => emb_end hq rp (.int _) (q m h1 h2)⟩
theorem cw_minL (hK : X.K = P.K) (hc : X.calm = true) : CallW P X (.builtin "min") oMinL := CallR.imp (cr_min hc) fun vs H Q ⟨ws, G, Qw, r, rp, ⟨x, ns, e0, e, h0, q⟩, hq⟩ => by
  subst e0
  obtain ⟨v, rfl, r1⟩ := r.one
  obtain ⟨a, vs, rfl, ha, ra⟩ := sqOf_rel rp r1 e
  rw [ra.ofInts] at ha
  exact ⟨a, ns, rfl, by rw [hK]; exact ha, h0, fun m h1 h2 => emb_end hq rp (.int _) (q m h1 h2)⟩
/-- list(x): of a list or a tuple; as a value, or one that may change -/
def sqT (G : WHp) : W → Option (List W)
  | .tup ws => some ws
  | x => sqOf G x
def oListI : WRs := fun ws G Q => ∃ x xs, ws = [x] ∧ sqT G x = some xs ∧ Q (.il xs) G
def oListM : WRs := fun ws G Q => ∃ x xs, ws = [x] ∧ sqT G x = some xs ∧ ∀ p, G p = none → Q (.ref p) (updG G p (.lst xs))
theorem sqT_rel (rp : Rep P G H) {w : W} {v : V} {xs : List W} (r : RelW P G H w v) (e : sqT G w = some xs) : ∃ a vs, v = .ref a ∧ (SqL P.K H a vs ∨ SqT P.K H a vs) ∧ RelWs P G H xs vs := by
  have go : ∀ {w}, RelW P G H w v → sqOf G w = some xs → ∃ a vs, v = .ref a ∧ (SqL P.K H a vs ∨ SqT P.K H a vs) ∧ RelWs P G H xs vs := fun r e => by
    obtain ⟨a, vs, e1, h, rs⟩ := sqOf_rel rp r e
    exact ⟨a, vs, e1, .inl h, rs⟩
  cases w with
  | tup ws =>
    cases e
    cases r with
    | tup a vs _ ha ra => exact ⟨a, vs, rfl, .inr ha, ra⟩
  | _ => exact go r e
theorem cw_listI (hK : X.K = P.K) : CallW P X (.type "list") oListI := CallR.imp call_list_of fun vs H Q ⟨ws, G, Qw, r, rp, ⟨x, xs, e0, e, q⟩, hq⟩ => by
  subst e0
  obtain ⟨v, rfl, r1⟩ := r.one
  obtain ⟨a, vs, rfl, ha, ra⟩ := sqT_rel rp r1 e
  exact ⟨a, vs, rfl, by rw [hK]; exact ha, fun p hp => hq _ G _ _ (.hid hp) (.il p _ _ ⟨upd_same, rp.free hp⟩ (ra.fw rp (.hid hp))) (rp.hid hp) q⟩
theorem cw_listM (hK : X.K = P.K) : CallW P X (.type "list") oListM := CallR.imp call_list_of fun vs H Q ⟨ws, G, Qw, r, rp, ⟨x, xs, e0, e, q⟩, hq⟩ => by
  subst e0
  obtain ⟨v, rfl, r1⟩ := r.one
  obtain ⟨a, vs, rfl, ha, ra⟩ := sqT_rel rp r1 e
  exact ⟨a, vs, rfl, by rw [hK]; exact ha, fun p hp => hq _ _ _ _ (.new hp) (.ref p) (rp.put (u := .lst xs) (.new hp) ⟨_, upd_same, ra.fw rp (.new hp)⟩) (q p (rp.free hp))⟩

/-! ### methods -/
abbrev WRm := W → List W → WHp → WQ → Prop
def embM (P : Par) (wr : WRm) : V → List V → Hp → VK → Prop := fun x xs H Q => ∃ wx ws G Qw, RelW P G H wx x ∧ RelWs P G H ws xs ∧ Rep P G H ∧ wr wx ws G Qw ∧ ∀ w G' v H', Fw G H G' H' → RelW P G' H' w v → Rep P G' H' → Qw w G' → Q v H'
def MtW (P : Par) (X : Cx) (id : String) (wr : WRm) : Prop := MtR X id (embM P wr)
theorem MtR.imp {id : String} {r r' : V → List V → Hp → VK → Prop} (h : MtR X id r) (i : ∀ x xs H Q, r' x xs H Q → r x xs H Q) : MtR X id r' := fun pins s σ H x xs v us Q I rx rs q => h pins s σ H x xs v us Q I rx rs (i x xs H Q q)
/-- the receiver's kind, as it is asked ahead of the arguments -/
inductive Kd where
  | list | str | dict
def kdOk (G : WHp) (x : W) : Kd → Prop
  | .list => ∃ xs, sqOf G x = some xs
  | .str => ∃ s, x = .str s
  | .dict => (∃ p kvs, x = .ref p ∧ G p = some (.dct kvs)) ∨ ∃ kvs, x = .dk kvs
def Kd.nm : Kd → String
  | .list => "list"
  | .str => "str"
  | .dict => "dict"
theorem kd_rel (hK : X.K = P.K) (rp : Rep P G H) {w : W} {v : V} {k : Kd} (r : RelW P G H w v) (h : kdOk G w k) : tyV X.K k.nm v H := by
  cases k with
  | list =>
    obtain ⟨xs, e⟩ := h
    obtain ⟨a, vs, rfl, ha, ra⟩ := sqOf_rel rp r e
    exact .inl ⟨rfl, vs, by rw [hK]; exact ha⟩
  | str =>
    obtain ⟨s, rfl⟩ := h
    cases r
    rfl
  | dict =>
    rcases h with ⟨p, kvs, rfl, e⟩ | ⟨kvs, rfl⟩
    · cases r
      obtain ⟨kv, h, _⟩ := rp p _ e
      exact .inr (.inr (.inl ⟨rfl, .inl ⟨kv, h⟩⟩))
    · cases r with
      | dk a kv _ h g rs => exact .inr (.inr (.inl ⟨rfl, .inl ⟨kv, h⟩⟩))
def wBm (k : Kd) (wr : WRm) (to : WTE) (t : WTA) : WTE := fun σ G Q E => to σ G (fun x G1 => kdOk G1 x k ∧ t σ G1 (fun xs G2 => wr x xs G2 Q) E) E
theorem je_bm {k : Kd} {id : String} {name : Str} {apos cpos : Pos} {wr : WRm} (hK : X.K = P.K) (pa : PlainAttrs k.nm) (slot : Slot k.nm name id) (hty : typeOf (.builtin id) = pure (.type "method_descriptor")) (hm : MtW P X id wr) (ho : JE P X o to) (ha : JA P X (e :: es) ta)
    (hbase : attributeBase o name X.env (eval o X.env) = eval o X.env := by rfl)
    (hfew : ((backTo cpos (starEach (e :: es) X.env)).all (fun x => !x.1) && (backToKw cpos (keywordEach [] X.env)).all (fun x => x.1.isSome)
      && decide ((e :: es).length + ([] : List Keyword).length + (if ([] : List Keyword).isEmpty then 0 else 1) < 30)) = true := by rfl)
    (hline : (apos.endLine == cpos.line) = true := by rfl) (hs : starEach (e :: es) X.env = (false, eval e X.env) :: starEach es X.env := by rfl) (hplain : (backTo cpos (starEach es X.env)).any (·.1) = false := by rfl) :
    JE P X (.Call (.Attribute o name apos) (e :: es) [] cpos) (wBm k wr to ta) := fun Ga Ha Ew tk =>
  PE.imp (pe_bm pa slot hty hm (ho Ga Ha Ew tk) (ha Ga Ha Ew tk) hbase hfew hline hs hplain) fun σ H Q ⟨σw, G, Qw, fa, rs, rp, ht, hq⟩ => ⟨σw, G, _, fa, rs, rp, ht, fun w1 G1 v1 H1 f1 r1 p1 ⟨hk, h1⟩ =>
    ⟨kd_rel hK p1 r1 hk, σw, G1, _, fa.trans f1, rs.fw rp f1, p1, h1, fun ws G2 vs H2 f2 r2 p2 h2 => ⟨w1, ws, G2, Qw, r1.fw p1 f2, r2, p2, h2, fun w G' v H' f r p q => hq w G' v H' (f1.trans (f2.trans f)) r p q⟩⟩⟩
theorem je_bm0 {k : Kd} {id : String} {name : Str} {apos cpos : Pos} {wr : WRm} (hK : X.K = P.K) (pa : PlainAttrs k.nm) (slot : Slot k.nm name id) (hty : typeOf (.builtin id) = pure (.type "method_descriptor")) (hm : MtW P X id wr) (ho : JE P X o to)
    (hbase : attributeBase o name X.env (eval o X.env) = eval o X.env := by rfl) (hline : (apos.endLine == cpos.line) = true := by rfl) : JE P X (.Call (.Attribute o name apos) [] [] cpos) (wBm k wr to wNil) := fun Ga Ha Ew tk =>
  PE.imp (pe_bm0 pa slot hty hm (ho Ga Ha Ew tk) hbase hline) fun σ H Q ⟨σw, G, Qw, fa, rs, rp, ht, hq⟩ => ⟨σw, G, _, fa, rs, rp, ht, fun w1 G1 v1 H1 f1 r1 p1 ⟨hk, h1⟩ =>
    ⟨kd_rel hK p1 r1 hk, w1, [], G1, Qw, r1, .nil, p1, h1, fun w G' v H' f r p q => hq w G' v H' (f1.trans f) r p q⟩⟩
/-- a list that is seen -/
theorem seen_rel (rp : Rep P G H) {p : Addr} {xs : List W} (e : G p = some (.lst xs)) : ∃ vs, H p = some (.lst vs) ∧ RelWs P G H xs vs := rp p _ e
theorem put_end {Qw : WQ} {Q : VK} {p : Addr} {xs ys : List W} {vs : List V} {w : W} {v : V} (hq : ∀ w G' v H', Fw G H G' H' → RelW P G' H' w v → Rep P G' H' → Qw w G' → Q v H') (rp : Rep P G H) (e : G p = some (.lst xs)) (ry : RelWs P G H ys vs) (r : RelW P G H w v) (q : Qw w (updG G p (.lst ys))) : Q v (upd H p (.lst vs)) := by
  have f : Fw G H (updG G p (.lst ys)) (upd H p (.lst vs)) := .put e
  exact hq w _ v _ f (r.fw rp f) (rp.put (u := .lst ys) f ⟨vs, upd_same, ry.fw rp f⟩) q
def mAppend : WRm := fun x ws G Q => ∃ p xs y, x = .ref p ∧ ws = [y] ∧ G p = some (.lst xs) ∧ xs.length < big ∧ Q .non (updG G p (.lst (xs ++ [y])))
theorem mw_append : MtW P X "list.append" mAppend := MtR.imp (show MtR X "list.append" rAppend from mt_append) fun x xs H Q ⟨wx, ws, G, Qw, rx, r, rp, ⟨p, ys, y, e1, e2, e, hl, q⟩, hq⟩ => by
  subst e1; subst e2
  cases rx
  obtain ⟨v, rfl, rv⟩ := r.one
  obtain ⟨vs, h, ra⟩ := seen_rel rp e
  exact ⟨p, vs, v, rfl, rfl, h, by rw [← ra.length, big_eq]; exact hl, put_end hq rp e (ra.append (.cons _ _ _ _ rv .nil)) .non q⟩
end
end Lw
/-! W6: calls by name, globals, more statements and methods. -/
namespace Lw
open PySem PySem.Spec PyProof.Rows L2

/-- a def of the text, as its callers see it -/
def CallOk (P : Par) (prog : Program) (w : World) (mg : Str → Option Value) (base : Heap) (x : Str) (k : Nat) (sp : WSp) : Prop :=
  ∃ (f : Addr) (fd : FuncData) (ps : List Str), FnW P prog w mg base k f fd ps sp ∧ mg x = some (.ref f) ∧ PySem.W.keepIn P.K (.ref f) = true ∧ Binds P.K fd ps []
/-- a module's constant -/
def GlobOk (P : Par) (mg : Str → Option Value) (x : Str) (w : W) : Prop := ∃ u v, mg x = some u ∧ RelV v u ∧ ∀ G H, RelW P G H w v
section
variable {P : Par} {X : Cx} {G : WHp} {H : Hp} {a b c e : Expr} {es : List Expr} {ta tb tc te : WTE} {t : WTA} {p pos : Pos} {x : Str} {k : Nat} {sp : WSp}
theorem je_callC (C : CallOk P X.prog X.w X.mg X.base x k sp) (hr : Room k X.A) (hg : Gl X x) (ha : JA P X (e :: es) t) (hK : X.K = P.K := by rfl) (hdb : (x == ("__debug__" : Str)) = false := by decide) (he : starEach (e :: es) X.env = (false, eval e X.env) :: starEach es X.env := by rfl) (hpl : (backTo pos (starEach es X.env)).any (·.1) = false := by rfl) :
    JE P X (.Call (.Name x p) (e :: es) [] pos) (wCall sp t) := by
  obtain ⟨f, fd, ps, F, hm, hk, hb⟩ := C
  exact je_call hK F hr hg hm hk hb ha hdb he hpl
theorem je_glob {w : W} (hg : Gl X x) (C : GlobOk P X.mg x w) (hd : (x == ("__debug__" : Str)) = false := by decide) : JE P X (.Name x pos) (wC w) := by
  obtain ⟨u, v, hm, r, rw_⟩ := C
  exact je_of (pe_glob hg hm r hd) fun σw G σ H Qw Q Ew rs rp q hq => hq _ G _ H (.refl _ _) (rw_ G H) rp q
theorem chain_step {wr wr' : WR2} {Ga : WHp} {Ha : Hp} {Ew : WXK} : ∀ σ H Q, embE P Ga Ha Ew (wChain wr wr' ta tb tc) σ H Q → tChain (emb2 P wr) (emb2 P wr') (embE P Ga Ha Ew ta) (embE P Ga Ha Ew tb) (embE P Ga Ha Ew tc) σ H Q :=
  fun σ H Q ⟨σw, G, Qw, fa, rs, rp, ht, hq⟩ => ⟨σw, G, _, fa, rs, rp, ht, fun w1 G1 v1 H1 f1 r1 p1 h1 => ⟨σw, G1, _, fa.trans f1, rs.fw rp f1, p1, h1, fun w2 G2 v2 H2 f2 r2 p2 h2 =>
    ⟨w1, w2, G2, _, r1.fw p1 f2, r2, p2, h2, fun w3 G3 v3 H3 f3 r3 p3 ⟨k, e, q⟩ => by
      subst e
      cases r3
      refine ⟨k, rfl, ?_⟩
      cases k with
      | true => exact ⟨σw, G3, _, fa.trans (f1.trans (f2.trans f3)), ((rs.fw rp f1).fw p1 f2).fw p2 f3, p3, q, fun w4 G4 v4 H4 f4 r4 p4 h4 => ⟨w2, w4, G4, Qw, (r2.fw p2 f3).fw p3 f4, r4, p4, h4, fun w G' v H' f r p q => hq w G' v H' (f1.trans (f2.trans (f3.trans (f4.trans f)))) r p q⟩⟩
      | false => exact hq _ G3 _ H3 (f1.trans (f2.trans f3)) (.bl false) p3 q⟩⟩⟩
theorem je_chain {op op' : CmpOp} {wr wr' : WR2} (ho : OpW P X (compareOp op) wr) (ho' : OpW P X (compareOp op') wr') (ha : JE P X a ta) (hb : JE P X b tb) (hc : JE P X c tc)
    (hm : lastMarks [op, op'] [b, c] = false := by with_unfolding_all rfl) : JE P X (.Compare a [op, op'] [b, c] pos) (wChain wr wr' ta tb tc) := fun Ga Ha Ew tk =>
  PE.imp (pe_chain ho ho' (ha Ga Ha Ew tk) (hb Ga Ha Ew tk) (hc Ga Ha Ew tk) hm) chain_step
theorem jt_chain {op op' : CmpOp} {wr wr' : WR2} (ho : OpW P X (compareOp op) wr) (ho' : OpW P X (compareOp op') wr') (ha : JE P X a ta) (hb : JE P X b tb) (hc : JE P X c tc)
    (hm : lastMarks [op, op'] [b, c] = false := by with_unfolding_all rfl) : JT P X (.Compare a [op, op'] [b, c] pos) (wTest (wChain wr wr' ta tb tc)) := fun Ga Ha Ew tk =>
  PT.imp (pt_chain ho ho' (ha Ga Ha Ew tk) (hb Ga Ha Ew tk) (hc Ga Ha Ew tk) hm) fun σ H Q ⟨σw, G, Qw, fa, rs, rp, ht, hq⟩ => chain_step σ H _ ⟨σw, G, _, fa, rs, rp, ht, fun w G1 v H1 f1 r p ⟨k, e, q⟩ => by subst e; cases r; exact ⟨k, rfl, hq k G1 H1 f1 p q⟩⟩
/-- y = [..], y a local -/
theorem js_setLcG {fin : Addr → List W → WHp → WQ → Prop} (hfin : ∀ {G' H' D acc Qw} {Q : VK} , Rep P G' H' → G' D = some (.lst acc) → fin D acc G' Qw → (∀ w G2 v H2, RelW P G2 H2 w v → Rep P G2 H2 → Sub G2 G' → H2 = H' → Qw w G2 → Q v H2) → Q (.ref D) H') {i : Nat} {y : Str} {py spos : Pos}
    {elt iter : Expr} {ifs : List Expr} {scope : Scope} {j : Nat} {x : Str} {xp : Pos} {wi : WTI} {tt : WTT} {te : WTE} (hc : X.calm = true) (hN : X.N.Nodup) (hy : X.N[i]? = some y) (hyl : X.env.scope.names.lookup y = some .local)
    (hsw : swapsWith (.ListComp elt [⟨.Name x xp, iter, ifs, 0⟩] scope pos) (some (.Name y py)) spos.line X.env = pure true) (hi : JI P X (.Name x xp) iter wi) (ok : BlkOk X.N X.env.scope scope [(x, j)])
    (hg : ∀ (s : Shared) (H : Hp) (C : Addr) (cl : List (Str × Addr)) (fp : List Addr), PG (X.blk s H scope (compEnvC scope cl C X.env) fp) (.Name x xp) (gName j)) (ht : ∀ (s : Shared) (H : Hp) (C : Addr) (cl : List (Str × Addr)) (fp : List Addr), JTs P (X.blk s H scope (compEnvC scope cl C X.env) fp) ifs tt)
    (he : ∀ (s : Shared) (H : Hp) (C : Addr) (cl : List (Str × Addr)) (fp : List Addr), JE P (X.blk s H scope (compEnvC scope cl C X.env) fp) elt te) (hs : ∀ x, foldedSetIterable iter X.env x = pure x := by intro _; rfl) :
    JS P X (.Assign [.Name y py] (.ListComp elt [⟨.Name x xp, iter, ifs, 0⟩] scope pos) spos) (wAsg (wLcG fin wi j tt te) (wN i)) := fun Ga Ha Ew tk =>
  PS.imp (ps_setLc (i := i) (own := [(x, j)]) hc hN hy hyl hsw (hi Ga Ha Ew tk) ok hg (fun s H C cl fp => ht s H C cl fp _ _ _ takesF) (fun s H C cl fp => he s H C cl fp _ _ _ takesF) hs) fun D σ H ⟨σw, G, Dw, fa, rs, rp, ht, h1, h2, h3, h4⟩ =>
    lc_step (Ga := Ga) (Ha := Ha) (Ew := Ew) hfin σ H _ ⟨σw, G, _, fa, rs, rp, ht, fun w G' v H' f r p q => h1 _ G' _ H' f ((rs.fw rp f).set r i) p q⟩
theorem js_setLcM {i : Nat} {y : Str} {py spos : Pos}
    {elt iter : Expr} {ifs : List Expr} {scope : Scope} {j : Nat} {x : Str} {xp : Pos} {wi : WTI} {tt : WTT} {te : WTE} (hyl : X.env.scope.names.lookup y = some .local)
    (hsw : swapsWith (.ListComp elt [⟨.Name x xp, iter, ifs, 0⟩] scope pos) (some (.Name y py)) spos.line X.env = pure true) (hc : X.calm = true) (hN : X.N.Nodup) (hi : JI P X (.Name x xp) iter wi) (ok : BlkOk X.N X.env.scope scope [(x, j)])
    (hg : ∀ (s : Shared) (H : Hp) (C : Addr) (cl : List (Str × Addr)) (fp : List Addr), PG (X.blk s H scope (compEnvC scope cl C X.env) fp) (.Name x xp) (gName j)) (ht : ∀ (s : Shared) (H : Hp) (C : Addr) (cl : List (Str × Addr)) (fp : List Addr), JTs P (X.blk s H scope (compEnvC scope cl C X.env) fp) ifs tt)
    (he : ∀ (s : Shared) (H : Hp) (C : Addr) (cl : List (Str × Addr)) (fp : List Addr), JE P (X.blk s H scope (compEnvC scope cl C X.env) fp) elt te) (hy : X.N[i]? = some y := by rfl) (hs : ∀ x, foldedSetIterable iter X.env x = pure x := by intro _; rfl) :
    JS P X (.Assign [.Name y py] (.ListComp elt [⟨.Name x xp, iter, ifs, 0⟩] scope pos) spos) (wAsg (wLcM wi j tt te) (wN i)) := js_setLcG fin_M hc hN hy hyl hsw hi ok hg ht he hs
theorem js_setLcI {i : Nat} {y : Str} {py spos : Pos}
    {elt iter : Expr} {ifs : List Expr} {scope : Scope} {j : Nat} {x : Str} {xp : Pos} {wi : WTI} {tt : WTT} {te : WTE} (hyl : X.env.scope.names.lookup y = some .local)
    (hsw : swapsWith (.ListComp elt [⟨.Name x xp, iter, ifs, 0⟩] scope pos) (some (.Name y py)) spos.line X.env = pure true) (hc : X.calm = true) (hN : X.N.Nodup) (hi : JI P X (.Name x xp) iter wi) (ok : BlkOk X.N X.env.scope scope [(x, j)])
    (hg : ∀ (s : Shared) (H : Hp) (C : Addr) (cl : List (Str × Addr)) (fp : List Addr), PG (X.blk s H scope (compEnvC scope cl C X.env) fp) (.Name x xp) (gName j)) (ht : ∀ (s : Shared) (H : Hp) (C : Addr) (cl : List (Str × Addr)) (fp : List Addr), JTs P (X.blk s H scope (compEnvC scope cl C X.env) fp) ifs tt)
    (he : ∀ (s : Shared) (H : Hp) (C : Addr) (cl : List (Str × Addr)) (fp : List Addr), JE P (X.blk s H scope (compEnvC scope cl C X.env) fp) elt te) (hy : X.N[i]? = some y := by rfl) (hs : ∀ x, foldedSetIterable iter X.env x = pure x := by intro _; rfl) :
    JS P X (.Assign [.Name y py] (.ListComp elt [⟨.Name x xp, iter, ifs, 0⟩] scope pos) spos) (wAsg (wLcI wi j tt te) (wN i)) := js_setLcG fin_I hc hN hy hyl hsw hi ok hg ht he hs
/-- a list's truth -/
def wTruth (te : WTE) : WTT := fun σ G Q E => te σ G (fun x G1 => ∃ xs, sqT G1 x = some xs ∧ Q (!xs.isEmpty) G1) E
theorem RelWs.isEmpty {ws : List W} {vs : List V} (r : RelWs P G H ws vs) : ws.isEmpty = vs.isEmpty := by cases r <;> rfl
theorem jt_truth (hK : X.K = P.K) (h : JE P X a ta) (he : ∀ whole, isTrue a X.env whole = (do let v ← whole; standAt a.pos; holding [v] (truthy v)) := by intro _; rfl) : JT P X a (wTruth ta) := fun Ga Ha Ew tk =>
  PT.imp (pt_truth (h Ga Ha Ew tk) he) fun σ H Q ⟨σw, G, Qw, fa, rs, rp, ht, hq⟩ => ⟨σw, G, _, fa, rs, rp, ht, fun w G1 v H1 f1 r p ⟨xs, e, q⟩ => by
    obtain ⟨a, vs, rfl, ha, ra⟩ := sqT_rel p r e
    refine ⟨!xs.isEmpty, ?_, hq _ G1 H1 f1 p q⟩
    rw [ra.isEmpty, hK]
    rcases ha with ha | ha
    · exact .inl ⟨vs, ha, rfl⟩
    · exact .inr (.inl ⟨vs, ha, rfl⟩)⟩

/-! ### lists changed -/
def mInsert : WRm := fun x ws G Q => ∃ p xs i y, x = .ref p ∧ ws = [.int i, y] ∧ G p = some (.lst xs) ∧ xs.length < big ∧ 0 ≤ i ∧ i < 2 ^ 63 ∧ Q .non (updG G p (.lst (xs.take i.toNat ++ [y] ++ xs.drop i.toNat)))
theorem mw_insert : MtW P X "list.insert" mInsert := MtR.imp mt_insert fun x xs H Q ⟨wx, ws, G, Qw, rx, r, rp, ⟨p, ys, i, y, e1, e2, e, hl, h0, h1, q⟩, hq⟩ => by
  subst e1; subst e2
  cases rx
  obtain ⟨v, u, rfl, rv, ru⟩ := r.two
  cases rv
  obtain ⟨vs, h, ra⟩ := seen_rel rp e
  exact ⟨p, vs, i, u, rfl, rfl, h, by rw [← ra.length, big_eq]; exact hl, h0, h1, put_end hq rp e (((ra.take _).append (.cons _ _ _ _ ru .nil)).append (ra.drop _)) .non q⟩
def mExtend : WRm := fun x ws G Q => ∃ p xs y zs, x = .ref p ∧ ws = [y] ∧ G p = some (.lst xs) ∧ lstOf G y = some zs ∧ xs.length + zs.length ≤ big ∧ Q .non (updG G p (.lst (xs ++ zs)))
theorem mw_extend : MtW P X "list.extend" mExtend := MtR.imp (show MtR X "list.extend" rExtend from mt_extend) fun x xs H Q ⟨wx, ws, G, Qw, rx, r, rp, ⟨p, ys, y, zs, e1, e2, e, e3, hl, q⟩, hq⟩ => by
  subst e1; subst e2
  cases rx
  obtain ⟨v, rfl, rv⟩ := r.one
  obtain ⟨vs, h, ra⟩ := seen_rel rp e
  obtain ⟨b, us, rfl, hb, rb⟩ := lstOf_rel rp rv e3
  exact ⟨p, b, vs, us, rfl, rfl, h, hb, by rw [← ra.length, ← rb.length, big_eq]; exact hl, put_end hq rp e (ra.append rb) .non q⟩
theorem RelWs.dropLast : ∀ {ws : List W} {vs : List V}, RelWs P G H ws vs → RelWs P G H ws.dropLast vs.dropLast := fun {ws vs} r => by
  rw [List.dropLast_eq_take, List.dropLast_eq_take, ← r.length]
  exact r.take _
theorem RelWs.eraseIdx {ws : List W} {vs : List V} (k : Nat) (r : RelWs P G H ws vs) : RelWs P G H (ws.eraseIdx k) (vs.eraseIdx k) := by
  rw [List.eraseIdx_eq_take_drop_succ, List.eraseIdx_eq_take_drop_succ]
  exact (r.take _).append (r.drop _)
theorem RelWs.reverse : ∀ {ws : List W} {vs : List V}, RelWs P G H ws vs → RelWs P G H ws.reverse vs.reverse
  | _, _, .nil => .nil
  | _, _, .cons w v ws vs h r => by
    rw [List.reverse_cons, List.reverse_cons]
    exact (RelWs.reverse r).append (.cons _ _ _ _ h .nil)
def mPop : WRm := fun x ws G Q => ∃ p xs y, x = .ref p ∧ ws = [] ∧ G p = some (.lst xs) ∧ xs[xs.length - 1]? = some y ∧ Q y (updG G p (.lst xs.dropLast))
theorem mw_pop : MtW P X "list.pop" mPop := MtR.imp (show MtR X "list.pop" rPop from mt_pop) fun x xs H Q ⟨wx, ws, G, Qw, rx, r, rp, ⟨p, ys, y, e1, e2, e, e3, q⟩, hq⟩ => by
  subst e1; subst e2
  cases rx
  have e4 := r.zero
  subst e4
  obtain ⟨vs, h, ra⟩ := seen_rel rp e
  obtain ⟨v, hv, rv⟩ := ra.get e3
  exact ⟨p, vs, v, rfl, rfl, h, by rw [← ra.length]; exact hv, put_end hq rp e ra.dropLast rv q⟩
def mPopAt : WRm := fun x ws G Q => ∃ p xs i y, x = .ref p ∧ ws = [.int i] ∧ G p = some (.lst xs) ∧ xs.length ≤ big ∧ 0 ≤ i ∧ xs[i.toNat]? = some y ∧ Q y (updG G p (.lst (xs.eraseIdx i.toNat)))
theorem mw_popAt : MtW P X "list.pop" mPopAt := MtR.imp (show MtR X "list.pop" rPopAt from mt_popAt) fun x xs H Q ⟨wx, ws, G, Qw, rx, r, rp, ⟨p, ys, i, y, e1, e2, e, hl, h0, e3, q⟩, hq⟩ => by
  subst e1; subst e2
  cases rx
  obtain ⟨v, rfl, rv⟩ := r.one
  cases rv
  obtain ⟨vs, h, ra⟩ := seen_rel rp e
  obtain ⟨v, hv, rv⟩ := ra.get e3
  have hi : i.toNat < ys.length := (List.getElem?_eq_some_iff.mp e3).1
  have hb : big = 16777216 := rfl
  have hlen := ra.length
  exact ⟨p, vs, i, i.toNat, v, rfl, rfl, h, by omega, by omega, seqIndex_of h0 (by omega), hv, put_end hq rp e (ra.eraseIdx _) rv q⟩
def mReverse : WRm := fun x ws G Q => ∃ p xs, x = .ref p ∧ ws = [] ∧ G p = some (.lst xs) ∧ Q .non (updG G p (.lst xs.reverse))
theorem mw_reverse : MtW P X "list.reverse" mReverse := MtR.imp (show MtR X "list.reverse" rReverse from mt_reverse) fun x xs H Q ⟨wx, ws, G, Qw, rx, r, rp, ⟨p, ys, e1, e2, e, q⟩, hq⟩ => by
  subst e1; subst e2
  cases rx
  have e4 := r.zero
  subst e4
  obtain ⟨vs, h, ra⟩ := seen_rel rp e
  exact ⟨p, vs, rfl, rfl, h, put_end hq rp e ra.reverse .non q⟩
def mClear : WRm := fun x ws G Q => ∃ p xs, x = .ref p ∧ ws = [] ∧ G p = some (.lst xs) ∧ Q .non (updG G p (.lst []))
theorem mw_clear : MtW P X "list.clear" mClear := MtR.imp (show MtR X "list.clear" rClear from mt_clear) fun x xs H Q ⟨wx, ws, G, Qw, rx, r, rp, ⟨p, ys, e1, e2, e, q⟩, hq⟩ => by
  subst e1; subst e2
  cases rx
  have e4 := r.zero
  subst e4
  obtain ⟨vs, h, ra⟩ := seen_rel rp e
  exact ⟨p, vs, rfl, rfl, h, put_end hq rp e .nil .non q⟩
/-- the first place of a flat value -/
def mIndex : WRm := fun x ws G Q => ∃ ys y j z, ws = [y] ∧ sqOf G x = some ys ∧ flW y = true ∧ ys.all flW = true ∧ ys[j]? = some z ∧ eqFl z y = true ∧ (∀ (m : Nat) z', m < j → ys[m]? = some z' → eqFl z' y = false) ∧ Q (.int (j : Nat)) G
theorem mw_index (hK : X.K = P.K) : MtW P X "list.index" mIndex := MtR.imp mt_index fun x xs H Q ⟨wx, ws, G, Qw, rx, r, rp, ⟨ys, y, j, z, e2, e, fy, fys, hj, hz, hno, q⟩, hq⟩ => by
  subst e2
  obtain ⟨v, rfl, rv⟩ := r.one
  obtain ⟨a, vs, rfl, ha, ra⟩ := sqOf_rel rp rx e
  obtain ⟨u, hu, ru⟩ := ra.get hj
  have fl : ∀ {m : Nat} {z' : W}, ys[m]? = some z' → flW z' = true := fun h => List.all_eq_true.mp fys _ (List.mem_of_getElem? h)
  refine ⟨a, vs, v, j, u, rfl, rfl, by rw [hK]; exact ha, flW_rel rv fy, all_flat ra fys, hu, by rw [eqFl_rel ru rv (fl hj) fy]; exact hz, fun m z' hm hz' => ?_, emb_end hq rp (.int _) q⟩
  obtain ⟨w', hw', rw'⟩ := ra.get' hz'
  rw [eqFl_rel rw' rv (fl hw') fy]
  exact hno m w' hm hw'

/-! ### xs[i] = e -/
abbrev WSet := W → W → W → WHp → (WHp → Prop) → Prop
def embSet (P : Par) (wr : WSet) : V → V → V → Hp → (Hp → Prop) → Prop := fun o i v H Q => ∃ wo wi wv G Qw, RelW P G H wo o ∧ RelW P G H wi i ∧ RelW P G H wv v ∧ Rep P G H ∧ wr wo wi wv G Qw ∧ ∀ G' H', Fw G H G' H' → Rep P G' H' → Qw G' → Q H'
def SetW (P : Par) (X : Cx) (wr : WSet) : Prop := PSet X (embSet P wr)
def wGSub (wr : WSet) (to ti : WTE) : WTG := fun v σ G Q E => to σ G (fun o G1 => ti σ G1 (fun i G2 => wr o i v G2 fun G3 => Q σ G3) E) E
theorem jg_sub {wr : WSet} (ho : JE P X a ta) (hi : JE P X b tb) (hs : SetW P X wr)
    (ha : ∀ v, assign (.Subscript a b pos) X.env v = (do
      let ov ← holding [v] (eval a X.env)
      let iv ← holding [v, ov] (eval b X.env)
      standAt pos
      holding [v, ov, iv] (setItem ov iv v)
      release [v, ov, iv] []) := by intro _; rfl) : JG P X (.Subscript a b pos) (wGSub wr ta tb) := fun Ga Ha Ew tk =>
  PG.imp (pg_sub (ho Ga Ha Ew tk) (hi Ga Ha Ew tk) hs ha) fun v σ H Q ⟨w, σw, G, Qw, fa, rw_, rs, rp, ht, hq⟩ => ⟨σw, G, _, fa, rs, rp, ht, fun o G1 ov H1 f1 ro p1 h1 => ⟨σw, G1, _, fa.trans f1, rs.fw rp f1, p1, h1, fun i G2 iv H2 f2 ri p2 h2 =>
    ⟨o, i, w, G2, _, ro.fw p1 f2, ri, (rw_.fw rp f1).fw p1 f2, p2, h2, fun G3 H3 f3 p3 q => hq _ G3 _ H3 (f1.trans (f2.trans f3)) (((rs.fw rp f1).fw p1 f2).fw p2 f3) p3 q⟩⟩⟩
def mSet : WSet := fun o i v G Q => ∃ p xs k j, o = .ref p ∧ i = .int k ∧ G p = some (.lst xs) ∧ ixN xs.length k = some j ∧ Q (updG G p (.lst (xs.set j v)))
theorem pw_list : SetW P X mSet := by
  intro pins s σ H o i v ov iv u Q I ro ri rv h
  obtain ⟨wo, wi, wv, G, Qw, r1, r2, r3, rp, ⟨p, xs, k, j, e1, e2, e, hj, q⟩, hq⟩ := h
  subst e1; subst e2
  cases r1; cases r2
  obtain ⟨vs, h, ra⟩ := seen_rel rp e
  have f : Fw G H (updG G p (.lst (xs.set j wv))) (upd H p (.lst (vs.set j v))) := .put e
  exact set_list pins s σ H _ _ v ov iv u Q I ro ri rv ⟨p, vs, k, j, rfl, rfl, h, by rw [← ra.length]; exact hj, hq _ _ f (rp.put (u := .lst (xs.set j wv)) f ⟨_, upd_same, (RelWs.set r3 j ra).fw rp f⟩) q⟩

/-! ### texts -/
def strsOf : List W → Option (List (List Nat))
  | [] => some []
  | .str s :: r => (strsOf r).map (s :: ·)
  | _ :: _ => none
theorem RelWs.strs : ∀ {ws : List W} {vs : List V} {ss : List (List Nat)}, RelWs P G H ws vs → strsOf ws = some ss → vs = (ss.map S).map V.str
  | _, _, ss, .nil, e => by cases e; rfl
  | _, _, ss, .cons w v ws vs h r, e => by
    cases h with
    | str s =>
      unfold strsOf at e
      cases q : strsOf ws with
      | none => rw [q] at e; cases e
      | some ss' =>
        rw [q] at e
        cases e
        rw [RelWs.strs r q]
        rfl
    | _ => cases e
theorem strsOf_map (ss : List (List Nat)) : strsOf (ss.map W.str) = some ss := by
  induction ss with
  | nil => rfl
  | cons s r ih => simp [strsOf, ih]
def mSjoin : WRm := fun x ws G Q => ∃ s y zs ss, x = .str s ∧ ws = [y] ∧ sqT G y = some zs ∧ strsOf zs = some ss ∧ (ss.map (·.length)).sum + ss.length * s.length ≤ big ∧ Q (.str (TL.joinL s ss)) G
theorem mw_sjoin (hK : X.K = P.K) : MtW P X "str.join" mSjoin := MtR.imp mt_join fun x xs H Q ⟨wx, ws, G, Qw, rx, r, rp, ⟨s, y, zs, ss, e1, e2, e, e3, hl, q⟩, hq⟩ => by
  subst e1; subst e2
  cases rx
  obtain ⟨v, rfl, rv⟩ := r.one
  obtain ⟨a, vs, rfl, ha, ra⟩ := sqT_rel rp rv e
  have ev := ra.strs e3
  subst ev
  refine ⟨S s, a, ss.map S, rfl, rfl, by rw [hK]; exact ha, ?_, ?_⟩
  · rw [List.map_map, List.length_map]
    exact hl
  · have ej : Txt.join (S s) (ss.map S) = S (TL.joinL s ss) := by
      refine TL.ext_tl ?_
      rw [TL.join_eq, TL.tl_join, List.map_map]
      show TL.joinL s (ss.map (TL.tl ∘ S)) = TL.joinL s ss
      have : (TL.tl ∘ S) = id := by funext z; rfl
      rw [this, List.map_id]
    rw [ej]
    exact emb_end hq rp (.str _) q
/-- cut at each separator; as a value -/
def splitL (t s : List Nat) : List (List Nat) := TL.spl t 0 [] s
def mSsplit : WRm := fun x ws G Q => ∃ s t, x = .str s ∧ ws = [.str t] ∧ t ≠ [] ∧ t.all (· < 256) = true ∧ s.length + 2 ≤ big ∧ Q (.il ((splitL t s).map .str)) G
def mSsplitM : WRm := fun x ws G Q => ∃ s t, x = .str s ∧ ws = [.str t] ∧ t ≠ [] ∧ t.all (· < 256) = true ∧ s.length + 2 ≤ big ∧ ∀ p, G p = none → Q (.ref p) (updG G p (.lst ((splitL t s).map .str)))
theorem split_S {s t : List Nat} (h : t ≠ []) (hk : t.all (· < 256) = true) : (Txt.split (S s) (S t)).map V.str = ((splitL t s).map S).map V.str := by
  have e : Txt.split (S s) (S t) = (splitL t s).map S := by
    refine TL.map_tl_inj ?_
    rw [TL.split_spl (S s) (S t) h (TL.kind_ok (by simpa using hk)), List.map_map]
    show splitL t s = (splitL t s).map (TL.tl ∘ S)
    have : (TL.tl ∘ S) = id := by funext z; rfl
    rw [this, List.map_id]
  rw [e]
theorem RelWs.ofStrs (ss : List (List Nat)) : RelWs P G H (ss.map W.str) ((ss.map S).map V.str) := by
  induction ss with
  | nil => exact .nil
  | cons s r ih => exact .cons _ _ _ _ (.str s) ih
theorem mw_ssplit : MtW P X "str.split" mSsplit := MtR.imp mt_split fun x xs H Q ⟨wx, ws, G, Qw, rx, r, rp, ⟨s, t, e1, e2, ht, hk, hl, q⟩, hq⟩ => by
  subst e1; subst e2
  cases rx
  obtain ⟨v, rfl, rv⟩ := r.one
  cases rv
  refine ⟨S s, S t, rfl, rfl, ?_, by rw [S_len, big_eq]; exact hl, fun p hp => ?_⟩
  · cases t with
    | nil => exact absurd rfl ht
    | cons c r => rfl
  · rw [split_S ht hk]
    exact hq _ G _ _ (.hid hp) (.il p _ _ ⟨upd_same, rp.free hp⟩ (.ofStrs _)) (rp.hid hp) q
theorem mw_ssplitM : MtW P X "str.split" mSsplitM := MtR.imp mt_split fun x xs H Q ⟨wx, ws, G, Qw, rx, r, rp, ⟨s, t, e1, e2, ht, hk, hl, q⟩, hq⟩ => by
  subst e1; subst e2
  cases rx
  obtain ⟨v, rfl, rv⟩ := r.one
  cases rv
  refine ⟨S s, S t, rfl, rfl, ?_, by rw [S_len, big_eq]; exact hl, fun p hp => ?_⟩
  · cases t with
    | nil => exact absurd rfl ht
    | cons c r => rfl
  · rw [split_S ht hk]
    exact hq _ _ _ _ (.new hp) (.ref p) (rp.put (u := .lst ((splitL t s).map .str)) (.new hp) ⟨_, upd_same, .ofStrs _⟩) (q p (rp.free hp))
def mSindex : WRm := fun x ws G Q => ∃ s t i rest, x = .str s ∧ ws = [.str t] ∧ Builtin.Str.occurrences (S s) (S t) 0 s.length 1 = i :: rest ∧ Q (.int (i : Nat)) G
theorem mw_sindex : MtW P X "str.index" mSindex := MtR.imp mt_sindex fun x xs H Q ⟨wx, ws, G, Qw, rx, r, rp, ⟨s, t, i, rest, e1, e2, e, q⟩, hq⟩ => by
  subst e1; subst e2
  cases rx
  obtain ⟨v, rfl, rv⟩ := r.one
  cases rv
  exact ⟨S s, S t, i, rest, rfl, rfl, e, emb_end hq rp (.int _) q⟩
end
/-- the law's promise from the script's list -/
def spLaw : WSp := fun ws G Q _ => ∃ ns : List Int, ws = [.sc ns] ∧ ns.length ≤ 63 ∧ G = (fun _ => none) ∧ ∀ G', Q (.bl true) G'
theorem law_sp (P : Par) {H : Hp} {a : Addr} {ns : List Int} (hl : ns.length ≤ 63) (hO : Only H) (hS : SqL P.K H a (ns.map V.int)) : embSp P spLaw [.ref a] H (fun v _ => v = .bl true) fun _ _ _ => False := by
  refine ⟨[.sc ns], fun _ => none, fun w _ => w = .bl true, fun _ _ => False, .cons _ _ _ _ (.sc a ns ?_) .nil, fun _ _ e => (nomatch e), ⟨ns, rfl, hl, rfl, fun _ => rfl⟩, fun w G' v H' _ r _ q => ?_, fun _ _ _ _ _ _ _ _ q => q.elim⟩
  · rcases hS with (hS | ⟨o, hS⟩) | hS
    · rcases hO a with z | ⟨o, xs, z⟩
      · rw [hS] at z; cases z
      · rw [hS] at z; cases z
    · exact .inl ⟨o, hS⟩
    · exact .inr (.inr hS)
  · subst q
    cases r
    rfl
end Lw
/-! W7: the readings of operators on known values, as equations for simp. -/
namespace Lw
open PySem PySem.Spec PyProof.Rows L2
theorem passesW {X : Cx} {K : Value → Shared → Prop} {E₁ : Value → Shared → Prop} (hx : X.xe = fun e s' => wpAny (model X.prog X.w) X.A (leaving X.env e) (fun _ s'' => K e s'') E₁ s') : PassesOwn (model X.prog X.w) X.A X.env X.xe := passes_of hx
section
variable {G : WHp} {Q : WQ} {σ : WSt} {E : WXK}
theorem oLen_str (s : List Nat) : oLen [.str s] G Q = (s.length ≤ 16777216 ∧ Q (.int s.length) G) := rfl
theorem oLen_tup (s : List W) : oLen [.tup s] G Q = Q (.int s.length) G := rfl
theorem oLen_il (s : List W) : oLen [.il s] G Q = Q (.int s.length) G := by simp [oLen, sqOf, lstOf]
theorem oLen_sc (s : List Int) : oLen [.sc s] G Q = Q (.int s.length) G := by simp [oLen, sqOf, lstOf]
theorem oLen_ref (p : Addr) (xs : List W) (h : G p = some (.lst xs)) : oLen [.ref p] G Q = Q (.int xs.length) G := by simp [oLen, sqOf, lstOf, h]
theorem oI_int (C : Int → Int → Prop) (g : Int → Int → Int) (i j : Int) : oI C g (.int i) (.int j) G Q = (C i j ∧ Q (.int (g i j)) G) := rfl
theorem oC_int (p : Int → Int → Bool) (i j : Int) : oC p (.int i) (.int j) G Q = Q (.bl (p i j)) G := rfl
theorem oAdd_int (i j : Int) : oAdd (.int i) (.int j) G Q = Q (.int (i + j)) G := rfl
theorem oAdd_str (s t : List Nat) : oAdd (.str s) (.str t) G Q = (s.length + t.length ≤ 16777216 ∧ Q (.str (s ++ t)) G) := rfl
theorem oAdd_tup (s t : List W) : oAdd (.tup s) (.tup t) G Q = (s.length + t.length ≤ 16777216 ∧ Q (.tup (s ++ t)) G) := rfl
theorem oAdd_il (s t : List W) : oAdd (.il s) (.il t) G Q = (s.length + t.length ≤ 16777216 ∧ Q (.il (s ++ t)) G) := by simp [oAdd, lstOf, big]
theorem oNeg_int (i : Int) : oNeg (.int i) G Q = Q (.int (-i)) G := rfl
theorem oIx_sc (s : List Int) (i : Int) : oIx (.sc s) (.int i) G Q = ∃ n, atI s i = some n ∧ Q (.int n) G := by
  simp only [oIx, sqOf, Option.some.injEq]
  apply propext
  constructor
  · rintro ⟨ws, w, rfl, h, q⟩
    unfold L2.atI at h ⊢
    rw [List.length_map] at h
    cases e : ixN s.length i with
    | none => rw [e] at h; cases h
    | some j =>
      rw [e] at h
      simp only [Option.bind_some, List.getElem?_map, Option.map_eq_some_iff] at h ⊢
      obtain ⟨n, h1, rfl⟩ := h
      exact ⟨n, h1, q⟩
  · rintro ⟨n, h, q⟩
    refine ⟨_, _, rfl, ?_, q⟩
    unfold L2.atI at h ⊢
    rw [List.length_map]
    cases e : ixN s.length i with
    | none => rw [e] at h; cases h
    | some j =>
      rw [e] at h
      simp only [Option.bind_some, List.getElem?_map] at h ⊢
      rw [h] <;> rfl
theorem oIx_str (s : List Nat) (i : Int) : oIx (.str s) (.int i) G Q = (s.length ≤ 16777216 ∧ ∃ c, atI s i = some c ∧ Q (.str [c]) G) := rfl
theorem oIx_tup (s : List W) (i : Int) : oIx (.tup s) (.int i) G Q = ∃ w, atI s i = some w ∧ Q w G := rfl
theorem oIx_il (s : List W) (i : Int) : oIx (.il s) (.int i) G Q = ∃ w, atI s i = some w ∧ Q w G := by simp [oIx, sqOf, lstOf]
theorem oIx_ref (p : Addr) (s : List W) (i : Int) (h : G p = some (.lst s)) : oIx (.ref p) (.int i) G Q = ∃ w, atI s i = some w ∧ Q w G := by simp [oIx, sqOf, lstOf, h]
theorem oSl_str (s : List Nat) (lo hi : Option Int) : oSl (.str s) lo hi G Q = (s.length ≤ 16777216 ∧ Q (.str (cutL s lo hi)) G) := rfl
theorem oSl_tup (s : List W) (lo hi : Option Int) : oSl (.tup s) lo hi G Q = Q (.tup (cutL s lo hi)) G := rfl
theorem oSl_il (s : List W) (lo hi : Option Int) : oSl (.il s) lo hi G Q = Q (.il (cutL s lo hi)) G := by simp [oSl, sqOf, lstOf]
theorem cutL_map {α β : Type} (f : α → β) (s : List α) (lo hi : Option Int) : cutL (s.map f) lo hi = (cutL s lo hi).map f := by
  unfold cutL
  rw [List.length_map, List.map_take, List.map_drop]
theorem oSl_sc (s : List Int) (lo hi : Option Int) : oSl (.sc s) lo hi G Q = Q (.il ((cutL s lo hi).map W.int)) G := by
  simp [oSl, sqOf, cutL_map]
theorem oEq_scl {x y : W} {k : Bool} (h : sclW x y = some k) : oEq x y G Q = Q (.bl k) G := by unfold oEq; rw [h]
theorem oEq_int (i j : Int) : oEq (.int i) (.int j) G Q = Q (.bl (decide (i = j))) G := rfl
theorem oEq_str (i j : List Nat) : oEq (.str i) (.str j) G Q = Q (.bl (decide (i = j))) G := rfl
theorem oEq_bl (i j : Bool) : oEq (.bl i) (.bl j) G Q = Q (.bl (decide (i = j))) G := rfl
theorem oNe_int (i j : Int) : oNe (.int i) (.int j) G Q = Q (.bl (!decide (i = j))) G := rfl
theorem oNe_str (i j : List Nat) : oNe (.str i) (.str j) G Q = Q (.bl (!decide (i = j))) G := rfl
theorem oNe_bl (i j : Bool) : oNe (.bl i) (.bl j) G Q = Q (.bl (!decide (i = j))) G := rfl
theorem oNe_nonint (j : Int) : oNe .non (.int j) G Q = Q (.bl true) G := rfl
theorem oNe_intnon (j : Int) : oNe (.int j) .non G Q = Q (.bl true) G := rfl
theorem oIn_sign (c : Nat) (t : List Nat) : oIn (.str [c]) (.str t) G Q = Q (.bl (decide (c ∈ t))) G := by
  simp only [oIn, inW, List.cons.injEq, and_true]
  apply propext
  exact ⟨fun ⟨d, e, q⟩ => by subst e; exact q, fun q => ⟨c, rfl, q⟩⟩
theorem oNotIn_sign (c : Nat) (t : List Nat) : oNotIn (.str [c]) (.str t) G Q = Q (.bl (!decide (c ∈ t))) G := by
  simp only [oNotIn, inW, List.cons.injEq, and_true]
  apply propext
  exact ⟨fun ⟨d, e, q⟩ => by subst e; exact q, fun q => ⟨c, rfl, q⟩⟩
theorem oStr_int (i : Int) : oStr [.int i] G Q = (i.natAbs.log2 < 1920 ∧ Q (.str (strI i)) G) := rfl
theorem oInt_int (i : Int) : oInt [.int i] G Q = Q (.int i) G := rfl
theorem oInt_bl (k : Bool) : oInt [.bl k] G Q = Q (.int (if k then 1 else 0)) G := rfl
theorem oMax2_int (i j : Int) : oMax2 [.int i, .int j] G Q = Q (.int (if j > i then j else i)) G := rfl
theorem oMin2_int (i j : Int) : oMin2 [.int i, .int j] G Q = Q (.int (if j < i then j else i)) G := rfl
theorem kit_ii : kitB "int" "int" = some true := by decide +kernel
theorem kit_ib : kitB "int" "bool" = some false := by decide +kernel
theorem kit_bb : kitB "bool" "bool" = some true := by decide +kernel
theorem kit_bi : kitB "bool" "int" = some true := by decide +kernel
theorem kit_ss : kitB "str" "str" = some true := by decide +kernel
theorem kit_ll : kitB "list" "list" = some true := by decide +kernel
theorem kit_dd : kitB "dict" "dict" = some true := by decide +kernel
theorem kit_tt : kitB "tuple" "tuple" = some true := by decide +kernel
theorem kit_ni : kitB "NoneType" "int" = some false := by decide +kernel
theorem oIsi_ii (i : Int) : oIsi [.int i, .ty "int"] G Q = Q (.bl true) G := by simp [oIsi, tyN, kit_ii]
theorem oIsi_ib (i : Int) : oIsi [.int i, .ty "bool"] G Q = Q (.bl false) G := by simp [oIsi, tyN, kit_ib]
theorem oIsi_bb (i : Bool) : oIsi [.bl i, .ty "bool"] G Q = Q (.bl true) G := by simp [oIsi, tyN, kit_bb]
theorem oIsi_bi (i : Bool) : oIsi [.bl i, .ty "int"] G Q = Q (.bl true) G := by simp [oIsi, tyN, kit_bi]
theorem oIsi_ss (i : List Nat) : oIsi [.str i, .ty "str"] G Q = Q (.bl true) G := by simp [oIsi, tyN, kit_ss]
theorem oIsi_ll (i : List W) : oIsi [.il i, .ty "list"] G Q = Q (.bl true) G := by simp [oIsi, tyN, kit_ll]
theorem oIsi_tt (i : List W) : oIsi [.tup i, .ty "tuple"] G Q = Q (.bl true) G := by simp [oIsi, kit_tt]
theorem oIsi_ni : oIsi [.non, .ty "int"] G Q = Q (.bl false) G := by simp [oIsi, tyN, kit_ni]
theorem oIsi_rl (p : Addr) (xs : List W) (h : G p = some (.lst xs)) : oIsi [.ref p, .ty "list"] G Q = Q (.bl true) G := by simp [oIsi, tyN, h, kit_ll]
theorem ite_bool {c : Bool} {A B : Prop} : (if c = true then A else B) = ((c = true → A) ∧ (c = false → B)) := by
  cases c <;> simp
end
/-- the letters, the figures -/
def LET : List Nat := [97, 98, 99, 100, 101, 102, 103, 104, 105, 106, 107, 108, 109, 110, 111, 112, 113, 114, 115, 116, 117, 118, 119, 120, 121, 122]
def FIG : List Nat := [48, 49, 50, 51, 52, 53, 54, 55, 56, 57]
theorem LET_len : LET.length = 26 := rfl
theorem FIG_len : FIG.length = 10 := rfl
theorem LET_mem {c : Nat} : c ∈ LET ↔ 97 ≤ c ∧ c ≤ 122 := by simp only [LET, List.mem_cons, List.not_mem_nil, or_false]; omega
theorem FIG_mem {c : Nat} : c ∈ FIG ↔ 48 ≤ c ∧ c ≤ 57 := by simp only [FIG, List.mem_cons, List.not_mem_nil, or_false]; omega
def allIn (t s : List Nat) : Bool := s.all fun c => decide (c ∈ t)
theorem allIn_nil (t : List Nat) : allIn t [] = true := rfl
theorem allIn_snoc (t s : List Nat) (c : Nat) : allIn t (s ++ [c]) = (allIn t s && decide (c ∈ t)) := by simp [allIn]
theorem allIn_not {t s : List Nat} {c : Nat} (h : c ∈ s) (h' : c ∉ t) : allIn t s = false := by
  rw [allIn, List.all_eq_false]
  exact ⟨c, h, by simpa using h'⟩
theorem allIn_take {t s : List Nat} {i c : Nat} (h : s[i]? = some c) : allIn t (s.take (i + 1)) = (allIn t (s.take i) && decide (c ∈ t)) := by
  rw [List.take_add_one, h, Option.toList_some, allIn_snoc]
theorem allIn_iff {t s : List Nat} : allIn t s = true ↔ ∀ c ∈ s, c ∈ t := by simp [allIn]
/-- an index in bounds -/
theorem atI_in {α : Type} {xs : List α} {i : Int} (h0 : 0 ≤ i) (h1 : i < xs.length) : ∃ v, atI xs i = some v ∧ v ∈ xs := by
  have hi : i.toNat < xs.length := by omega
  have e := atI_nat (List.getElem?_eq_getElem hi)
  rw [show ((i.toNat : Nat) : Int) = i by omega] at e
  exact ⟨_, e, List.getElem_mem hi⟩
/-! ### loops, as one uses them -/
/-- over a range -/
theorem for_rngW {lo : Int} {n : Nat} {ok : WHp → Prop} {g : WTG} {tb : WTS} {nx : WSt → WHp → Prop} {rt : WQ} {σ : WSt} {G : WHp} {E : WXK} (Inv : Nat → WSt → WHp → Prop) (h0 : Inv 0 σ G) (hok : ∀ i σ' G', Inv i σ' G' → ok G')
    (hs : ∀ i σ' G', i < n → Inv i σ' G' → g (.int (lo + i)) σ' G' (fun σ2 G2 => tb { nx := Inv (i + 1), rt := rt, bk := nx, ct := Inv (i + 1) } σ2 G2 E) E) (hd : ∀ σ' G', Inv n σ' G' → nx σ' G') :
    ∃ Inv : Nat → WSt → WHp → Prop, Inv 0 σ G ∧ (∀ i σ' G', i ≤ (rngW lo n).length → Inv i σ' G' → ok G') ∧
      (∀ i x σ' G', (rngW lo n)[i]? = some x → Inv i σ' G' → g x σ' G' (fun σ2 G2 => tb { nx := Inv (i + 1), rt := rt, bk := nx, ct := Inv (i + 1) } σ2 G2 E) E) ∧ (∀ σ' G', Inv (rngW lo n).length σ' G' → nx σ' G') :=
  ⟨Inv, h0, fun i σ' G' _ h => hok i σ' G' h, fun i x σ' G' hx h => by obtain ⟨hi, rfl⟩ := rngW_get hx; exact hs i σ' G' hi h, fun σ' G' h => hd σ' G' (by rw [rngW_len] at h; exact h)⟩
/-- the same from 0 -/
theorem for_rng0 {n : Nat} {ok : WHp → Prop} {g : WTG} {tb : WTS} {nx : WSt → WHp → Prop} {rt : WQ} {σ : WSt} {G : WHp} {E : WXK} (Inv : Nat → WSt → WHp → Prop) (h0 : Inv 0 σ G) (hok : ∀ i σ' G', Inv i σ' G' → ok G')
    (hs : ∀ (i : Nat) σ' G', i < n → Inv i σ' G' → g (.int i) σ' G' (fun σ2 G2 => tb { nx := Inv (i + 1), rt := rt, bk := nx, ct := Inv (i + 1) } σ2 G2 E) E) (hd : ∀ σ' G', Inv n σ' G' → nx σ' G') :
    ∃ Inv : Nat → WSt → WHp → Prop, Inv 0 σ G ∧ (∀ i σ' G', i ≤ (rngW 0 n).length → Inv i σ' G' → ok G') ∧
      (∀ i x σ' G', (rngW 0 n)[i]? = some x → Inv i σ' G' → g x σ' G' (fun σ2 G2 => tb { nx := Inv (i + 1), rt := rt, bk := nx, ct := Inv (i + 1) } σ2 G2 E) E) ∧ (∀ σ' G', Inv (rngW 0 n).length σ' G' → nx σ' G') :=
  for_rngW Inv h0 hok (fun i σ' G' hi h => by rw [Int.zero_add]; exact hs i σ' G' hi h) hd
theorem len_cut {α : Type} (s : List α) (lo hi : Option Int) : (cutL s lo hi).length ≤ s.length := by
  unfold cutL
  rw [List.length_take, List.length_drop]
  omega
theorem cut_head {α : Type} (s : List α) (n : Nat) : cutL s none (some (n : Int)) = s.take n := by
  unfold cutL
  rw [HT.sIx_nat, HT.sIx_none, List.drop_zero, Nat.sub_zero]
  rcases Nat.le_total n s.length with h | h
  · rw [Nat.min_eq_left h]
  · rw [Nat.min_eq_right h, List.take_length, List.take_of_length_le h]
theorem cut_tail {α : Type} (s : List α) (n : Nat) : cutL s (some (n : Int)) none = s.drop n := by
  unfold cutL
  rw [HT.sIx_nat, HT.sIx_none]
  rcases Nat.le_total n s.length with h | h
  · rw [Nat.min_eq_left h, List.take_of_length_le (by rw [List.length_drop]; omega)]
  · rw [Nat.min_eq_right h, Nat.sub_self, List.take_zero, List.drop_eq_nil_of_le h]
end Lw
namespace Lw
open PySem PySem.Spec PyProof.Rows L2
/-! ## the text by its places -/
def topS (i : Nat) : Stmt := PySem.Challenge.pw_lampway_k02_words.main.body.getD i (.Pass ⟨0, 0, 0, 0⟩)
abbrev s_words : Stmt := topS 1
theorem sc_words : FnScope ["text", "row"] ["text"] (defScope s_words) := ⟨rfl, rfl, rfl, by decide +kernel, rfl, by decide +kernel, by decide +kernel⟩
abbrev s_l_draw : Stmt := topS 3
theorem sc_l_draw : FnScope ["_law_script", "_law_k", "_law_many", "_law_cell", "_law_seed"] ["_law_script", "_law_k", "_law_many"] (defScope s_l_draw) := ⟨rfl, rfl, rfl, by decide +kernel, rfl, by decide +kernel, by decide +kernel⟩
abbrev s_l_sign : Stmt := topS 4
theorem sc_l_sign : FnScope ["_law_script", "_law_k", "_law_few", "_law_some"] ["_law_script", "_law_k"] (defScope s_l_sign) := ⟨rfl, rfl, rfl, by decide +kernel, rfl, by decide +kernel, by decide +kernel⟩
abbrev s_l_good : Stmt := topS 5
theorem sc_l_good : FnScope ["_law_found", "_law_text", "_law_row", "_law_word"] ["_law_found", "_law_text"] (defScope s_l_good) := ⟨rfl, rfl, rfl, by decide +kernel, rfl, by decide +kernel, by decide +kernel⟩
abbrev s_law : Stmt := topS 6
theorem sc_law : FnScope ["_law_script", "_law_size", "_law_text", "_law_first", "_law_k"] ["_law_script"] (defScope s_law) := ⟨rfl, rfl, rfl, by decide +kernel, rfl, by decide +kernel, by decide +kernel⟩
/-! ## mathematics and promises -/
abbrev endsW (Q : WQ) : WEnds := { nx := fun _ G' => Q .non G', rt := Q, bk := fun _ _ => False, ct := fun _ _ => False }
/-- what the law draws -/
def drawF (ns : List Int) (k m : Int) : Int :=
  let cell := if 0 < (ns.length : Int) then (atI ns (k % ns.length)).getD 0 else 0
  (cell % 1000003 + 31 * k * k + 1) * 48271 % 999983 * 7919 % 524287 % m
theorem drawF_lo {ns : List Int} {k m : Int} (h : 0 < m) : 0 ≤ drawF ns k m := Int.emod_nonneg _ (by omega)
theorem drawF_hi {ns : List Int} {k m : Int} (h : 0 < m) : drawF ns k m < m := Int.emod_lt_of_pos _ h
def sp_l_draw : WSp := fun ws G Q _ => ∃ ns k m, ws = [.sc ns, .int k, .int m] ∧ ns.length ≤ 63 ∧ 0 ≤ k ∧ k < 1000000 ∧ 0 < m ∧ Q (.int (drawF ns k m)) G
theorem len_l_draw : ∀ ws G Q E, sp_l_draw ws G Q E → ws.length = (["_law_script", "_law_k", "_law_many"] : List Str).length := fun ws G Q E ⟨_, _, _, h, _⟩ => by rw [h]; rfl
abbrev sp_law := spLaw
theorem len_law : ∀ ws G Q E, sp_law ws G Q E → ws.length = (["_law_script"] : List Str).length := fun ws G Q E ⟨_, h, _⟩ => by rw [h]; rfl
/-- a call of the law's draw -/
theorem draw_i {ns : List Int} {k m : Int} {G : WHp} {Q : WQ} {E : Xc → WHp → Prop} (hl : ns.length ≤ 63) (hk : 0 ≤ k) (hk' : k < 1000000) (hm : 0 < m) (q : 0 ≤ drawF ns k m → drawF ns k m < m → Q (.int (drawF ns k m)) G) : sp_l_draw [.sc ns, .int k, .int m] G Q E :=
  ⟨ns, k, m, rfl, hl, hk, hk', hm, q (drawF_lo hm) (drawF_hi hm)⟩
theorem isl (ns : List Int) : (List.map W.int (cutL ns none (some 12))).length ≤ 12 := by
  rw [show (12 : Int) = ((12 : Nat) : Int) from rfl, cut_head, List.length_map, List.length_take]
  exact Nat.min_le_left _ _
theorem le_size {n : Nat} (h : n ≤ 100000) : n ≤ sizeLine := by rw [big_eq, big]; omega
theorem atI_0 {α : Type} {xs : List α} (h : 0 < xs.length) : ∃ c, atI xs 0 = some c ∧ xs[0]? = some c := by
  obtain ⟨c, e, _⟩ := atI_in (xs := xs) (i := 0) (by omega) (by omega)
  exact ⟨c, e, by simpa [atI, ixN, h] using e⟩

theorem spl_one (t c : Nat) (acc r : List Nat) : TL.spl [t] 0 acc (c :: r) = if c = t then acc :: TL.spl [t] 0 [] r else TL.spl [t] 0 (acc ++ [c]) r := by
  show (if TL.pre [t] (c :: r) = true then acc :: TL.spl [t] ([t].length - 1) [] r else TL.spl [t] 0 (acc ++ [c]) r) = _
  have : TL.pre [t] (c :: r) = decide (c = t) := by simp [TL.pre]; exact Bool.eq_iff_iff.mpr (by simp)
  rw [this]; simp
theorem spl_ne (t : Nat) : ∀ (s acc : List Nat), TL.spl [t] 0 acc s ≠ []
  | [], acc => by rw [TL.spl_nil]; simp
  | c :: r, acc => by
    rw [spl_one]; split
    · simp
    · exact spl_ne t r _
theorem spl_back (t : Nat) : ∀ (s acc : List Nat), TL.joinL [t] (TL.spl [t] 0 acc s) = acc ++ s
  | [], acc => by rw [TL.spl_nil]; simp [TL.joinL]
  | c :: r, acc => by
    rw [spl_one]; split
    · rename_i h
      subst h
      have h := spl_back c r []
      cases e : TL.spl [c] 0 [] r with
      | nil => exact absurd e (spl_ne _ _ _)
      | cons p q => rw [e] at h; simp only [TL.joinL, h]; simp
    · rw [spl_back t r]; simp
theorem spl_no (t : Nat) : ∀ (s acc : List Nat), t ∉ acc → ∀ w ∈ TL.spl [t] 0 acc s, t ∉ w
  | [], acc, h, w, hw => by rw [TL.spl_nil] at hw; simp at hw; exact hw ▸ h
  | c :: r, acc, h, w, hw => by
    rw [spl_one] at hw
    split at hw
    · rcases List.mem_cons.mp hw with rfl | hw
      · exact h
      · exact spl_no t r [] (by simp) w hw
    · rename_i hc
      exact spl_no t r (acc ++ [c]) (by simp [h]; exact fun e => hc e.symm) w hw
theorem spl_mem (t : Nat) : ∀ (s acc : List Nat), ∀ w ∈ TL.spl [t] 0 acc s, ∀ c ∈ w, c ∈ acc ++ s
  | [], acc, w, hw, c, hc => by rw [TL.spl_nil] at hw; simp at hw; subst hw; simpa using hc
  | d :: r, acc, w, hw, c, hc => by
    rw [spl_one] at hw
    split at hw
    · rcases List.mem_cons.mp hw with rfl | hw
      · simp [hc]
      · have := spl_mem t r [] w hw c hc; simp at this; simp [this]
    · have := spl_mem t r (acc ++ [d]) w hw c hc; simp at this; simp; rcases this with h | h | h <;> simp [h]
theorem splitL_ne (t : Nat) (s : List Nat) : splitL [t] s ≠ [] := spl_ne t s []
theorem splitL_back (t : Nat) (s : List Nat) : TL.joinL [t] (splitL [t] s) = s := spl_back t s []
theorem splitL_no {t : Nat} {s w : List Nat} (h : w ∈ splitL [t] s) : t ∉ w := spl_no t s [] (by simp) w h
theorem splitL_mem {t : Nat} {s w : List Nat} (h : w ∈ splitL [t] s) {c : Nat} (hc : c ∈ w) : c ∈ s := by simpa using spl_mem t s [] w h c hc
theorem joinL_len (t : Nat) : ∀ (ss : List (List Nat)), ss ≠ [] → (TL.joinL [t] ss).length + 1 = (ss.map (·.length)).sum + ss.length
  | [p], _ => by simp [TL.joinL]
  | p :: q :: r, _ => by
    have := joinL_len t (q :: r) (by simp)
    simp only [TL.joinL, List.length_append, List.map_cons, List.sum_cons, List.length_cons] at this ⊢
    simp only [List.length_nil]; omega
theorem len_le_sum {ss : List (List Nat)} {w : List Nat} (h : w ∈ ss) : w.length ≤ (ss.map (·.length)).sum := by
  induction ss with
  | nil => cases h
  | cons p r ih =>
    rcases List.mem_cons.mp h with rfl | h
    · simp
    · have := ih h; simp; omega
theorem splitL_sum (t : Nat) (s : List Nat) : ((splitL [t] s).map (·.length)).sum + (splitL [t] s).length = s.length + 1 := by
  rw [← joinL_len t _ (splitL_ne t s), splitL_back]
theorem splitL_len {t : Nat} {s w : List Nat} (h : w ∈ splitL [t] s) : w.length ≤ s.length := by
  have := len_le_sum h; have := splitL_sum t s
  have : 0 < (splitL [t] s).length := List.length_pos_iff.mpr (splitL_ne t s)
  omega
theorem splitL_many (t : Nat) (s : List Nat) : (splitL [t] s).length ≤ s.length + 1 := by have := splitL_sum t s; omega
theorem joinL_one : ∀ cs : List Nat, TL.joinL [] (cs.map fun c => [c]) = cs
  | [] => rfl
  | [c] => rfl
  | c :: d :: r => by
    have := joinL_one (d :: r)
    simp only [List.map_cons, TL.joinL] at this ⊢
    rw [this]; rfl

/-- what stood stays -/
def Keeps (G G' : WHp) : Prop := ∀ a o, G a = some o → G' a = some o
theorem Keeps.refl (G : WHp) : Keeps G G := fun _ _ h => h
theorem Keeps.trans {G G1 G2 : WHp} (a : Keeps G G1) (b : Keeps G1 G2) : Keeps G G2 := fun x o h => b x o (a x o h)
theorem Keeps.new {G G' : WHp} (k : Keeps G G') {p : Addr} {o : WO} (h : G' p = none) : Keeps G (updG G' p o) := fun a u e => by
  have := k a u e
  rw [updG_ne]; exact this
  intro e; rw [e, h] at this; cases this
theorem Keeps.put {G G' : WHp} (k : Keeps G G') {p : Addr} {o : WO} (h : G p = none) : Keeps G (updG G' p o) := fun a u e => by
  rw [updG_ne]; exact k a u e
  intro e'; rw [e', h] at e; cases e
theorem delG_upd (G : WHp) (p : Addr) (o : WO) : delG (updG G p o) p = delG G p := by
  funext b
  show (if b = p then none else if b = p then some o else G b) = if b = p then none else G b
  split <;> rfl
theorem delG_updN {G : WHp} {p q : Addr} {o : WO} (h : q ≠ p) : delG (updG G q o) p = updG (delG G p) q o := by
  funext b
  show (if b = p then none else if b = q then some o else G b) = if b = q then some o else if b = p then none else G b
  split
  · rename_i e; subst e; rw [if_neg (fun e => h e.symm)]
  · rfl
theorem Keeps.del {G G' : WHp} {p : Addr} (h : G p = none) (k : Keeps G G') : Keeps G (delG G' p) := fun a o e => by
  unfold delG; rw [if_neg]; exact k a o e
  intro e'; rw [e', h] at e; cases e
theorem Keeps.undel {G G' : WHp} {p : Addr} (k : Keeps G (delG G' p)) : Keeps G G' := fun a o e => by
  have := k a o e
  unfold delG at this; split at this
  · cases this
  · exact this

def myCa : Nat → Addr := fun _ => 0
def myFn : Nat → Str := fun _ => Str.empty
/-- a seen list of seen lists of texts -/
def RowsR (G : WHp) (ws : List W) (rows : List (List (List Nat))) : Prop := ws.length = rows.length ∧ ∀ (i : Nat) (r : List (List Nat)), rows[i]? = some r → ∃ q : Addr, ws[i]? = some (W.ref q) ∧ G q = some (.lst (List.map W.str r))
def Rows (G : WHp) (x : W) (rows : List (List (List Nat))) : Prop := ∃ p ws, x = .ref p ∧ G p = some (.lst ws) ∧ RowsR G ws rows
def rowsOf (s : List Nat) : List (List (List Nat)) := (splitL [10] s).map (splitL [32])
def sp_words : WSp := fun ws G Q _ => ∃ s, ws = [.str s] ∧ s.length ≤ 10000 ∧ ∀ x G', Rows G' x (rowsOf s) → Keeps G G' → Q x G'
def sp_l_sign : WSp := fun ws G Q _ => ∃ ns k, ws = [.sc ns, .int k] ∧ ns.length ≤ 63 ∧ 0 ≤ k ∧ k < 1000 ∧ ∀ c : Nat, Q (.str [c]) G
def sp_l_good : WSp := fun ws G Q _ => ∃ x s, ws = [x, .str s] ∧ s.length ≤ 10000 ∧ Rows G x (rowsOf s) ∧ Q (.bl true) G
theorem len_words : ∀ ws G Q E, sp_words ws G Q E → ws.length = (["text"] : List Str).length := fun ws G Q E ⟨_, h, _⟩ => by rw [h]; rfl
theorem len_l_sign : ∀ ws G Q E, sp_l_sign ws G Q E → ws.length = (["_law_script", "_law_k"] : List Str).length := fun ws G Q E ⟨_, _, h, _⟩ => by rw [h]; rfl
theorem len_l_good : ∀ ws G Q E, sp_l_good ws G Q E → ws.length = (["_law_found", "_law_text"] : List Str).length := fun ws G Q E ⟨_, _, h, _⟩ => by rw [h]; rfl
theorem rowsOf_back (s : List Nat) : TL.joinL [10] ((rowsOf s).map (TL.joinL [32])) = s := by
  rw [rowsOf, List.map_map]
  have : (TL.joinL [32] ∘ splitL [32]) = id := by funext z; exact splitL_back 32 z
  rw [this, List.map_id, splitL_back]
theorem rows_push {G G1 : WHp} {ws : List W} {rows : List (List (List Nat))} {r : List (List Nat)} {q : Addr} (h : RowsR G ws rows) (k : Keeps G G1) (e : G1 q = some (.lst (r.map W.str))) : RowsR G1 (ws ++ [.ref q]) (rows ++ [r]) := by
  refine ⟨by simp [h.1], fun i z hz => ?_⟩
  rw [List.getElem?_append] at hz
  split at hz
  · rename_i hi
    obtain ⟨p, h1, h2⟩ := h.2 i z hz
    exact ⟨p, by rw [List.getElem?_append_left (by rw [h.1]; exact hi)]; exact h1, k _ _ h2⟩
  · rename_i hi
    have : i - rows.length = 0 := by
      rcases Nat.eq_zero_or_pos (i - rows.length) with h | h
      · exact h
      · rw [List.getElem?_eq_none (by simp; omega)] at hz; cases hz
    rw [this] at hz
    cases hz
    have hi' : i = ws.length := by rw [h.1]; omega
    exact ⟨q, by rw [hi']; simp, e⟩
theorem RowsR.keep {G G1 : WHp} {ws : List W} {rows : List (List (List Nat))} (h : RowsR G ws rows) (k : Keeps G G1) : RowsR G1 ws rows := ⟨h.1, fun i r hr => let ⟨q, a, b⟩ := h.2 i r hr; ⟨q, a, k _ _ b⟩⟩
def SOME : List Nat := [32, 33, 34, 35, 36, 38, 39, 40, 41, 42, 43, 44, 45, 46, 47, 48, 49, 50, 51, 52, 53, 54, 55, 56, 57, 58, 59, 60, 61, 62, 63, 64, 65, 66, 67, 68, 69, 70, 71, 72, 73, 74, 75, 76, 77, 78, 79, 80, 81, 82, 83, 84, 85, 86, 87, 88, 89, 90, 91, 92, 93, 94, 95, 97, 98, 99, 100, 101, 102, 103, 104, 105, 106, 107, 108, 109, 110, 111, 112, 113, 114, 115, 116, 117, 118, 119, 120, 121, 122, 123, 124, 125, 126, 96]
theorem SOME_len : SOME.length = 94 := rfl
theorem rowsOf_mem {s : List Nat} {r : List (List Nat)} (h : r ∈ rowsOf s) : r ≠ [] ∧ (r.map (·.length)).sum + r.length ≤ s.length + 1 ∧ ∀ w ∈ r, 32 ∉ w ∧ 10 ∉ w ∧ w.length ≤ s.length := by
  obtain ⟨z, hz, rfl⟩ := List.mem_map.mp h
  have hz' := splitL_len hz
  refine ⟨splitL_ne _ _, by rw [splitL_sum]; omega, fun w hw => ⟨splitL_no hw, fun h => splitL_no hz (splitL_mem hw h), ?_⟩⟩
  have := splitL_len hw
  omega

/-! ## readings -/
def lc_words_1_t : WTT := wYes
def lc_words_1_e : WTE := (wBm .str mSsplitM (wVar 1) (wCons (wC (.str [32])) wNil))
def bd_words : WTS := (wRet (wLcM (wIter (wBm .str mSsplit (wVar 0) (wCons (wC (.str [10])) wNil))) 1 lc_words_1_t lc_words_1_e))
def bd_l_draw_t3 : WTS := (wRet (wOp oMod (wOp oMod (wOp oMul (wOp oMod (wOp oMul (wVar 4) (wC (.int 48271))) (wC (.int 999983))) (wC (.int 7919))) (wC (.int 524287))) (wVar 2)))
def bd_l_draw_t2 : WTS := wSeq (wAsg (wOp oAdd (wOp oAdd (wOp oMod (wVar 3) (wC (.int 1000003))) (wOp oMul (wOp oMul (wC (.int 31)) (wVar 1)) (wVar 1))) (wC (.int 1))) (wN 4)) bd_l_draw_t3
def bd_l_draw : WTS := wSeq (wAsg (wIf (wTest (wOp oGt (wCB oLen (wCons (wVar 0) wNil)) (wC (.int 0)))) (wOp oIx (wVar 0) (wOp oMod (wVar 1) (wCB oLen (wCons (wVar 0) wNil)))) (wC (.int 0))) (wN 3)) bd_l_draw_t2
def bd_l_sign_1 : WTS := (wRet (wOp oIx (wVar 2) (wCall sp_l_draw (wCons (wVar 0) (wCons (wOp oAdd (wC (.int 10)) (wVar 1)) (wCons (wC (.int 7)) wNil))))))
def bd_l_sign_t4 : WTS := (wRet (wOp oIx (wVar 3) (wCall sp_l_draw (wCons (wVar 0) (wCons (wOp oAdd (wC (.int 10)) (wVar 1)) (wCons (wC (.int 94)) wNil))))))
def bd_l_sign_t3 : WTS := wSeq (wIfS (wTest (wOp oGt (wCall sp_l_draw (wCons (wVar 0) (wCons (wOp oAdd (wC (.int 500)) (wVar 1)) (wCons (wC (.int 3)) wNil)))) (wC (.int 0)))) bd_l_sign_1 wNext) bd_l_sign_t4
def bd_l_sign_t2 : WTS := wSeq (wAsg (wC (.str [32, 33, 34, 35, 36, 38, 39, 40, 41, 42, 43, 44, 45, 46, 47, 48, 49, 50, 51, 52, 53, 54, 55, 56, 57, 58, 59, 60, 61, 62, 63, 64, 65, 66, 67, 68, 69, 70, 71, 72, 73, 74, 75, 76, 77, 78, 79, 80, 81, 82, 83, 84, 85, 86, 87, 88, 89, 90, 91, 92, 93, 94, 95, 97, 98, 99, 100, 101, 102, 103, 104, 105, 106, 107, 108, 109, 110, 111, 112, 113, 114, 115, 116, 117, 118, 119, 120, 121, 122, 123, 124, 125, 126, 96])) (wN 3)) bd_l_sign_t3
def bd_l_sign : WTS := wSeq (wAsg (wC (.str [32, 32, 10, 10, 97, 98, 55])) (wN 2)) bd_l_sign_t2
def bd_l_good_1 : WTS := (wRet (wC (.bl false)))
def bd_l_good_3 : WTS := (wRet (wC (.bl false)))
def bd_l_good_5 : WTS := (wRet (wC (.bl false)))
def bd_l_good_4 : WTS := (wIfS (wOr (wNot (wTest (wCB oIsi (wCons (wVar 3) (wCons (wC (.ty "str")) wNil))))) (wOr (wTest (wOp oIn (wC (.str [32])) (wVar 3))) (wTest (wOp oIn (wC (.str [10])) (wVar 3))))) bd_l_good_5 wNext)
def bd_l_good_2_t2 : WTS := (wFor (wIter (wVar 2)) (wN 3) bd_l_good_4)
def bd_l_good_2 : WTS := wSeq (wIfS (wOr (wNot (wTest (wCB oIsi (wCons (wVar 2) (wCons (wC (.ty "list")) wNil))))) (wTest (wOp oEq (wCB oLen (wCons (wVar 2) wNil)) (wC (.int 0))))) bd_l_good_3 wNext) bd_l_good_2_t2
def lc_l_good_6_t : WTT := wYes
def lc_l_good_6_e : WTE := (wBm .str mSjoin (wC (.str [32])) (wCons (wVar 2) wNil))
def bd_l_good_t3 : WTS := (wRet (wOp oEq (wBm .str mSjoin (wC (.str [10])) (wCons (wLcI (wIter (wVar 0)) 2 lc_l_good_6_t lc_l_good_6_e) wNil)) (wVar 1)))
def bd_l_good_t2 : WTS := wSeq (wFor (wIter (wVar 0)) (wN 2) bd_l_good_2) bd_l_good_t3
def bd_l_good : WTS := wSeq (wIfS (wNot (wTest (wCB oIsi (wCons (wVar 0) (wCons (wC (.ty "list")) wNil))))) bd_l_good_1 wNext) bd_l_good_t2
def bd_law_1 : WTS := (wAsg (wOp oAdd (wVar 1) (wC (.int 340))) (wN 1))
def lc_law_2_t : WTT := wYes
def lc_law_2_e : WTE := (wCall sp_l_sign (wCons (wVar 0) (wCons (wVar 4) wNil)))
def bd_law_3 : WTS := (wRet (wC (.bl false)))
def bd_law_t8 : WTS := (wRet (wCall sp_l_good (wCons (wCall sp_words (wCons (wVar 2) wNil)) (wCons (wVar 2) wNil))))
def bd_law_t7 : WTS := wSeq (wDrop (wBm .list mAppend (wVar 3) (wCons (wLstI (wCons (wC (.str [121])) wNil)) wNil))) bd_law_t8
def bd_law_t6 : WTS := wSeq (wDrop (wBm .list mAppend (wOp oIx (wVar 3) (wC (.int 0))) (wCons (wC (.str [120])) wNil))) bd_law_t7
def bd_law_t5 : WTS := wSeq (wIfS (wNot (wTest (wCall sp_l_good (wCons (wVar 3) (wCons (wVar 2) wNil))))) bd_law_3 wNext) bd_law_t6
def bd_law_t4 : WTS := wSeq (wAsg (wCall sp_words (wCons (wVar 2) wNil)) (wN 3)) bd_law_t5
def bd_law_t3 : WTS := wSeq (wAsg (wBm .str mSjoin (wC (.str [])) (wCons (wLcI (wRng1 (wCons (wVar 1) wNil)) 4 lc_law_2_t lc_law_2_e) wNil)) (wN 2)) bd_law_t4
def bd_law_t2 : WTS := wSeq (wIfS (wTest (wOp oEq (wCall sp_l_draw (wCons (wVar 0) (wCons (wC (.int 1)) (wCons (wC (.int 6)) wNil)))) (wC (.int 1)))) bd_law_1 wNext) bd_law_t3
def bd_law : WTS := wSeq (wAsg (wCall sp_l_draw (wCons (wVar 0) (wCons (wC (.int 0)) (wCons (wC (.int 61)) wNil)))) (wN 1)) bd_law_t2
/-! ## the readings hold the promises -/
theorem w_l_draw (ws : List W) (G : WHp) (Q : WQ) (Ex : Xc → WHp → Prop) (h : sp_l_draw ws G Q Ex) : bd_l_draw (endsW Q) (wStart ["_law_script", "_law_k", "_law_many", "_law_cell", "_law_seed"] ws) G (fun c _ G' => Ex c G') := by
  obtain ⟨ns, k, m, rfl, hl, k0, k1, m0, q⟩ := h
  have c1 : CMul 31 k := .inl ⟨by decide, by decide⟩
  have c2 : CMul (31 * k) k := .inr ⟨by omega, by omega⟩
  have c3 : ∀ i, CMul i 48271 := fun i => .inr ⟨by decide, by decide⟩
  have c4 : ∀ i, CMul i 7919 := fun i => .inr ⟨by decide, by decide⟩
  simp only [bd_l_draw, wSeq, wAsg, wN, wOp, wUn, wC, wVar, wGet, wIf, wIfS, wTest, wAnd, wOr, wNot, wAndV, wOrV, wNotV, wChain, wRet, wRetN, wDrop, wNext, wCall, wNil, wCons, wTup, wLstI, isNonW, oIs, oIsNot, wSl, wPart, wNoPart, wCB, List.set_cons_zero, List.set_cons_succ, Option.some.injEq, exists_eq_left', exists_eq_left, wStart, List.map_cons, List.map_nil, List.length_cons, List.length_nil, List.replicate, List.cons_append, List.nil_append, oLen_str, oLen_tup, oLen_il, oLen_sc, oI_int, oC_int, oAdd_int, oAdd_str, oAdd_tup, oAdd_il, oNeg_int, oIx_sc, oIx_str, oIx_tup, oIx_il, oSl_str, oSl_tup, oSl_il, oSl_sc, oEq_int, oEq_str, oEq_bl, oNe_int, oNe_str, oNe_bl, oNe_nonint, oNe_intnon, oIn_sign, oNotIn_sign, oStr_int, oInt_int, oInt_bl, oMax2_int, oMin2_int, oIsi_ii, oIsi_ib, oIsi_bb, oIsi_bi, oIsi_ss, oIsi_ll, oIsi_tt, oIsi_ni, W.bl.injEq, W.int.injEq, W.str.injEq, decide_eq_true_eq, Bool.not_eq_true', decide_eq_false_iff_not, true_and, and_true, if_true, if_false, reduceIte]
  split
  · rename_i h0
    obtain ⟨v, e, _⟩ := atI_in (xs := ns) (Int.emod_nonneg k (show (ns.length : Int) ≠ 0 by omega)) (Int.emod_lt_of_pos k h0)
    refine ⟨h0, v, e, ?_⟩
    simp only [bd_l_draw_t2, wSeq, wAsg, wN, wOp, wUn, wC, wVar, wGet, wIf, wIfS, wTest, wAnd, wOr, wNot, wAndV, wOrV, wNotV, wChain, wRet, wRetN, wDrop, wNext, wCall, wNil, wCons, wTup, wLstI, isNonW, oIs, oIsNot, wSl, wPart, wNoPart, wCB, List.set_cons_zero, List.set_cons_succ, Option.some.injEq, exists_eq_left', exists_eq_left, wStart, List.map_cons, List.map_nil, List.length_cons, List.length_nil, List.replicate, List.cons_append, List.nil_append, oLen_str, oLen_tup, oLen_il, oLen_sc, oI_int, oC_int, oAdd_int, oAdd_str, oAdd_tup, oAdd_il, oNeg_int, oIx_sc, oIx_str, oIx_tup, oIx_il, oSl_str, oSl_tup, oSl_il, oSl_sc, oEq_int, oEq_str, oEq_bl, oNe_int, oNe_str, oNe_bl, oNe_nonint, oNe_intnon, oIn_sign, oNotIn_sign, oStr_int, oInt_int, oInt_bl, oMax2_int, oMin2_int, oIsi_ii, oIsi_ib, oIsi_bb, oIsi_bi, oIsi_ss, oIsi_ll, oIsi_tt, oIsi_ni, W.bl.injEq, W.int.injEq, W.str.injEq, decide_eq_true_eq, Bool.not_eq_true', decide_eq_false_iff_not, true_and, and_true, if_true, if_false, reduceIte]
    refine ⟨by decide, c1, c2, ?_⟩
    simp only [bd_l_draw_t3, wSeq, wAsg, wN, wOp, wUn, wC, wVar, wGet, wIf, wIfS, wTest, wAnd, wOr, wNot, wAndV, wOrV, wNotV, wChain, wRet, wRetN, wDrop, wNext, wCall, wNil, wCons, wTup, wLstI, isNonW, oIs, oIsNot, wSl, wPart, wNoPart, wCB, List.set_cons_zero, List.set_cons_succ, Option.some.injEq, exists_eq_left', exists_eq_left, wStart, List.map_cons, List.map_nil, List.length_cons, List.length_nil, List.replicate, List.cons_append, List.nil_append, oLen_str, oLen_tup, oLen_il, oLen_sc, oI_int, oC_int, oAdd_int, oAdd_str, oAdd_tup, oAdd_il, oNeg_int, oIx_sc, oIx_str, oIx_tup, oIx_il, oSl_str, oSl_tup, oSl_il, oSl_sc, oEq_int, oEq_str, oEq_bl, oNe_int, oNe_str, oNe_bl, oNe_nonint, oNe_intnon, oIn_sign, oNotIn_sign, oStr_int, oInt_int, oInt_bl, oMax2_int, oMin2_int, oIsi_ii, oIsi_ib, oIsi_bb, oIsi_bi, oIsi_ss, oIsi_ll, oIsi_tt, oIsi_ni, W.bl.injEq, W.int.injEq, W.str.injEq, decide_eq_true_eq, Bool.not_eq_true', decide_eq_false_iff_not, true_and, and_true, if_true, if_false, reduceIte]
    refine ⟨c3 _, by decide, c4 _, by decide, m0, ?_⟩
    simp only [drawF, if_pos h0, e, Option.getD_some] at q
    exact q
  · rename_i h0
    simp only [bd_l_draw_t2, wSeq, wAsg, wN, wOp, wUn, wC, wVar, wGet, wIf, wIfS, wTest, wAnd, wOr, wNot, wAndV, wOrV, wNotV, wChain, wRet, wRetN, wDrop, wNext, wCall, wNil, wCons, wTup, wLstI, isNonW, oIs, oIsNot, wSl, wPart, wNoPart, wCB, List.set_cons_zero, List.set_cons_succ, Option.some.injEq, exists_eq_left', exists_eq_left, wStart, List.map_cons, List.map_nil, List.length_cons, List.length_nil, List.replicate, List.cons_append, List.nil_append, oLen_str, oLen_tup, oLen_il, oLen_sc, oI_int, oC_int, oAdd_int, oAdd_str, oAdd_tup, oAdd_il, oNeg_int, oIx_sc, oIx_str, oIx_tup, oIx_il, oSl_str, oSl_tup, oSl_il, oSl_sc, oEq_int, oEq_str, oEq_bl, oNe_int, oNe_str, oNe_bl, oNe_nonint, oNe_intnon, oIn_sign, oNotIn_sign, oStr_int, oInt_int, oInt_bl, oMax2_int, oMin2_int, oIsi_ii, oIsi_ib, oIsi_bb, oIsi_bi, oIsi_ss, oIsi_ll, oIsi_tt, oIsi_ni, W.bl.injEq, W.int.injEq, W.str.injEq, decide_eq_true_eq, Bool.not_eq_true', decide_eq_false_iff_not, true_and, and_true, if_true, if_false, reduceIte]
    refine ⟨by decide, c1, c2, ?_⟩
    simp only [bd_l_draw_t3, wSeq, wAsg, wN, wOp, wUn, wC, wVar, wGet, wIf, wIfS, wTest, wAnd, wOr, wNot, wAndV, wOrV, wNotV, wChain, wRet, wRetN, wDrop, wNext, wCall, wNil, wCons, wTup, wLstI, isNonW, oIs, oIsNot, wSl, wPart, wNoPart, wCB, List.set_cons_zero, List.set_cons_succ, Option.some.injEq, exists_eq_left', exists_eq_left, wStart, List.map_cons, List.map_nil, List.length_cons, List.length_nil, List.replicate, List.cons_append, List.nil_append, oLen_str, oLen_tup, oLen_il, oLen_sc, oI_int, oC_int, oAdd_int, oAdd_str, oAdd_tup, oAdd_il, oNeg_int, oIx_sc, oIx_str, oIx_tup, oIx_il, oSl_str, oSl_tup, oSl_il, oSl_sc, oEq_int, oEq_str, oEq_bl, oNe_int, oNe_str, oNe_bl, oNe_nonint, oNe_intnon, oIn_sign, oNotIn_sign, oStr_int, oInt_int, oInt_bl, oMax2_int, oMin2_int, oIsi_ii, oIsi_ib, oIsi_bb, oIsi_bi, oIsi_ss, oIsi_ll, oIsi_tt, oIsi_ni, W.bl.injEq, W.int.injEq, W.str.injEq, decide_eq_true_eq, Bool.not_eq_true', decide_eq_false_iff_not, true_and, and_true, if_true, if_false, reduceIte]
    refine ⟨c3 _, by decide, c4 _, by decide, m0, ?_⟩
    simp only [drawF, if_neg h0] at q
    exact q



theorem w_words (ws : List W) (G : WHp) (Q : WQ) (Ex : Xc → WHp → Prop) (h : sp_words ws G Q Ex) : bd_words (endsW Q) (wStart ["text", "row"] ws) G (fun c _ G' => Ex c G') := by
  obtain ⟨s, rfl, hl, q⟩ := h
  simp only [bd_words, wLcM, wLcG, wIter, wBm, wSeq, wAsg, wN, wOp, wUn, wC, wVar, wGet, wIf, wIfS, wTest, wAnd, wOr, wNot, wAndV, wOrV, wNotV, wChain, wRet, wRetN, wDrop, wNext, wCall, wNil, wCons, wTup, wLstI, isNonW, oIs, oIsNot, wSl, wPart, wNoPart, wCB, List.set_cons_zero, List.set_cons_succ, Option.some.injEq, exists_eq_left', exists_eq_left, wStart, List.map_cons, List.map_nil, List.length_cons, List.length_nil, List.replicate, List.cons_append, List.nil_append, oLen_str, oLen_tup, oLen_il, oLen_sc, oI_int, oC_int, oAdd_int, oAdd_str, oAdd_tup, oAdd_il, oNeg_int, oIx_sc, oIx_str, oIx_tup, oIx_il, oSl_str, oSl_tup, oSl_il, oSl_sc, oEq_int, oEq_str, oEq_bl, oNe_int, oNe_str, oNe_bl, oNe_nonint, oNe_intnon, oIn_sign, oNotIn_sign, oStr_int, oInt_int, oInt_bl, oMax2_int, oMin2_int, oIsi_ii, oIsi_ib, oIsi_bb, oIsi_bi, oIsi_ss, oIsi_ll, oIsi_tt, oIsi_ni, W.bl.injEq, W.int.injEq, W.str.injEq, decide_eq_true_eq, Bool.not_eq_true', decide_eq_false_iff_not, true_and, and_true, if_true, if_false, reduceIte]
  refine ⟨⟨_, rfl⟩, s, [10], rfl, rfl, by decide, by decide, by rw [big]; omega, ?_⟩
  have hm := splitL_many 10 s
  simp only [List.length_map]
  refine ⟨by rw [big]; omega, fun D hD => ⟨fun k acc G' => G' D = some (.lst acc) ∧ RowsR (delG G' D) acc ((rowsOf s).take k) ∧ Keeps G (delG G' D), ⟨updG_same, ⟨rfl, fun i r h => by simp at h⟩, ((Keeps.refl G).new hD).del hD⟩, fun k acc G' hk hp => ⟨hp.1, by rw [hp.2.1.1, List.length_take]; omega⟩, ?_, ?_⟩⟩
  · rintro k x acc G' hx ⟨h1, h2, h3⟩
    rw [List.getElem?_map, Option.map_eq_some_iff] at hx
    obtain ⟨z, hz, rfl⟩ := hx
    have hz' := splitL_len (List.mem_of_getElem? hz)
    have hr : (rowsOf s)[k]? = some (splitL [32] z) := by rw [rowsOf, List.getElem?_map, hz]; rfl
    simp only [lc_words_1_t, lc_words_1_e, wYes, wBm, wSeq, wAsg, wN, wOp, wUn, wC, wVar, wGet, wIf, wIfS, wTest, wAnd, wOr, wNot, wAndV, wOrV, wNotV, wChain, wRet, wRetN, wDrop, wNext, wCall, wNil, wCons, wTup, wLstI, isNonW, oIs, oIsNot, wSl, wPart, wNoPart, wCB, List.set_cons_zero, List.set_cons_succ, Option.some.injEq, exists_eq_left', exists_eq_left, wStart, List.map_cons, List.map_nil, List.length_cons, List.length_nil, List.replicate, List.cons_append, List.nil_append, oLen_str, oLen_tup, oLen_il, oLen_sc, oI_int, oC_int, oAdd_int, oAdd_str, oAdd_tup, oAdd_il, oNeg_int, oIx_sc, oIx_str, oIx_tup, oIx_il, oSl_str, oSl_tup, oSl_il, oSl_sc, oEq_int, oEq_str, oEq_bl, oNe_int, oNe_str, oNe_bl, oNe_nonint, oNe_intnon, oIn_sign, oNotIn_sign, oStr_int, oInt_int, oInt_bl, oMax2_int, oMin2_int, oIsi_ii, oIsi_ib, oIsi_bb, oIsi_bi, oIsi_ss, oIsi_ll, oIsi_tt, oIsi_ni, W.bl.injEq, W.int.injEq, W.str.injEq, decide_eq_true_eq, Bool.not_eq_true', decide_eq_false_iff_not, true_and, and_true, if_true, if_false, reduceIte]
    refine ⟨⟨_, rfl⟩, z, [32], rfl, rfl, by decide, by decide, by rw [big]; omega, fun p hp => ?_⟩
    have hpD : p ≠ D := fun e => by rw [e, h1] at hp; cases hp
    refine ⟨by rw [updG_ne hpD.symm]; exact h1, updG_same, ?_, ?_⟩
    · rw [List.take_add_one, hr, delG_upd, delG_updN hpD]
      exact rows_push h2 ((Keeps.refl _).new (by rw [delG_ne hpD]; exact hp)) updG_same
    · rw [delG_upd, delG_updN hpD]
      exact h3.new (by rw [delG_ne hpD]; exact hp)
  · rintro acc G' ⟨h1, h2, h3⟩
    rw [List.take_of_length_le (by simp [rowsOf])] at h2
    exact q _ _ ⟨D, acc, rfl, h1, h2.keep (Keeps.undel (Keeps.refl _))⟩ h3.undel
theorem w_l_sign (ws : List W) (G : WHp) (Q : WQ) (Ex : Xc → WHp → Prop) (h : sp_l_sign ws G Q Ex) : bd_l_sign (endsW Q) (wStart ["_law_script", "_law_k", "_law_few", "_law_some"] ws) G (fun c _ G' => Ex c G') := by
  obtain ⟨ns, k, rfl, hl, k0, k1, q⟩ := h
  simp only [bd_l_sign, wSeq, wAsg, wN, wOp, wUn, wC, wVar, wGet, wIf, wIfS, wTest, wAnd, wOr, wNot, wAndV, wOrV, wNotV, wChain, wRet, wRetN, wDrop, wNext, wCall, wNil, wCons, wTup, wLstI, isNonW, oIs, oIsNot, wSl, wPart, wNoPart, wCB, List.set_cons_zero, List.set_cons_succ, Option.some.injEq, exists_eq_left', exists_eq_left, wStart, List.map_cons, List.map_nil, List.length_cons, List.length_nil, List.replicate, List.cons_append, List.nil_append, oLen_str, oLen_tup, oLen_il, oLen_sc, oI_int, oC_int, oAdd_int, oAdd_str, oAdd_tup, oAdd_il, oNeg_int, oIx_sc, oIx_str, oIx_tup, oIx_il, oSl_str, oSl_tup, oSl_il, oSl_sc, oEq_int, oEq_str, oEq_bl, oNe_int, oNe_str, oNe_bl, oNe_nonint, oNe_intnon, oIn_sign, oNotIn_sign, oStr_int, oInt_int, oInt_bl, oMax2_int, oMin2_int, oIsi_ii, oIsi_ib, oIsi_bb, oIsi_bi, oIsi_ss, oIsi_ll, oIsi_tt, oIsi_ni, W.bl.injEq, W.int.injEq, W.str.injEq, decide_eq_true_eq, Bool.not_eq_true', decide_eq_false_iff_not, true_and, and_true, if_true, if_false, reduceIte]
  simp only [bd_l_sign_t2, wSeq, wAsg, wN, wOp, wUn, wC, wVar, wGet, wIf, wIfS, wTest, wAnd, wOr, wNot, wAndV, wOrV, wNotV, wChain, wRet, wRetN, wDrop, wNext, wCall, wNil, wCons, wTup, wLstI, isNonW, oIs, oIsNot, wSl, wPart, wNoPart, wCB, List.set_cons_zero, List.set_cons_succ, Option.some.injEq, exists_eq_left', exists_eq_left, wStart, List.map_cons, List.map_nil, List.length_cons, List.length_nil, List.replicate, List.cons_append, List.nil_append, oLen_str, oLen_tup, oLen_il, oLen_sc, oI_int, oC_int, oAdd_int, oAdd_str, oAdd_tup, oAdd_il, oNeg_int, oIx_sc, oIx_str, oIx_tup, oIx_il, oSl_str, oSl_tup, oSl_il, oSl_sc, oEq_int, oEq_str, oEq_bl, oNe_int, oNe_str, oNe_bl, oNe_nonint, oNe_intnon, oIn_sign, oNotIn_sign, oStr_int, oInt_int, oInt_bl, oMax2_int, oMin2_int, oIsi_ii, oIsi_ib, oIsi_bb, oIsi_bi, oIsi_ss, oIsi_ll, oIsi_tt, oIsi_ni, W.bl.injEq, W.int.injEq, W.str.injEq, decide_eq_true_eq, Bool.not_eq_true', decide_eq_false_iff_not, true_and, and_true, if_true, if_false, reduceIte]
  simp only [bd_l_sign_t3, wSeq, wAsg, wN, wOp, wUn, wC, wVar, wGet, wIf, wIfS, wTest, wAnd, wOr, wNot, wAndV, wOrV, wNotV, wChain, wRet, wRetN, wDrop, wNext, wCall, wNil, wCons, wTup, wLstI, isNonW, oIs, oIsNot, wSl, wPart, wNoPart, wCB, List.set_cons_zero, List.set_cons_succ, Option.some.injEq, exists_eq_left', exists_eq_left, wStart, List.map_cons, List.map_nil, List.length_cons, List.length_nil, List.replicate, List.cons_append, List.nil_append, oLen_str, oLen_tup, oLen_il, oLen_sc, oI_int, oC_int, oAdd_int, oAdd_str, oAdd_tup, oAdd_il, oNeg_int, oIx_sc, oIx_str, oIx_tup, oIx_il, oSl_str, oSl_tup, oSl_il, oSl_sc, oEq_int, oEq_str, oEq_bl, oNe_int, oNe_str, oNe_bl, oNe_nonint, oNe_intnon, oIn_sign, oNotIn_sign, oStr_int, oInt_int, oInt_bl, oMax2_int, oMin2_int, oIsi_ii, oIsi_ib, oIsi_bb, oIsi_bi, oIsi_ss, oIsi_ll, oIsi_tt, oIsi_ni, W.bl.injEq, W.int.injEq, W.str.injEq, decide_eq_true_eq, Bool.not_eq_true', decide_eq_false_iff_not, true_and, and_true, if_true, if_false, reduceIte]
  refine draw_i hl (by omega) (by omega) (by decide) fun d0 d1 => ?_
  simp only [not_true, Bool.true_eq_false, Bool.false_eq_true, wSeq, wAsg, wN, wOp, wUn, wC, wVar, wGet, wIf, wIfS, wTest, wAnd, wOr, wNot, wAndV, wOrV, wNotV, wChain, wRet, wRetN, wDrop, wNext, wCall, wNil, wCons, wTup, wLstI, isNonW, oIs, oIsNot, wSl, wPart, wNoPart, wCB, List.set_cons_zero, List.set_cons_succ, Option.some.injEq, exists_eq_left', exists_eq_left, wStart, List.map_cons, List.map_nil, List.length_cons, List.length_nil, List.replicate, List.cons_append, List.nil_append, oLen_str, oLen_tup, oLen_il, oLen_sc, oI_int, oC_int, oAdd_int, oAdd_str, oAdd_tup, oAdd_il, oNeg_int, oIx_sc, oIx_str, oIx_tup, oIx_il, oSl_str, oSl_tup, oSl_il, oSl_sc, oEq_int, oEq_str, oEq_bl, oNe_int, oNe_str, oNe_bl, oNe_nonint, oNe_intnon, oIn_sign, oNotIn_sign, oStr_int, oInt_int, oInt_bl, oMax2_int, oMin2_int, oIsi_ii, oIsi_ib, oIsi_bb, oIsi_bi, oIsi_ss, oIsi_ll, oIsi_tt, oIsi_ni, W.bl.injEq, W.int.injEq, W.str.injEq, decide_eq_true_eq, Bool.not_eq_true', decide_eq_false_iff_not, true_and, and_true, if_true, if_false, reduceIte]
  split
  · simp only [bd_l_sign_1, wSeq, wAsg, wN, wOp, wUn, wC, wVar, wGet, wIf, wIfS, wTest, wAnd, wOr, wNot, wAndV, wOrV, wNotV, wChain, wRet, wRetN, wDrop, wNext, wCall, wNil, wCons, wTup, wLstI, isNonW, oIs, oIsNot, wSl, wPart, wNoPart, wCB, List.set_cons_zero, List.set_cons_succ, Option.some.injEq, exists_eq_left', exists_eq_left, wStart, List.map_cons, List.map_nil, List.length_cons, List.length_nil, List.replicate, List.cons_append, List.nil_append, oLen_str, oLen_tup, oLen_il, oLen_sc, oI_int, oC_int, oAdd_int, oAdd_str, oAdd_tup, oAdd_il, oNeg_int, oIx_sc, oIx_str, oIx_tup, oIx_il, oSl_str, oSl_tup, oSl_il, oSl_sc, oEq_int, oEq_str, oEq_bl, oNe_int, oNe_str, oNe_bl, oNe_nonint, oNe_intnon, oIn_sign, oNotIn_sign, oStr_int, oInt_int, oInt_bl, oMax2_int, oMin2_int, oIsi_ii, oIsi_ib, oIsi_bb, oIsi_bi, oIsi_ss, oIsi_ll, oIsi_tt, oIsi_ni, W.bl.injEq, W.int.injEq, W.str.injEq, decide_eq_true_eq, Bool.not_eq_true', decide_eq_false_iff_not, true_and, and_true, if_true, if_false, reduceIte]
    refine draw_i hl (by omega) (by omega) (by decide) fun d0 d1 => ?_
    obtain ⟨c, e, _⟩ := atI_in (xs := [32, 32, 10, 10, 97, 98, 55]) d0 (by simpa using d1)
    exact ⟨by decide, c, e, q c⟩
  · simp only [bd_l_sign_t4, wSeq, wAsg, wN, wOp, wUn, wC, wVar, wGet, wIf, wIfS, wTest, wAnd, wOr, wNot, wAndV, wOrV, wNotV, wChain, wRet, wRetN, wDrop, wNext, wCall, wNil, wCons, wTup, wLstI, isNonW, oIs, oIsNot, wSl, wPart, wNoPart, wCB, List.set_cons_zero, List.set_cons_succ, Option.some.injEq, exists_eq_left', exists_eq_left, wStart, List.map_cons, List.map_nil, List.length_cons, List.length_nil, List.replicate, List.cons_append, List.nil_append, oLen_str, oLen_tup, oLen_il, oLen_sc, oI_int, oC_int, oAdd_int, oAdd_str, oAdd_tup, oAdd_il, oNeg_int, oIx_sc, oIx_str, oIx_tup, oIx_il, oSl_str, oSl_tup, oSl_il, oSl_sc, oEq_int, oEq_str, oEq_bl, oNe_int, oNe_str, oNe_bl, oNe_nonint, oNe_intnon, oIn_sign, oNotIn_sign, oStr_int, oInt_int, oInt_bl, oMax2_int, oMin2_int, oIsi_ii, oIsi_ib, oIsi_bb, oIsi_bi, oIsi_ss, oIsi_ll, oIsi_tt, oIsi_ni, W.bl.injEq, W.int.injEq, W.str.injEq, decide_eq_true_eq, Bool.not_eq_true', decide_eq_false_iff_not, true_and, and_true, if_true, if_false, reduceIte]
    refine draw_i hl (by omega) (by omega) (by decide) fun d0 d1 => ?_
    simp only [not_true, Bool.true_eq_false, Bool.false_eq_true, wSeq, wAsg, wN, wOp, wUn, wC, wVar, wGet, wIf, wIfS, wTest, wAnd, wOr, wNot, wAndV, wOrV, wNotV, wChain, wRet, wRetN, wDrop, wNext, wCall, wNil, wCons, wTup, wLstI, isNonW, oIs, oIsNot, wSl, wPart, wNoPart, wCB, List.set_cons_zero, List.set_cons_succ, Option.some.injEq, exists_eq_left', exists_eq_left, wStart, List.map_cons, List.map_nil, List.length_cons, List.length_nil, List.replicate, List.cons_append, List.nil_append, oLen_str, oLen_tup, oLen_il, oLen_sc, oI_int, oC_int, oAdd_int, oAdd_str, oAdd_tup, oAdd_il, oNeg_int, oIx_sc, oIx_str, oIx_tup, oIx_il, oSl_str, oSl_tup, oSl_il, oSl_sc, oEq_int, oEq_str, oEq_bl, oNe_int, oNe_str, oNe_bl, oNe_nonint, oNe_intnon, oIn_sign, oNotIn_sign, oStr_int, oInt_int, oInt_bl, oMax2_int, oMin2_int, oIsi_ii, oIsi_ib, oIsi_bb, oIsi_bi, oIsi_ss, oIsi_ll, oIsi_tt, oIsi_ni, W.bl.injEq, W.int.injEq, W.str.injEq, decide_eq_true_eq, Bool.not_eq_true', decide_eq_false_iff_not, true_and, and_true, if_true, if_false, reduceIte]
    refine ⟨by decide, ?_⟩
    have this := atI_in (xs := SOME) d0 (by rw [SOME_len]; exact d1)
    obtain ⟨c, e, _⟩ := this
    exact ⟨c, e, q c⟩
theorem w_l_good (ws : List W) (G : WHp) (Q : WQ) (Ex : Xc → WHp → Prop) (h : sp_l_good ws G Q Ex) : bd_l_good (endsW Q) (wStart ["_law_found", "_law_text", "_law_row", "_law_word"] ws) G (fun c _ G' => Ex c G') := by
  obtain ⟨x, s, rfl, hl, ⟨p, ws, rfl, hp, hr⟩, q⟩ := h
  simp only [bd_l_good, oIsi_rl p ws hp, not_true, Bool.true_eq_false, wSeq, wAsg, wN, wOp, wUn, wC, wVar, wGet, wIf, wIfS, wTest, wAnd, wOr, wNot, wAndV, wOrV, wNotV, wChain, wRet, wRetN, wDrop, wNext, wCall, wNil, wCons, wTup, wLstI, isNonW, oIs, oIsNot, wSl, wPart, wNoPart, wCB, List.set_cons_zero, List.set_cons_succ, Option.some.injEq, exists_eq_left', exists_eq_left, wStart, List.map_cons, List.map_nil, List.length_cons, List.length_nil, List.replicate, List.cons_append, List.nil_append, oLen_str, oLen_tup, oLen_il, oLen_sc, oI_int, oC_int, oAdd_int, oAdd_str, oAdd_tup, oAdd_il, oNeg_int, oIx_sc, oIx_str, oIx_tup, oIx_il, oSl_str, oSl_tup, oSl_il, oSl_sc, oEq_int, oEq_str, oEq_bl, oNe_int, oNe_str, oNe_bl, oNe_nonint, oNe_intnon, oIn_sign, oNotIn_sign, oStr_int, oInt_int, oInt_bl, oMax2_int, oMin2_int, oIsi_ii, oIsi_ib, oIsi_bb, oIsi_bi, oIsi_ss, oIsi_ll, oIsi_tt, oIsi_ni, W.bl.injEq, W.int.injEq, W.str.injEq, decide_eq_true_eq, Bool.not_eq_true', decide_eq_false_iff_not, true_and, and_true, if_true, if_false, reduceIte]
  simp only [bd_l_good_t2, wFor, wIter, wSeq, wAsg, wN, wOp, wUn, wC, wVar, wGet, wIf, wIfS, wTest, wAnd, wOr, wNot, wAndV, wOrV, wNotV, wChain, wRet, wRetN, wDrop, wNext, wCall, wNil, wCons, wTup, wLstI, isNonW, oIs, oIsNot, wSl, wPart, wNoPart, wCB, List.set_cons_zero, List.set_cons_succ, Option.some.injEq, exists_eq_left', exists_eq_left, wStart, List.map_cons, List.map_nil, List.length_cons, List.length_nil, List.replicate, List.cons_append, List.nil_append, oLen_str, oLen_tup, oLen_il, oLen_sc, oI_int, oC_int, oAdd_int, oAdd_str, oAdd_tup, oAdd_il, oNeg_int, oIx_sc, oIx_str, oIx_tup, oIx_il, oSl_str, oSl_tup, oSl_il, oSl_sc, oEq_int, oEq_str, oEq_bl, oNe_int, oNe_str, oNe_bl, oNe_nonint, oNe_intnon, oIn_sign, oNotIn_sign, oStr_int, oInt_int, oInt_bl, oMax2_int, oMin2_int, oIsi_ii, oIsi_ib, oIsi_bb, oIsi_bi, oIsi_ss, oIsi_ll, oIsi_tt, oIsi_ni, W.bl.injEq, W.int.injEq, W.str.injEq, decide_eq_true_eq, Bool.not_eq_true', decide_eq_false_iff_not, true_and, and_true, if_true, if_false, reduceIte]
  refine ⟨ws, hp, fun i σ' G' => G' = G ∧ ∃ o o2, σ' = [some (.ref p), some (.str s), o, o2], ⟨rfl, _, _, rfl⟩, fun _ _ _ _ h => h.1 ▸ hp, ?_, ?_⟩
  · rintro i x σ' G' hx ⟨rfl, o, o2, rfl⟩
    have hi : i < (rowsOf s).length := by rw [← hr.1]; exact (List.getElem?_eq_some_iff.mp hx).1
    obtain ⟨u, hu, hu2⟩ := hr.2 i _ (List.getElem?_eq_getElem hi)
    rw [hx] at hu
    cases hu
    have hm := rowsOf_mem (List.getElem_mem hi)
    generalize (rowsOf s)[i] = r at hu2 hm
    have hr0 : ¬ ((r.map W.str).length : Int) = 0 := by
      have := List.length_pos_iff.mpr hm.1
      rw [List.length_map]; omega
    simp only [bd_l_good_2, oIsi_rl u _ hu2, oLen_ref u _ hu2, hr0, not_true, Bool.true_eq_false, wSeq, wAsg, wN, wOp, wUn, wC, wVar, wGet, wIf, wIfS, wTest, wAnd, wOr, wNot, wAndV, wOrV, wNotV, wChain, wRet, wRetN, wDrop, wNext, wCall, wNil, wCons, wTup, wLstI, isNonW, oIs, oIsNot, wSl, wPart, wNoPart, wCB, List.set_cons_zero, List.set_cons_succ, Option.some.injEq, exists_eq_left', exists_eq_left, wStart, List.map_cons, List.map_nil, List.length_cons, List.length_nil, List.replicate, List.cons_append, List.nil_append, oLen_str, oLen_tup, oLen_il, oLen_sc, oI_int, oC_int, oAdd_int, oAdd_str, oAdd_tup, oAdd_il, oNeg_int, oIx_sc, oIx_str, oIx_tup, oIx_il, oSl_str, oSl_tup, oSl_il, oSl_sc, oEq_int, oEq_str, oEq_bl, oNe_int, oNe_str, oNe_bl, oNe_nonint, oNe_intnon, oIn_sign, oNotIn_sign, oStr_int, oInt_int, oInt_bl, oMax2_int, oMin2_int, oIsi_ii, oIsi_ib, oIsi_bb, oIsi_bi, oIsi_ss, oIsi_ll, oIsi_tt, oIsi_ni, W.bl.injEq, W.int.injEq, W.str.injEq, decide_eq_true_eq, Bool.not_eq_true', decide_eq_false_iff_not, true_and, and_true, if_true, if_false, reduceIte]
    simp only [bd_l_good_2_t2, wFor, wIter, wSeq, wAsg, wN, wOp, wUn, wC, wVar, wGet, wIf, wIfS, wTest, wAnd, wOr, wNot, wAndV, wOrV, wNotV, wChain, wRet, wRetN, wDrop, wNext, wCall, wNil, wCons, wTup, wLstI, isNonW, oIs, oIsNot, wSl, wPart, wNoPart, wCB, List.set_cons_zero, List.set_cons_succ, Option.some.injEq, exists_eq_left', exists_eq_left, wStart, List.map_cons, List.map_nil, List.length_cons, List.length_nil, List.replicate, List.cons_append, List.nil_append, oLen_str, oLen_tup, oLen_il, oLen_sc, oI_int, oC_int, oAdd_int, oAdd_str, oAdd_tup, oAdd_il, oNeg_int, oIx_sc, oIx_str, oIx_tup, oIx_il, oSl_str, oSl_tup, oSl_il, oSl_sc, oEq_int, oEq_str, oEq_bl, oNe_int, oNe_str, oNe_bl, oNe_nonint, oNe_intnon, oIn_sign, oNotIn_sign, oStr_int, oInt_int, oInt_bl, oMax2_int, oMin2_int, oIsi_ii, oIsi_ib, oIsi_bb, oIsi_bi, oIsi_ss, oIsi_ll, oIsi_tt, oIsi_ni, W.bl.injEq, W.int.injEq, W.str.injEq, decide_eq_true_eq, Bool.not_eq_true', decide_eq_false_iff_not, true_and, and_true, if_true, if_false, reduceIte]
    refine ⟨_, hu2, fun i σ' G2 => G2 = G' ∧ ∃ o2, σ' = [some (.ref p), some (.str s), some (.ref u), o2], ⟨rfl, _, rfl⟩, fun _ _ _ _ h => h.1 ▸ hu2, ?_, ?_⟩
    · rintro i x σ' G2 hx ⟨rfl, o2, rfl⟩
      rw [List.getElem?_map, Option.map_eq_some_iff] at hx
      obtain ⟨w, hw, rfl⟩ := hx
      have hw := hm.2.2 w (List.mem_of_getElem? hw)
      simp only [bd_l_good_4, hw.1, hw.2.1, not_true, Bool.true_eq_false, wSeq, wAsg, wN, wOp, wUn, wC, wVar, wGet, wIf, wIfS, wTest, wAnd, wOr, wNot, wAndV, wOrV, wNotV, wChain, wRet, wRetN, wDrop, wNext, wCall, wNil, wCons, wTup, wLstI, isNonW, oIs, oIsNot, wSl, wPart, wNoPart, wCB, List.set_cons_zero, List.set_cons_succ, Option.some.injEq, exists_eq_left', exists_eq_left, wStart, List.map_cons, List.map_nil, List.length_cons, List.length_nil, List.replicate, List.cons_append, List.nil_append, oLen_str, oLen_tup, oLen_il, oLen_sc, oI_int, oC_int, oAdd_int, oAdd_str, oAdd_tup, oAdd_il, oNeg_int, oIx_sc, oIx_str, oIx_tup, oIx_il, oSl_str, oSl_tup, oSl_il, oSl_sc, oEq_int, oEq_str, oEq_bl, oNe_int, oNe_str, oNe_bl, oNe_nonint, oNe_intnon, oIn_sign, oNotIn_sign, oStr_int, oInt_int, oInt_bl, oMax2_int, oMin2_int, oIsi_ii, oIsi_ib, oIsi_bb, oIsi_bi, oIsi_ss, oIsi_ll, oIsi_tt, oIsi_ni, W.bl.injEq, W.int.injEq, W.str.injEq, decide_eq_true_eq, Bool.not_eq_true', decide_eq_false_iff_not, true_and, and_true, if_true, if_false, reduceIte]
      exact ⟨_, rfl⟩
    · rintro σ' G2 ⟨rfl, o2, rfl⟩
      exact ⟨rfl, _, _, rfl⟩
  · rintro σ' G' ⟨rfl, o, o2, rfl⟩
    have hb := rowsOf_back s
    have hmm : (rowsOf s).length ≤ s.length + 1 := by rw [rowsOf, List.length_map]; exact splitL_many _ _
    simp only [bd_l_good_t3, wBm, wLcI, wLcG, wIter, wSeq, wAsg, wN, wOp, wUn, wC, wVar, wGet, wIf, wIfS, wTest, wAnd, wOr, wNot, wAndV, wOrV, wNotV, wChain, wRet, wRetN, wDrop, wNext, wCall, wNil, wCons, wTup, wLstI, isNonW, oIs, oIsNot, wSl, wPart, wNoPart, wCB, List.set_cons_zero, List.set_cons_succ, Option.some.injEq, exists_eq_left', exists_eq_left, wStart, List.map_cons, List.map_nil, List.length_cons, List.length_nil, List.replicate, List.cons_append, List.nil_append, oLen_str, oLen_tup, oLen_il, oLen_sc, oI_int, oC_int, oAdd_int, oAdd_str, oAdd_tup, oAdd_il, oNeg_int, oIx_sc, oIx_str, oIx_tup, oIx_il, oSl_str, oSl_tup, oSl_il, oSl_sc, oEq_int, oEq_str, oEq_bl, oNe_int, oNe_str, oNe_bl, oNe_nonint, oNe_intnon, oIn_sign, oNotIn_sign, oStr_int, oInt_int, oInt_bl, oMax2_int, oMin2_int, oIsi_ii, oIsi_ib, oIsi_bb, oIsi_bi, oIsi_ss, oIsi_ll, oIsi_tt, oIsi_ni, W.bl.injEq, W.int.injEq, W.str.injEq, decide_eq_true_eq, Bool.not_eq_true', decide_eq_false_iff_not, true_and, and_true, if_true, if_false, reduceIte]
    refine ⟨⟨_, rfl⟩, ws, hp, by rw [hr.1, big]; omega, fun D hD => ⟨fun k acc G2 => G2 = updG G' D (.lst acc) ∧ acc = (((rowsOf s).take k).map (TL.joinL [32])).map W.str, ⟨rfl, rfl⟩, ?_, ?_, ?_⟩⟩
    · rintro k acc G2 hk ⟨rfl, rfl⟩
      refine ⟨?_, updG_same, by simp; omega⟩
      rw [updG_ne]; exact hp
      rintro rfl; rw [hp] at hD; cases hD
    · rintro k x acc G2 hx ⟨rfl, rfl⟩
      have hi : k < (rowsOf s).length := by rw [← hr.1]; exact (List.getElem?_eq_some_iff.mp hx).1
      have he := List.getElem?_eq_getElem hi
      obtain ⟨u, hu, hu2⟩ := hr.2 k _ he
      rw [hx] at hu
      cases hu
      have hm := rowsOf_mem (List.getElem_mem hi)
      generalize (rowsOf s)[k] = r at hu2 hm he
      simp only [lc_l_good_6_t, lc_l_good_6_e, wYes, wBm, wSeq, wAsg, wN, wOp, wUn, wC, wVar, wGet, wIf, wIfS, wTest, wAnd, wOr, wNot, wAndV, wOrV, wNotV, wChain, wRet, wRetN, wDrop, wNext, wCall, wNil, wCons, wTup, wLstI, isNonW, oIs, oIsNot, wSl, wPart, wNoPart, wCB, List.set_cons_zero, List.set_cons_succ, Option.some.injEq, exists_eq_left', exists_eq_left, wStart, List.map_cons, List.map_nil, List.length_cons, List.length_nil, List.replicate, List.cons_append, List.nil_append, oLen_str, oLen_tup, oLen_il, oLen_sc, oI_int, oC_int, oAdd_int, oAdd_str, oAdd_tup, oAdd_il, oNeg_int, oIx_sc, oIx_str, oIx_tup, oIx_il, oSl_str, oSl_tup, oSl_il, oSl_sc, oEq_int, oEq_str, oEq_bl, oNe_int, oNe_str, oNe_bl, oNe_nonint, oNe_intnon, oIn_sign, oNotIn_sign, oStr_int, oInt_int, oInt_bl, oMax2_int, oMin2_int, oIsi_ii, oIsi_ib, oIsi_bb, oIsi_bi, oIsi_ss, oIsi_ll, oIsi_tt, oIsi_ni, W.bl.injEq, W.int.injEq, W.str.injEq, decide_eq_true_eq, Bool.not_eq_true', decide_eq_false_iff_not, true_and, and_true, if_true, if_false, reduceIte]
      refine ⟨⟨_, rfl⟩, [32], _, _, r, rfl, rfl, ?_, strsOf_map r, ?_, updG_same, ?_, ?_⟩
      · simp only [sqT, sqOf, lstOf]
        have : updG G' D (.lst (List.map W.str (List.map (TL.joinL [32]) (List.take k (rowsOf s))))) u = some (.lst (r.map .str)) := by
          rw [updG_ne]; exact hu2
          rintro rfl; rw [hu2] at hD; cases hD
        rw [this]
      · have := hm.2.1
        rw [big]; simp at this ⊢; omega
      · rw [updG_updG]
      · rw [List.take_add_one, he]; simp
    · rintro acc G2 ⟨rfl, rfl⟩
      rw [delG_updG hD]
      refine ⟨[10], _, _, _, rfl, rfl, rfl, strsOf_map _, ?_, ?_⟩
      · have := joinL_len 10 ((rowsOf s).map (TL.joinL [32])) (by simp [rowsOf, splitL_ne])
        rw [hb] at this
        rw [hr.1, List.take_length, big]
        simp at this ⊢
        omega
      · rw [hr.1, List.take_length, hb]
        simp only [oEq_str, decide_true]
        exact q
theorem w_law (ws : List W) (G : WHp) (Q : WQ) (Ex : Xc → WHp → Prop) (h : sp_law ws G Q Ex) : bd_law (endsW Q) (wStart ["_law_script", "_law_size", "_law_text", "_law_first", "_law_k"] ws) G (fun c _ G' => Ex c G') := by
  obtain ⟨ns, rfl, hl, rfl, q⟩ := h
  simp only [bd_law, wSeq, wAsg, wN, wOp, wUn, wC, wVar, wGet, wIf, wIfS, wTest, wAnd, wOr, wNot, wAndV, wOrV, wNotV, wChain, wRet, wRetN, wDrop, wNext, wCall, wNil, wCons, wTup, wLstI, isNonW, oIs, oIsNot, wSl, wPart, wNoPart, wCB, List.set_cons_zero, List.set_cons_succ, Option.some.injEq, exists_eq_left', exists_eq_left, wStart, List.map_cons, List.map_nil, List.length_cons, List.length_nil, List.replicate, List.cons_append, List.nil_append, oLen_str, oLen_tup, oLen_il, oLen_sc, oI_int, oC_int, oAdd_int, oAdd_str, oAdd_tup, oAdd_il, oNeg_int, oIx_sc, oIx_str, oIx_tup, oIx_il, oSl_str, oSl_tup, oSl_il, oSl_sc, oEq_int, oEq_str, oEq_bl, oNe_int, oNe_str, oNe_bl, oNe_nonint, oNe_intnon, oIn_sign, oNotIn_sign, oStr_int, oInt_int, oInt_bl, oMax2_int, oMin2_int, oIsi_ii, oIsi_ib, oIsi_bb, oIsi_bi, oIsi_ss, oIsi_ll, oIsi_tt, oIsi_ni, W.bl.injEq, W.int.injEq, W.str.injEq, decide_eq_true_eq, Bool.not_eq_true', decide_eq_false_iff_not, true_and, and_true, if_true, if_false, reduceIte]
  refine draw_i hl (by omega) (by omega) (by decide) fun d0 d1 => ?_
  simp only [bd_law_t2, wSeq, wAsg, wN, wOp, wUn, wC, wVar, wGet, wIf, wIfS, wTest, wAnd, wOr, wNot, wAndV, wOrV, wNotV, wChain, wRet, wRetN, wDrop, wNext, wCall, wNil, wCons, wTup, wLstI, isNonW, oIs, oIsNot, wSl, wPart, wNoPart, wCB, List.set_cons_zero, List.set_cons_succ, Option.some.injEq, exists_eq_left', exists_eq_left, wStart, List.map_cons, List.map_nil, List.length_cons, List.length_nil, List.replicate, List.cons_append, List.nil_append, oLen_str, oLen_tup, oLen_il, oLen_sc, oI_int, oC_int, oAdd_int, oAdd_str, oAdd_tup, oAdd_il, oNeg_int, oIx_sc, oIx_str, oIx_tup, oIx_il, oSl_str, oSl_tup, oSl_il, oSl_sc, oEq_int, oEq_str, oEq_bl, oNe_int, oNe_str, oNe_bl, oNe_nonint, oNe_intnon, oIn_sign, oNotIn_sign, oStr_int, oInt_int, oInt_bl, oMax2_int, oMin2_int, oIsi_ii, oIsi_ib, oIsi_bb, oIsi_bi, oIsi_ss, oIsi_ll, oIsi_tt, oIsi_ni, W.bl.injEq, W.int.injEq, W.str.injEq, decide_eq_true_eq, Bool.not_eq_true', decide_eq_false_iff_not, true_and, and_true, if_true, if_false, reduceIte]
  refine draw_i hl (by omega) (by omega) (by decide) fun e0 e1 => ?_
  have main : ∀ n : Int, 0 ≤ n → n < 500 → bd_law_t3 (endsW Q) [some (.sc ns), some (.int n), none, none, none] (fun _ => none) (fun c _ G' => Ex c G') := by
    intro n n0 n1
    simp only [bd_law_t3, wBm, wLcI, wLcG, wRng1, wSeq, wAsg, wOp, wUn, wC, wVar, wGet, wIf, wIfS, wTest, wAnd, wOr, wNot, wAndV, wOrV, wNotV, wChain, wRet, wRetN, wDrop, wNext, wCall, wNil, wCons, wTup, wLstI, isNonW, oIs, oIsNot, wSl, wPart, wNoPart, wCB, Option.some.injEq, exists_eq_left', exists_eq_left, wStart, List.map_cons, List.map_nil, List.length_cons, List.length_nil, List.replicate, List.cons_append, List.nil_append, oLen_str, oLen_tup, oLen_il, oLen_sc, oI_int, oC_int, oAdd_int, oAdd_str, oAdd_tup, oAdd_il, oNeg_int, oIx_sc, oIx_str, oIx_tup, oIx_il, oSl_str, oSl_tup, oSl_il, oSl_sc, oEq_int, oEq_str, oEq_bl, oNe_int, oNe_str, oNe_bl, oNe_nonint, oNe_intnon, oIn_sign, oNotIn_sign, oStr_int, oInt_int, oInt_bl, oMax2_int, oMin2_int, oIsi_ii, oIsi_ib, oIsi_bb, oIsi_bi, oIsi_ss, oIsi_ll, oIsi_tt, oIsi_ni, W.bl.injEq, W.int.injEq, W.str.injEq, decide_eq_true_eq, Bool.not_eq_true', decide_eq_false_iff_not, true_and, and_true, if_true, if_false, reduceIte]
    refine ⟨⟨_, rfl⟩, _, rfl, by omega, by omega, by rw [rngW_len, big]; omega, fun D hD => ⟨fun k acc G2 => G2 = updG (fun _ => none) D (.lst acc) ∧ ∃ cs : List Nat, cs.length = k ∧ acc = (cs.map fun c => [c]).map W.str, ⟨rfl, [], rfl, rfl⟩, ?_, ?_, ?_⟩⟩
    · rintro k acc G2 hk ⟨rfl, cs, hc, rfl⟩
      exact ⟨updG_same, by simp [hc]⟩
    · rintro k x acc G2 hx ⟨rfl, cs, hc, rfl⟩
      obtain ⟨hk, rfl⟩ := rngW_get hx
      simp only [lc_law_2_t, lc_law_2_e, wYes, wSeq, wAsg, wN, wOp, wUn, wC, wVar, wGet, wIf, wIfS, wTest, wAnd, wOr, wNot, wAndV, wOrV, wNotV, wChain, wRet, wRetN, wDrop, wNext, wCall, wNil, wCons, wTup, wLstI, isNonW, oIs, oIsNot, wSl, wPart, wNoPart, wCB, List.set_cons_zero, List.set_cons_succ, Option.some.injEq, exists_eq_left', exists_eq_left, wStart, List.map_cons, List.map_nil, List.length_cons, List.length_nil, List.replicate, List.cons_append, List.nil_append, oLen_str, oLen_tup, oLen_il, oLen_sc, oI_int, oC_int, oAdd_int, oAdd_str, oAdd_tup, oAdd_il, oNeg_int, oIx_sc, oIx_str, oIx_tup, oIx_il, oSl_str, oSl_tup, oSl_il, oSl_sc, oEq_int, oEq_str, oEq_bl, oNe_int, oNe_str, oNe_bl, oNe_nonint, oNe_intnon, oIn_sign, oNotIn_sign, oStr_int, oInt_int, oInt_bl, oMax2_int, oMin2_int, oIsi_ii, oIsi_ib, oIsi_bb, oIsi_bi, oIsi_ss, oIsi_ll, oIsi_tt, oIsi_ni, W.bl.injEq, W.int.injEq, W.str.injEq, decide_eq_true_eq, Bool.not_eq_true', decide_eq_false_iff_not, true_and, and_true, if_true, if_false, reduceIte]
      refine ⟨ns, _, rfl, hl, by omega, by omega, fun c => ⟨updG_same, ?_, cs ++ [c], by simp [hc], by simp⟩⟩
      rw [updG_updG]
    · rintro acc G2 ⟨rfl, cs, hc, rfl⟩
      rw [rngW_len] at hc
      rw [delG_updG rfl]
      refine ⟨[], _, _, _, rfl, rfl, rfl, strsOf_map _, ?_, ?_⟩
      · have : (cs.map fun c => [c]).map (·.length) = List.replicate cs.length 1 := by
          rw [List.map_map]; exact List.map_eq_replicate_iff.mpr fun _ _ => rfl
        rw [this, List.sum_replicate_nat, big]
        simp; omega
      · rw [joinL_one]
        simp only [bd_law_t4, wN, wSeq, wAsg, wN, wOp, wUn, wC, wVar, wGet, wIf, wIfS, wTest, wAnd, wOr, wNot, wAndV, wOrV, wNotV, wChain, wRet, wRetN, wDrop, wNext, wCall, wNil, wCons, wTup, wLstI, isNonW, oIs, oIsNot, wSl, wPart, wNoPart, wCB, List.set_cons_zero, List.set_cons_succ, Option.some.injEq, exists_eq_left', exists_eq_left, wStart, List.map_cons, List.map_nil, List.length_cons, List.length_nil, List.replicate, List.cons_append, List.nil_append, oLen_str, oLen_tup, oLen_il, oLen_sc, oI_int, oC_int, oAdd_int, oAdd_str, oAdd_tup, oAdd_il, oNeg_int, oIx_sc, oIx_str, oIx_tup, oIx_il, oSl_str, oSl_tup, oSl_il, oSl_sc, oEq_int, oEq_str, oEq_bl, oNe_int, oNe_str, oNe_bl, oNe_nonint, oNe_intnon, oIn_sign, oNotIn_sign, oStr_int, oInt_int, oInt_bl, oMax2_int, oMin2_int, oIsi_ii, oIsi_ib, oIsi_bb, oIsi_bi, oIsi_ss, oIsi_ll, oIsi_tt, oIsi_ni, W.bl.injEq, W.int.injEq, W.str.injEq, decide_eq_true_eq, Bool.not_eq_true', decide_eq_false_iff_not, true_and, and_true, if_true, if_false, reduceIte]
        refine ⟨cs, rfl, by omega, fun x G1 hx _ => ?_⟩
        simp only [bd_law_t5, wSeq, wAsg, wN, wOp, wUn, wC, wVar, wGet, wIf, wIfS, wTest, wAnd, wOr, wNot, wAndV, wOrV, wNotV, wChain, wRet, wRetN, wDrop, wNext, wCall, wNil, wCons, wTup, wLstI, isNonW, oIs, oIsNot, wSl, wPart, wNoPart, wCB, List.set_cons_zero, List.set_cons_succ, Option.some.injEq, exists_eq_left', exists_eq_left, wStart, List.map_cons, List.map_nil, List.length_cons, List.length_nil, List.replicate, List.cons_append, List.nil_append, oLen_str, oLen_tup, oLen_il, oLen_sc, oI_int, oC_int, oAdd_int, oAdd_str, oAdd_tup, oAdd_il, oNeg_int, oIx_sc, oIx_str, oIx_tup, oIx_il, oSl_str, oSl_tup, oSl_il, oSl_sc, oEq_int, oEq_str, oEq_bl, oNe_int, oNe_str, oNe_bl, oNe_nonint, oNe_intnon, oIn_sign, oNotIn_sign, oStr_int, oInt_int, oInt_bl, oMax2_int, oMin2_int, oIsi_ii, oIsi_ib, oIsi_bb, oIsi_bi, oIsi_ss, oIsi_ll, oIsi_tt, oIsi_ni, W.bl.injEq, W.int.injEq, W.str.injEq, decide_eq_true_eq, Bool.not_eq_true', decide_eq_false_iff_not, true_and, and_true, if_true, if_false, reduceIte]
        refine ⟨x, cs, rfl, by omega, hx, ?_⟩
        simp only [not_true, Bool.true_eq_false, wSeq, wAsg, wN, wOp, wUn, wC, wVar, wGet, wIf, wIfS, wTest, wAnd, wOr, wNot, wAndV, wOrV, wNotV, wChain, wRet, wRetN, wDrop, wNext, wCall, wNil, wCons, wTup, wLstI, isNonW, oIs, oIsNot, wSl, wPart, wNoPart, wCB, List.set_cons_zero, List.set_cons_succ, Option.some.injEq, exists_eq_left', exists_eq_left, wStart, List.map_cons, List.map_nil, List.length_cons, List.length_nil, List.replicate, List.cons_append, List.nil_append, oLen_str, oLen_tup, oLen_il, oLen_sc, oI_int, oC_int, oAdd_int, oAdd_str, oAdd_tup, oAdd_il, oNeg_int, oIx_sc, oIx_str, oIx_tup, oIx_il, oSl_str, oSl_tup, oSl_il, oSl_sc, oEq_int, oEq_str, oEq_bl, oNe_int, oNe_str, oNe_bl, oNe_nonint, oNe_intnon, oIn_sign, oNotIn_sign, oStr_int, oInt_int, oInt_bl, oMax2_int, oMin2_int, oIsi_ii, oIsi_ib, oIsi_bb, oIsi_bi, oIsi_ss, oIsi_ll, oIsi_tt, oIsi_ni, W.bl.injEq, W.int.injEq, W.str.injEq, decide_eq_true_eq, Bool.not_eq_true', decide_eq_false_iff_not, true_and, and_true, if_true, if_false, reduceIte]
        obtain ⟨p, ws, rfl, hp, hr⟩ := hx
        have h0 : 0 < (rowsOf cs).length := by rw [rowsOf, List.length_map]; exact List.length_pos_iff.mpr (splitL_ne _ _)
        obtain ⟨u, hu, hu2⟩ := hr.2 0 _ (List.getElem?_eq_getElem h0)
        have hm := rowsOf_mem (List.getElem_mem h0)
        generalize (rowsOf cs)[0] = r at hu2 hm
        obtain ⟨c, e, e'⟩ := atI_0 (xs := ws) (by rw [hr.1]; exact h0)
        rw [hu] at e'
        cases e'
        simp only [bd_law_t6, wBm, oIx_ref p ws 0 hp, e, wSeq, wAsg, wN, wOp, wUn, wC, wVar, wGet, wIf, wIfS, wTest, wAnd, wOr, wNot, wAndV, wOrV, wNotV, wChain, wRet, wRetN, wDrop, wNext, wCall, wNil, wCons, wTup, wLstI, isNonW, oIs, oIsNot, wSl, wPart, wNoPart, wCB, List.set_cons_zero, List.set_cons_succ, Option.some.injEq, exists_eq_left', exists_eq_left, wStart, List.map_cons, List.map_nil, List.length_cons, List.length_nil, List.replicate, List.cons_append, List.nil_append, oLen_str, oLen_tup, oLen_il, oLen_sc, oI_int, oC_int, oAdd_int, oAdd_str, oAdd_tup, oAdd_il, oNeg_int, oIx_sc, oIx_str, oIx_tup, oIx_il, oSl_str, oSl_tup, oSl_il, oSl_sc, oEq_int, oEq_str, oEq_bl, oNe_int, oNe_str, oNe_bl, oNe_nonint, oNe_intnon, oIn_sign, oNotIn_sign, oStr_int, oInt_int, oInt_bl, oMax2_int, oMin2_int, oIsi_ii, oIsi_ib, oIsi_bb, oIsi_bi, oIsi_ss, oIsi_ll, oIsi_tt, oIsi_ni, W.bl.injEq, W.int.injEq, W.str.injEq, decide_eq_true_eq, Bool.not_eq_true', decide_eq_false_iff_not, true_and, and_true, if_true, if_false, reduceIte]
        have hlen := hm.2.1
        refine ⟨⟨_, by simp [sqOf, lstOf, hu2]; rfl⟩, _, _, _, rfl, rfl, hu2, by rw [big]; simp; omega, ?_⟩
        have hlen2 : (rowsOf cs).length ≤ cs.length + 1 := by rw [rowsOf, List.length_map]; exact splitL_many _ _
        have : ∃ zs, updG G1 u (.lst (r.map W.str ++ [.str [120]])) p = some (.lst zs) ∧ zs.length < 10000 := by
          by_cases hpu : p = u
          · subst hpu
            exact ⟨_, updG_same, by simp; omega⟩
          · rw [updG_ne hpu]
            exact ⟨_, hp, by rw [hr.1]; omega⟩
        obtain ⟨zs, hz, hz2⟩ := this
        simp only [bd_law_t7, wBm, wSeq, wAsg, wN, wOp, wUn, wC, wVar, wGet, wIf, wIfS, wTest, wAnd, wOr, wNot, wAndV, wOrV, wNotV, wChain, wRet, wRetN, wDrop, wNext, wCall, wNil, wCons, wTup, wLstI, isNonW, oIs, oIsNot, wSl, wPart, wNoPart, wCB, List.set_cons_zero, List.set_cons_succ, Option.some.injEq, exists_eq_left', exists_eq_left, wStart, List.map_cons, List.map_nil, List.length_cons, List.length_nil, List.replicate, List.cons_append, List.nil_append, oLen_str, oLen_tup, oLen_il, oLen_sc, oI_int, oC_int, oAdd_int, oAdd_str, oAdd_tup, oAdd_il, oNeg_int, oIx_sc, oIx_str, oIx_tup, oIx_il, oSl_str, oSl_tup, oSl_il, oSl_sc, oEq_int, oEq_str, oEq_bl, oNe_int, oNe_str, oNe_bl, oNe_nonint, oNe_intnon, oIn_sign, oNotIn_sign, oStr_int, oInt_int, oInt_bl, oMax2_int, oMin2_int, oIsi_ii, oIsi_ib, oIsi_bb, oIsi_bi, oIsi_ss, oIsi_ll, oIsi_tt, oIsi_ni, W.bl.injEq, W.int.injEq, W.str.injEq, decide_eq_true_eq, Bool.not_eq_true', decide_eq_false_iff_not, true_and, and_true, if_true, if_false, reduceIte]
        refine ⟨⟨zs, by simp [sqOf, lstOf, hz]⟩, le_size (by decide), _, _, _, rfl, rfl, hz, by rw [big]; omega, ?_⟩
        simp only [bd_law_t8, wSeq, wAsg, wN, wOp, wUn, wC, wVar, wGet, wIf, wIfS, wTest, wAnd, wOr, wNot, wAndV, wOrV, wNotV, wChain, wRet, wRetN, wDrop, wNext, wCall, wNil, wCons, wTup, wLstI, isNonW, oIs, oIsNot, wSl, wPart, wNoPart, wCB, List.set_cons_zero, List.set_cons_succ, Option.some.injEq, exists_eq_left', exists_eq_left, wStart, List.map_cons, List.map_nil, List.length_cons, List.length_nil, List.replicate, List.cons_append, List.nil_append, oLen_str, oLen_tup, oLen_il, oLen_sc, oI_int, oC_int, oAdd_int, oAdd_str, oAdd_tup, oAdd_il, oNeg_int, oIx_sc, oIx_str, oIx_tup, oIx_il, oSl_str, oSl_tup, oSl_il, oSl_sc, oEq_int, oEq_str, oEq_bl, oNe_int, oNe_str, oNe_bl, oNe_nonint, oNe_intnon, oIn_sign, oNotIn_sign, oStr_int, oInt_int, oInt_bl, oMax2_int, oMin2_int, oIsi_ii, oIsi_ib, oIsi_bb, oIsi_bi, oIsi_ss, oIsi_ll, oIsi_tt, oIsi_ni, W.bl.injEq, W.int.injEq, W.str.injEq, decide_eq_true_eq, Bool.not_eq_true', decide_eq_false_iff_not, true_and, and_true, if_true, if_false, reduceIte]
        refine ⟨cs, rfl, by omega, fun x G3 hx _ => ⟨x, cs, rfl, by omega, hx, q _⟩⟩
  simp only [not_true, Bool.true_eq_false, Bool.false_eq_true, wSeq, wAsg, wN, wOp, wUn, wC, wVar, wGet, wIf, wIfS, wTest, wAnd, wOr, wNot, wAndV, wOrV, wNotV, wChain, wRet, wRetN, wDrop, wNext, wCall, wNil, wCons, wTup, wLstI, isNonW, oIs, oIsNot, wSl, wPart, wNoPart, wCB, List.set_cons_zero, List.set_cons_succ, Option.some.injEq, exists_eq_left', exists_eq_left, wStart, List.map_cons, List.map_nil, List.length_cons, List.length_nil, List.replicate, List.cons_append, List.nil_append, oLen_str, oLen_tup, oLen_il, oLen_sc, oI_int, oC_int, oAdd_int, oAdd_str, oAdd_tup, oAdd_il, oNeg_int, oIx_sc, oIx_str, oIx_tup, oIx_il, oSl_str, oSl_tup, oSl_il, oSl_sc, oEq_int, oEq_str, oEq_bl, oNe_int, oNe_str, oNe_bl, oNe_nonint, oNe_intnon, oIn_sign, oNotIn_sign, oStr_int, oInt_int, oInt_bl, oMax2_int, oMin2_int, oIsi_ii, oIsi_ib, oIsi_bb, oIsi_bi, oIsi_ss, oIsi_ll, oIsi_tt, oIsi_ni, W.bl.injEq, W.int.injEq, W.str.injEq, decide_eq_true_eq, Bool.not_eq_true', decide_eq_false_iff_not, true_and, and_true, if_true, if_false, reduceIte]
  split
  · simp only [bd_law_1, wSeq, wAsg, wN, wOp, wUn, wC, wVar, wGet, wIf, wIfS, wTest, wAnd, wOr, wNot, wAndV, wOrV, wNotV, wChain, wRet, wRetN, wDrop, wNext, wCall, wNil, wCons, wTup, wLstI, isNonW, oIs, oIsNot, wSl, wPart, wNoPart, wCB, List.set_cons_zero, List.set_cons_succ, Option.some.injEq, exists_eq_left', exists_eq_left, wStart, List.map_cons, List.map_nil, List.length_cons, List.length_nil, List.replicate, List.cons_append, List.nil_append, oLen_str, oLen_tup, oLen_il, oLen_sc, oI_int, oC_int, oAdd_int, oAdd_str, oAdd_tup, oAdd_il, oNeg_int, oIx_sc, oIx_str, oIx_tup, oIx_il, oSl_str, oSl_tup, oSl_il, oSl_sc, oEq_int, oEq_str, oEq_bl, oNe_int, oNe_str, oNe_bl, oNe_nonint, oNe_intnon, oIn_sign, oNotIn_sign, oStr_int, oInt_int, oInt_bl, oMax2_int, oMin2_int, oIsi_ii, oIsi_ib, oIsi_bb, oIsi_bi, oIsi_ss, oIsi_ll, oIsi_tt, oIsi_ni, W.bl.injEq, W.int.injEq, W.str.injEq, decide_eq_true_eq, Bool.not_eq_true', decide_eq_false_iff_not, true_and, and_true, if_true, if_false, reduceIte]
    exact main _ (by omega) (by omega)
  · exact main _ (by omega) (by omega)

/-! ## derivations -/
section
variable {P : Par} {prog : Program} {w : World} {mg : Str → Option Value} {base : Heap} {f : Addr} {fd : FuncData}
theorem ok_words (F : Fun P.K "words" "words" s_words f fd)  : FnW P prog w mg base 1 f fd ["text"] sp_words :=
  Fun.okW F sc_words len_words fun cdv A outer s H E hr => ⟨bd_words, by
    exact (jss_one (js_ret (je_lcM (x := "row") (j := 1) rfl sc_words.nd (ji_iter rfl (je_bm (k := .str) rfl PySem.F.plainAttrs_str PySem.F.slot_str_split PySem.F.type_str_split mw_ssplit (jv 0) (ja_cons (je_str [10]) ja_nil))) (blkOk_by (by show blkC ["text", "row"] (defScope s_words) _ [("row", 1)] = true; decide +kernel)) (fun _ _ _ _ _ => pg_name (i := 1) sc_words.nd rfl (Or.inl rfl)) (fun _ _ _ _ _ => (by exact jts_nil : JTs _ _ _ lc_words_1_t)) (fun _ _ _ _ _ => (by exact (je_bm (k := .str) rfl PySem.F.plainAttrs_str PySem.F.slot_str_split PySem.F.type_str_split mw_ssplitM (jv 1) (ja_cons (je_str [32]) ja_nil)) : JE _ _ _ lc_words_1_e))))), fun ws G Q Ex h => w_words ws G Q Ex h⟩
theorem ok_l_draw (F : Fun P.K "_law_draw" "_law_draw" s_l_draw f fd) (b_len : mg "len" = none) : FnW P prog w mg base 1 f fd ["_law_script", "_law_k", "_law_many"] sp_l_draw :=
  Fun.okW F sc_l_draw len_l_draw fun cdv A outer s H E hr => ⟨bd_l_draw, by
    exact (jss_cons (js_set (i := 3) sc_l_draw.nd rfl (Or.inl rfl) (je_ifExp (jt_cmp ow_gt (je_callB (cw_len rfl) (by rfl) b_len boot_len (ja_cons (jv 0) ja_nil)) je_int) (je_ix (iw_seq rfl) (jv 0) (je_op ow_mod (jv 1) (je_callB (cw_len rfl) (by rfl) b_len boot_len (ja_cons (jv 0) ja_nil)))) je_int)) (jss_cons (js_set (i := 4) sc_l_draw.nd rfl (Or.inl rfl) (je_op (ow_add rfl) (je_op (ow_add rfl) (je_op ow_mod (jv 3) je_int) (je_op ow_mul (je_op ow_mul je_int (jv 1)) (jv 1))) je_int)) (jss_one (js_ret (je_op ow_mod (je_op ow_mod (je_op ow_mul (je_op ow_mod (je_op ow_mul (jv 4) je_int) je_int) je_int) je_int) (jv 2)))))), fun ws G Q Ex h => w_l_draw ws G Q Ex h⟩
theorem ok_l_sign (F : Fun P.K "_law_sign" "_law_sign" s_l_sign f fd) (c_l_draw : CallOk P prog w mg base "_law_draw" 1 sp_l_draw) : FnW P prog w mg base 2 f fd ["_law_script", "_law_k"] sp_l_sign :=
  Fun.okW F sc_l_sign len_l_sign fun cdv A outer s H E hr => ⟨bd_l_sign, by
    exact (jss_cons (js_set (i := 2) sc_l_sign.nd rfl (Or.inl rfl) (je_str [32, 32, 10, 10, 97, 98, 55])) (jss_cons (js_set (i := 3) sc_l_sign.nd rfl (Or.inl rfl) (je_str [32, 33, 34, 35, 36, 38, 39, 40, 41, 42, 43, 44, 45, 46, 47, 48, 49, 50, 51, 52, 53, 54, 55, 56, 57, 58, 59, 60, 61, 62, 63, 64, 65, 66, 67, 68, 69, 70, 71, 72, 73, 74, 75, 76, 77, 78, 79, 80, 81, 82, 83, 84, 85, 86, 87, 88, 89, 90, 91, 92, 93, 94, 95, 97, 98, 99, 100, 101, 102, 103, 104, 105, 106, 107, 108, 109, 110, 111, 112, 113, 114, 115, 116, 117, 118, 119, 120, 121, 122, 123, 124, 125, 126, 96])) (jss_cons (js_if (jt_cmp ow_gt (je_callC c_l_draw (hr.mono (by decide)) (by rfl) (ja_cons (jv 0) (ja_cons (je_op (ow_add rfl) je_int (jv 1)) (ja_cons je_int ja_nil)))) je_int) (by exact (jss_one (js_ret (je_ix (iw_seq rfl) (jv 2) (je_callC c_l_draw (hr.mono (by decide)) (by rfl) (ja_cons (jv 0) (ja_cons (je_op (ow_add rfl) je_int (jv 1)) (ja_cons je_int ja_nil))))))) : JSs _ _ _ bd_l_sign_1) jss_nil) (jss_one (js_ret (je_ix (iw_seq rfl) (jv 3) (je_callC c_l_draw (hr.mono (by decide)) (by rfl) (ja_cons (jv 0) (ja_cons (je_op (ow_add rfl) je_int (jv 1)) (ja_cons je_int ja_nil)))))))))), fun ws G Q Ex h => w_l_sign ws G Q Ex h⟩
theorem ok_l_good (F : Fun P.K "_law_good" "_law_good" s_l_good f fd) (b_isinstance : mg "isinstance" = none) (b_list : mg "list" = none) (b_len : mg "len" = none) (b_str : mg "str" = none) : FnW P prog w mg base 1 f fd ["_law_found", "_law_text"] sp_l_good :=
  Fun.okW F sc_l_good len_l_good fun cdv A outer s H E hr => ⟨bd_l_good, by
    exact (jss_cons (js_if (jt_not (jt_val (je_callB (cw_isi rfl) (by rfl) b_isinstance boot_isinstance (ja_cons (jv 0) (ja_cons (je_bltn (v' := .ty "list") (by rfl) b_list boot_list rfl (fun _ _ => .ty _)) ja_nil))))) (by exact (jss_one (js_ret je_bl)) : JSs _ _ _ bd_l_good_1) jss_nil) (jss_cons (js_for (passesW rfl) rfl (ji_iter rfl (jv 0)) (jg_name (i := 2) sc_l_good.nd rfl (Or.inl rfl)) (by exact (jss_cons (js_if (JW.pt (jw_or (jt_not (jt_val (je_callB (cw_isi rfl) (by rfl) b_isinstance boot_isinstance (ja_cons (jv 2) (ja_cons (je_bltn (v' := .ty "list") (by rfl) b_list boot_list rfl (fun _ _ => .ty _)) ja_nil))))) (jw_or1 (jt_cmp (ow_eq rfl hr.units) (je_callB (cw_len rfl) (by rfl) b_len boot_len (ja_cons (jv 2) ja_nil)) je_int)))) (by exact (jss_one (js_ret je_bl)) : JSs _ _ _ bd_l_good_3) jss_nil) (jss_one (js_for (passesW rfl) rfl (ji_iter rfl (jv 2)) (jg_name (i := 3) sc_l_good.nd rfl (Or.inl rfl)) (by exact (jss_one (js_if (JW.pt (jw_or (jt_not (jt_val (je_callB (cw_isi rfl) (by rfl) b_isinstance boot_isinstance (ja_cons (jv 3) (ja_cons (je_bltn (v' := .ty "str") (by rfl) b_str boot_str rfl (fun _ _ => .ty _)) ja_nil))))) (jw_or (jt_cmp (ow_in rfl) (je_str [32]) (jv 3)) (jw_or1 (jt_cmp (ow_in rfl) (je_str [10]) (jv 3)))))) (by exact (jss_one (js_ret je_bl)) : JSs _ _ _ bd_l_good_5) jss_nil)) : JSs _ _ _ bd_l_good_4)))) : JSs _ _ _ bd_l_good_2)) (jss_one (js_ret (je_cmp (ow_eq rfl hr.units) (je_bm (k := .str) rfl PySem.F.plainAttrs_str PySem.F.slot_str_join PySem.F.type_str_join (mw_sjoin rfl) (je_str [10]) (ja_cons (je_lcI (x := "_law_row") (j := 2) rfl sc_l_good.nd (ji_iter rfl (jv 0)) (blkOk_by (by show blkC ["_law_found", "_law_text", "_law_row", "_law_word"] (defScope s_l_good) _ [("_law_row", 2)] = true; decide +kernel)) (fun _ _ _ _ _ => pg_name (i := 2) sc_l_good.nd rfl (Or.inl rfl)) (fun _ _ _ _ _ => (by exact jts_nil : JTs _ _ _ lc_l_good_6_t)) (fun _ _ _ _ _ => (by exact (je_bm (k := .str) rfl PySem.F.plainAttrs_str PySem.F.slot_str_join PySem.F.type_str_join (mw_sjoin rfl) (je_str [32]) (ja_cons (jv 2) ja_nil)) : JE _ _ _ lc_l_good_6_e))) ja_nil)) (jv 1)))))), fun ws G Q Ex h => w_l_good ws G Q Ex h⟩
theorem ok_law (F : Fun P.K "law" "law" s_law f fd) (c_l_draw : CallOk P prog w mg base "_law_draw" 1 sp_l_draw) (b_range : mg "range" = none) (c_l_sign : CallOk P prog w mg base "_law_sign" 2 sp_l_sign) (c_words : CallOk P prog w mg base "words" 1 sp_words) (c_l_good : CallOk P prog w mg base "_law_good" 1 sp_l_good) : FnW P prog w mg base 3 f fd ["_law_script"] sp_law :=
  Fun.okW F sc_law len_law fun cdv A outer s H E hr => ⟨bd_law, by
    exact (jss_cons (js_set (i := 1) sc_law.nd rfl (Or.inl rfl) (je_callC c_l_draw (hr.mono (by decide)) (by rfl) (ja_cons (jv 0) (ja_cons je_int (ja_cons je_int ja_nil))))) (jss_cons (js_if (jt_cmp (ow_eq rfl hr.units) (je_callC c_l_draw (hr.mono (by decide)) (by rfl) (ja_cons (jv 0) (ja_cons je_int (ja_cons je_int ja_nil)))) je_int) (by exact (jss_one (js_set (i := 1) sc_law.nd rfl (Or.inl rfl) (je_op (ow_add rfl) (jv 1) je_int))) : JSs _ _ _ bd_law_1) jss_nil) (jss_cons (js_set (i := 2) sc_law.nd rfl (Or.inl rfl) (je_bm (k := .str) rfl PySem.F.plainAttrs_str PySem.F.slot_str_join PySem.F.type_str_join (mw_sjoin rfl) (je_str []) (ja_cons (je_lcI (x := "_law_k") (j := 4) rfl sc_law.nd (ji_range1 (by rfl) b_range (ja_cons (jv 1) ja_nil)) (blkOk_by (by show blkC ["_law_script", "_law_size", "_law_text", "_law_first", "_law_k"] (defScope s_law) _ [("_law_k", 4)] = true; decide +kernel)) (fun _ _ _ _ _ => pg_name (i := 4) sc_law.nd rfl (Or.inl rfl)) (fun _ _ _ _ _ => (by exact jts_nil : JTs _ _ _ lc_law_2_t)) (fun _ _ _ _ _ => (by exact (je_callC c_l_sign (hr.mono (by decide)) (by rfl) (ja_cons (jv 0) (ja_cons (jv 4) ja_nil))) : JE _ _ _ lc_law_2_e))) ja_nil))) (jss_cons (js_set (i := 3) sc_law.nd rfl (Or.inl rfl) (je_callC c_words (hr.mono (by decide)) (by rfl) (ja_cons (jv 2) ja_nil))) (jss_cons (js_if (jt_not (jt_val (je_callC c_l_good (hr.mono (by decide)) (by rfl) (ja_cons (jv 3) (ja_cons (jv 2) ja_nil))))) (by exact (jss_one (js_ret je_bl)) : JSs _ _ _ bd_law_3) jss_nil) (jss_cons (js_expr (je_bm (k := .list) rfl PySem.F.plainAttrs_list PySem.F.slot_list_append PySem.F.type_list_append mw_append (je_ix (iw_seq rfl) (jv 3) je_int) (ja_cons (je_str [120]) ja_nil))) (jss_cons (js_expr (je_bm (k := .list) rfl PySem.F.plainAttrs_list PySem.F.slot_list_append PySem.F.type_list_append mw_append (jv 3) (ja_cons (je_lstI (ja_cons (je_str [121]) ja_nil)) ja_nil))) (jss_one (js_ret (je_callC c_l_good (hr.mono (by decide)) (by rfl) (ja_cons (je_callC c_words (hr.mono (by decide)) (by rfl) (ja_cons (jv 2) ja_nil)) (ja_cons (jv 2) ja_nil)))))))))))), fun ws G Q Ex h => w_law ws G Q Ex h⟩
end
/-! ## the end -/
theorem all_mk {l : PySem.W.OpenLaw} {w : World} {K : PySem.W.Frag} {h : Heap} {mg : Str → Option Value} {fa : Addr} (X : K.In h) (G : h.Ns mainGlobals mg) (hfa : mg "law" = some (.ref fa))
    {f0 : Addr} {od0 an0 : Option Addr} {sl0 : Array (Option Value)} {oc0 kV0 dc0 pm0 cd0 ct0 : Value} {f1 : Addr} {od1 an1 : Option Addr} {sl1 : Array (Option Value)} {oc1 kV1 dc1 pm1 cd1 ct1 : Value} {f2 : Addr} {od2 an2 : Option Addr} {sl2 : Array (Option Value)} {oc2 kV2 dc2 pm2 cd2 ct2 : Value} {f3 : Addr} {od3 an3 : Option Addr} {sl3 : Array (Option Value)} {oc3 kV3 dc3 pm3 cd3 ct3 : Value} {f4 : Addr} {od4 an4 : Option Addr} {sl4 : Array (Option Value)} {oc4 kV4 dc4 pm4 cd4 ct4 : Value}
    (a0 : PySem.W.nsIn K mainGlobals "words" = some (some (.ref f0))) (l0 : K.lookup f0 = some ⟨oc0, od0, .func (PySem.W.fnOf "words" "words" (defArgs s_words) (defBody s_words) (defScope s_words) .none kV0 dc0 pm0 an0 cd0 ct0), sl0⟩) (q0 : PySem.W.codeIn K cd0 "words" = true) (k0 : PySem.W.keepIn K (.ref f0) = true)
    (a1 : PySem.W.nsIn K mainGlobals "_law_draw" = some (some (.ref f1))) (l1 : K.lookup f1 = some ⟨oc1, od1, .func (PySem.W.fnOf "_law_draw" "_law_draw" (defArgs s_l_draw) (defBody s_l_draw) (defScope s_l_draw) .none kV1 dc1 pm1 an1 cd1 ct1), sl1⟩) (q1 : PySem.W.codeIn K cd1 "_law_draw" = true) (k1 : PySem.W.keepIn K (.ref f1) = true)
    (a2 : PySem.W.nsIn K mainGlobals "_law_sign" = some (some (.ref f2))) (l2 : K.lookup f2 = some ⟨oc2, od2, .func (PySem.W.fnOf "_law_sign" "_law_sign" (defArgs s_l_sign) (defBody s_l_sign) (defScope s_l_sign) .none kV2 dc2 pm2 an2 cd2 ct2), sl2⟩) (q2 : PySem.W.codeIn K cd2 "_law_sign" = true) (k2 : PySem.W.keepIn K (.ref f2) = true)
    (a3 : PySem.W.nsIn K mainGlobals "_law_good" = some (some (.ref f3))) (l3 : K.lookup f3 = some ⟨oc3, od3, .func (PySem.W.fnOf "_law_good" "_law_good" (defArgs s_l_good) (defBody s_l_good) (defScope s_l_good) .none kV3 dc3 pm3 an3 cd3 ct3), sl3⟩) (q3 : PySem.W.codeIn K cd3 "_law_good" = true) (k3 : PySem.W.keepIn K (.ref f3) = true)
    (a4 : PySem.W.nsIn K mainGlobals "law" = some (some (.ref f4))) (l4 : K.lookup f4 = some ⟨oc4, od4, .func (PySem.W.fnOf "law" "law" (defArgs s_law) (defBody s_law) (defScope s_law) .none kV4 dc4 pm4 an4 cd4 ct4), sl4⟩) (q4 : PySem.W.codeIn K cd4 "law" = true) (k4 : PySem.W.keepIn K (.ref f4) = true)
    (z_len : PySem.W.nsIn K mainGlobals "len" = some none)
    (z_isinstance : PySem.W.nsIn K mainGlobals "isinstance" = some none)
    (z_list : PySem.W.nsIn K mainGlobals "list" = some none)
    (z_str : PySem.W.nsIn K mainGlobals "str" = some none)
    (z_range : PySem.W.nsIn K mainGlobals "range" = some none) :
    ∃ fd : FuncData, (∀ (s : Shared) (v : Value), BindsTo s fd ⟨[v], []⟩ [("_law_script", v)]) ∧ ∀ base : Heap, K.In base → base.Ns mainGlobals mg → FnOk l.prog w K mg base (L2.CX l.prog w) 3 fa fd ["_law_script"] (embSp ⟨K, myCa, myFn⟩ spLaw) := by
  have e := hfa.symm.trans (PySem.W.mg_of X G a4)
  cases e
  obtain ⟨P, eP⟩ : ∃ P : Par, P = ⟨K, myCa, myFn⟩ := ⟨_, rfl⟩
  have eK : P.K = K := by rw [eP]
  rw [← eP]
  subst eK
  have b_len := PySem.W.mg_none_of X G z_len
  have b_isinstance := PySem.W.mg_none_of X G z_isinstance
  have b_list := PySem.W.mg_none_of X G z_list
  have b_str := PySem.W.mg_none_of X G z_str
  have b_range := PySem.W.mg_none_of X G z_range
  have F0 := fun_mk (st := s_words) l0 q0 k0
  have B0 := F0.binds (ps := ["text"]) fun _ _ _ _ _ _ us hl => match us, hl with | [_], _ => rfl
  have F1 := fun_mk (st := s_l_draw) l1 q1 k1
  have B1 := F1.binds (ps := ["_law_script", "_law_k", "_law_many"]) fun _ _ _ _ _ _ us hl => match us, hl with | [_, _, _], _ => rfl
  have F2 := fun_mk (st := s_l_sign) l2 q2 k2
  have B2 := F2.binds (ps := ["_law_script", "_law_k"]) fun _ _ _ _ _ _ us hl => match us, hl with | [_, _], _ => rfl
  have F3 := fun_mk (st := s_l_good) l3 q3 k3
  have B3 := F3.binds (ps := ["_law_found", "_law_text"]) fun _ _ _ _ _ _ us hl => match us, hl with | [_, _], _ => rfl
  have F4 := fun_mk (st := s_law) l4 q4 k4
  have B4 := F4.binds (ps := ["_law_script"]) fun _ _ _ _ _ _ us hl => match us, hl with | [_], _ => rfl
  refine ⟨PySem.W.fnOf "law" "law" (defArgs s_law) (defBody s_law) (defScope s_law) .none kV4 dc4 pm4 an4 cd4 ct4, fun s v => .of_eq rfl, fun base _ _ => ?_⟩
  have c_words : CallOk P l.prog w mg base "words" 1 sp_words := ⟨f0, _, _, ok_words (P := P) (prog := l.prog) (w := w) (base := base) F0 , PySem.W.mg_of X G a0, k0, B0⟩
  have c_l_draw : CallOk P l.prog w mg base "_law_draw" 1 sp_l_draw := ⟨f1, _, _, ok_l_draw (P := P) (prog := l.prog) (w := w) (base := base) F1 b_len, PySem.W.mg_of X G a1, k1, B1⟩
  have c_l_good : CallOk P l.prog w mg base "_law_good" 1 sp_l_good := ⟨f3, _, _, ok_l_good (P := P) (prog := l.prog) (w := w) (base := base) F3 b_isinstance b_list b_len b_str, PySem.W.mg_of X G a3, k3, B3⟩
  have c_l_sign : CallOk P l.prog w mg base "_law_sign" 2 sp_l_sign := ⟨f2, _, _, ok_l_sign (P := P) (prog := l.prog) (w := w) (base := base) F2 c_l_draw, PySem.W.mg_of X G a2, k2, B2⟩
  exact ok_law (P := P) (prog := l.prog) (w := w) (base := base) F4 c_l_draw b_range c_l_sign c_words c_l_good
theorem walk {l : PySem.W.OpenLaw} {q : Program} {loose : List Str} {XP : (Str → Option Value) → Heap → Prop} {YP : World → Heap → Prop} {d : DefRec} {K : Params → PySem.W.Frag} (hn : l.most = some 63) (hdf : d.params.defaults = [])
    (hY : ∀ (w : World) (h : Heap), YP w h → (K w.params).In h)
    (F : ∀ (w : World) (mg : Str → Option Value) (fa : Addr) (h : Heap), (K w.params).In h → h.Ns mainGlobals mg → mg d.name = some (.ref fa) →
      ∃ fd : FuncData, (∀ (s : Shared) (u : Value), BindsTo s fd ⟨[u], []⟩ [("_law_script", u)]) ∧ ∀ base : Heap, (K w.params).In base → base.Ns mainGlobals mg → FnOk l.prog w (K w.params) mg base (L2.CX l.prog w) 3 fa fd ["_law_script"] (embSp ⟨K w.params, myCa, myFn⟩ spLaw)) :
    PySem.W.WalkO q loose XP YP l.row.toRowW d [] (fun f vs => PySem.call f vs) :=
  L2.walk_of (n := 63) (k := 3) (x := "_law_script") (CX := fun w => L2.CX l.prog w) (sp := fun w => embSp ⟨K w.params, myCa, myFn⟩ spLaw) hn (by decide) hdf ⟨rfl, by decide, by decide⟩ hY F (fun w H a ns hl hO hS => law_sp ⟨K w.params, myCa, myFn⟩ hl hO hS) fun _ _ _ _ _ z => by
    obtain ⟨_, _, _, _, _, _, _, _, _, _, _, _, z⟩ := z
    exact z.elim
end Lw
open PySem PySem.W PyProof.Rows
set_option maxRecDepth 100000 in
set_option maxHeartbeats 0 in
theorem PySem.Challenge.cw_lampway_k02_words_holds : PySem.Challenge.rw_lampway_k02_words.Holds := by
  w_on; o_law; k_head; (case hw => w_witness2)
  k_fill
  refine Lw.walk (l := PySem.Challenge.rw_lampway_k02_words) rfl rfl (fun w h Y => PySem.W.kIn_of Y) ?F
  case F =>
    intro w mg fa h KX G hmg
    refine' Lw.all_mk KX G hmg ?a0 ?l0 ?q0 ?k0 ?a1 ?l1 ?q1 ?k1 ?a2 ?l2 ?q2 ?k2 ?a3 ?l3 ?q3 ?k3 ?a4 ?l4 ?q4 ?k4 ?z_len ?z_isinstance ?z_list ?z_str ?z_range
    (case a0 => k_is)
    (case l0 => k_is)
    (case q0 => k_is)
    (case k0 => k_is)
    (case a1 => k_is)
    (case l1 => k_is)
    (case q1 => k_is)
    (case k1 => k_is)
    (case a2 => k_is)
    (case l2 => k_is)
    (case q2 => k_is)
    (case k2 => k_is)
    (case a3 => k_is)
    (case l3 => k_is)
    (case q3 => k_is)
    (case k3 => k_is)
    (case a4 => k_is)
    (case l4 => k_is)
    (case q4 => k_is)
    (case k4 => k_is)
    (case z_len => k_is)
    (case z_isinstance => k_is)
    (case z_list => k_is)
    (case z_str => k_is)
    (case z_range => k_is)
#print axioms PySem.Challenge.cw_lampway_k02_words_holds
