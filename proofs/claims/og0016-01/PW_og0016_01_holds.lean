import PyProof.Rows.All
import Wide.All
import OpenK.AllK
import Wide.FinOn
import KE.KDictOf
import KE.KPop
import PyProof.CompFree
import KE.KPairComp
import PyProof.DictDisplay
import KE.KNest
import PySem.Challenge.RW_og0016_01
set_option Elab.async false
set_option autoImplicit false
set_option linter.all false
set_option bootstrap.genMatcherCode false
section
namespace Mine
theorem nle9 {a b : Nat} (h : Nat.ble a b = true) : a ≤ b := Nat.le_of_ble_eq_true h
open PySem PySem.Calls PyProof.Rows PySem.W
inductive MV where
  | none
  | bool (b : Bool)
  | int (i : Int)
  | str (x : Str)
  | tup (l : List MV)
  | lst (l : List MV)
  | dct (l : List (Str × MV))
  | obj (c : Nat) (l : List MV)
  | glo (i : Nat)
  | clo (k : Nat) (l : List MV)
inductive Knd where
  | no
  | frz (o : Obj)
  | frn (o : Obj)
  | loc
  | cell (x : Str)
  | slot (x : Str)
  | glo (i : Nat)
noncomputable def Knd.own : Knd → Bool
  | .loc => true
  | .cell _ => true
  | .slot _ => true
  | _ => false
noncomputable abbrev Gh := Addr → Knd
noncomputable abbrev tupOf (vs : List Value) (n : Nat) : Obj := { cls := .type "tuple", data := .seq vs.toArray n }
noncomputable abbrev lstOf (vs : List Value) (n : Nat) : Obj := { cls := .type "list", data := .seq vs.toArray n }
structure Ctx where
  prog : Program
  w : World
  h₀ : Heap
  K : Frag
  mg : Str → Option Value
  mb : Str → Option Value
  cAd : Nat → Addr
  isClo : Nat → Obj → List (Str × Addr) → Addr → Obj → Prop
  tabs : List (Addr × Nat)
noncomputable def flds : Nat → List Str
  | 0 => ["name"]
  | 1 => ["kind", "value"]
  | 2 => ["fun", "args"]
  | 3 => ["params", "body"]
  | 4 => ["binds", "body", "is_rec"]
  | 5 => ["key", "names", "body"]
  | 6 => ["value", "name", "alts", "other"]
  | 7 => ["name", "args"]
  | 8 => ["fresh", "instead"]
  | 9 => ["avoided", "numbers"]
  | _ => []
theorem ns9 {α : Type} {a : α} {P : Prop} (h : (none : Option α) = some a) : P := nomatch h
theorem some_pair {α β : Type} {a b : α} {c d : β} (h : some (a, c) = some (b, d)) : a = b ∧ c = d := Prod.mk.inj (Option.some.inj h)
section
variable (C : Ctx) (κ : Gh)
mutual
inductive VR : Value → MV → Prop
  | none : VR .none .none
  | bool (b : Bool) : VR (.bool b) (.bool b)
  | int (i : Int) (t : Tok) : VR (.int i t) (.int i)
  | str (x : Str) (t : Tok) : VR (.str x t) (.str x)
  | tup {a : Addr} {n : Nat} {vs : List Value} {ms : List MV} : κ a = .frz (tupOf vs n) → VRs vs ms → VR (.ref a) (.tup ms)
  | lst {a : Addr} {n : Nat} {vs : List Value} {ms : List MV} : κ a = .frz (lstOf vs n) → VRs vs ms → VR (.ref a) (.lst ms)
  | dct {a : Addr} {o : Obj} {kvs : List (Str × Value)} {ms : List (Str × MV)} : κ a = .frz o → o.IsDictOf (strKind C.prog C.w) kvs → PRs kvs ms → VR (.ref a) (.dct ms)
  | obj {a d : Addr} {n c : Nat} {es : List DictEntry} {ms : List MV} : κ a = .frz (instObj (C.cAd c) d) → κ d = .frz (dictOf es n) → DRs es ((flds c).zip ms) → (flds c).length = ms.length → VR (.ref a) (.obj c ms)
  | glo {a : Addr} {i : Nat} : κ a = .glo i → VR (.ref a) (.glo i)
  | clo {a c : Addr} {k : Nat} {o oc : Obj} {cl : List (Str × Addr)} {ms : List MV} : κ a = .frz o → κ c = .frz oc → C.isClo k o cl c oc → CRs cl ms → VR (.ref a) (.clo k ms)
inductive VRs : List Value → List MV → Prop
  | nil : VRs [] []
  | cons {v : Value} {m : MV} {vs : List Value} {ms : List MV} : VR v m → VRs vs ms → VRs (v :: vs) (m :: ms)
inductive DRs : List DictEntry → List (Str × MV) → Prop
  | nil : DRs [] []
  | cons {x : Str} {t : Tok} {v : Value} {m : MV} {es : List DictEntry} {ms : List (Str × MV)} : VR v m → DRs es ms → DRs (⟨PyData.keyHash C.w.params x, .str x t, v⟩ :: es) ((x, m) :: ms)
inductive PRs : List (Str × Value) → List (Str × MV) → Prop
  | nil : PRs [] []
  | cons {x : Str} {v : Value} {m : MV} {es : List (Str × Value)} {ms : List (Str × MV)} : VR v m → PRs es ms → PRs ((x, v) :: es) ((x, m) :: ms)
inductive CRs : List (Str × Addr) → List MV → Prop
  | nil : CRs [] []
  | cons {x : Str} {c : Addr} {o : Obj} {v : Value} {m : MV} {cl : List (Str × Addr)} {ms : List MV} : κ c = .frz o → o.data = .cell (some v) → VR v m → CRs cl ms → CRs ((x, c) :: cl) (m :: ms)
end
end
noncomputable def VInv (C : Ctx) (κ : Gh) (v : Value) : MV → Prop
  | .none => v = .none
  | .bool b => v = .bool b
  | .int i => ∃ t, v = .int i t
  | .str x => ∃ t, v = .str x t
  | .tup ms => ∃ a n vs, v = .ref a ∧ κ a = .frz (tupOf vs n) ∧ VRs C κ vs ms
  | .lst ms => ∃ a n vs, v = .ref a ∧ κ a = .frz (lstOf vs n) ∧ VRs C κ vs ms
  | .dct ms => ∃ a o kvs, v = .ref a ∧ κ a = .frz o ∧ o.IsDictOf (strKind C.prog C.w) kvs ∧ PRs C κ kvs ms
  | .obj c ms => ∃ a d n es, v = .ref a ∧ κ a = .frz (instObj (C.cAd c) d) ∧ κ d = .frz (dictOf es n) ∧ DRs C κ es ((flds c).zip ms) ∧ (flds c).length = ms.length
  | .glo i => ∃ a, v = .ref a ∧ κ a = .glo i
  | .clo k ms => ∃ a c o oc cl, v = .ref a ∧ κ a = .frz o ∧ κ c = .frz oc ∧ C.isClo k o cl c oc ∧ CRs C κ cl ms
theorem VR.inv {C : Ctx} {κ : Gh} {v : Value} {m : MV} (h : VR C κ v m) : VInv C κ v m := by
  cases h with
  | none => rfl
  | bool b => rfl
  | int i t => exact ⟨_, rfl⟩
  | str x t => exact ⟨_, rfl⟩
  | tup a b => exact ⟨_, _, _, rfl, a, b⟩
  | lst a b => exact ⟨_, _, _, rfl, a, b⟩
  | dct a b c => exact ⟨_, _, _, rfl, a, b, c⟩
  | obj a b c d => exact ⟨_, _, _, _, rfl, a, b, c, d⟩
  | glo a => exact ⟨_, rfl, a⟩
  | clo a b c d => exact ⟨_, _, _, _, _, rfl, a, b, c, d⟩
theorem VR.none_inv {C : Ctx} {κ : Gh} {v : Value} (h : VR C κ v .none) : v = .none := h.inv
theorem VR.bool_inv {C : Ctx} {κ : Gh} {v : Value} {b : Bool} (h : VR C κ v (.bool b)) : v = .bool b := h.inv
theorem VR.int_inv {C : Ctx} {κ : Gh} {v : Value} {i : Int} (h : VR C κ v (.int i)) : ∃ t, v = .int i t := h.inv
theorem VR.str_inv {C : Ctx} {κ : Gh} {v : Value} {x : Str} (h : VR C κ v (.str x)) : ∃ t, v = .str x t := h.inv
theorem VR.lst_inv {C : Ctx} {κ : Gh} {v : Value} {ms : List MV} (h : VR C κ v (.lst ms)) : ∃ a n vs, v = .ref a ∧ κ a = .frz (lstOf vs n) ∧ VRs C κ vs ms := h.inv
theorem VR.tup_inv {C : Ctx} {κ : Gh} {v : Value} {ms : List MV} (h : VR C κ v (.tup ms)) : ∃ a n vs, v = .ref a ∧ κ a = .frz (tupOf vs n) ∧ VRs C κ vs ms := h.inv
theorem VR.dct_inv {C : Ctx} {κ : Gh} {v : Value} {ms : List (Str × MV)} (h : VR C κ v (.dct ms)) : ∃ a o kvs, v = .ref a ∧ κ a = .frz o ∧ o.IsDictOf (strKind C.prog C.w) kvs ∧ PRs C κ kvs ms := h.inv
theorem VR.obj_inv {C : Ctx} {κ : Gh} {v : Value} {c : Nat} {ms : List MV} (h : VR C κ v (.obj c ms)) : ∃ a d n es, v = .ref a ∧ κ a = .frz (instObj (C.cAd c) d) ∧ κ d = .frz (dictOf es n) ∧ DRs C κ es ((flds c).zip ms) ∧ (flds c).length = ms.length := h.inv
theorem VR.glo_inv {C : Ctx} {κ : Gh} {v : Value} {i : Nat} (h : VR C κ v (.glo i)) : ∃ a, v = .ref a ∧ κ a = .glo i := h.inv
theorem VR.clo_inv {C : Ctx} {κ : Gh} {v : Value} {k : Nat} {ms : List MV} (h : VR C κ v (.clo k ms)) : ∃ a c o oc cl, v = .ref a ∧ κ a = .frz o ∧ κ c = .frz oc ∧ C.isClo k o cl c oc ∧ CRs C κ cl ms := h.inv
theorem VRs.ind {C : Ctx} {κ : Gh} {P : List Value → List MV → Prop} (h0 : P [] []) (h1 : ∀ {v m vs ms}, VR C κ v m → VRs C κ vs ms → P vs ms → P (v :: vs) (m :: ms)) {a : List Value} {b : List MV} (h : VRs C κ a b) : P a b :=
  VRs.rec (motive_1 := fun _ _ _ => True) (motive_2 := fun a b _ => P a b) (motive_3 := fun _ _ _ => True) (motive_4 := fun _ _ _ => True) (motive_5 := fun _ _ _ => True)
    trivial (fun _ => trivial) (fun _ _ => trivial) (fun _ _ => trivial) (fun _ _ _ => trivial) (fun _ _ _ => trivial) (fun _ _ _ _ => trivial) (fun _ _ _ _ _ => trivial) (fun _ => trivial) (fun _ _ _ _ _ => trivial)
    h0 (fun a r _ ih => h1 a r ih) trivial (fun _ _ _ _ => trivial) trivial (fun _ _ _ _ => trivial) trivial (fun _ _ _ _ _ _ => trivial) h
theorem DRs.ind {C : Ctx} {κ : Gh} {P : List DictEntry → List (Str × MV) → Prop} (h0 : P [] []) (h1 : ∀ {x t v m es ms}, VR C κ v m → DRs C κ es ms → P es ms → P (⟨PyData.keyHash C.w.params x, .str x t, v⟩ :: es) ((x, m) :: ms)) {a : List DictEntry} {b : List (Str × MV)} (h : DRs C κ a b) : P a b :=
  DRs.rec (motive_1 := fun _ _ _ => True) (motive_2 := fun _ _ _ => True) (motive_3 := fun a b _ => P a b) (motive_4 := fun _ _ _ => True) (motive_5 := fun _ _ _ => True)
    trivial (fun _ => trivial) (fun _ _ => trivial) (fun _ _ => trivial) (fun _ _ _ => trivial) (fun _ _ _ => trivial) (fun _ _ _ _ => trivial) (fun _ _ _ _ _ => trivial) (fun _ => trivial) (fun _ _ _ _ _ => trivial)
    trivial (fun _ _ _ _ => trivial) h0 (fun a r _ ih => h1 a r ih) trivial (fun _ _ _ _ => trivial) trivial (fun _ _ _ _ _ _ => trivial) h
theorem PRs.ind {C : Ctx} {κ : Gh} {P : List (Str × Value) → List (Str × MV) → Prop} (h0 : P [] []) (h1 : ∀ {x v m es ms}, VR C κ v m → PRs C κ es ms → P es ms → P ((x, v) :: es) ((x, m) :: ms)) {a : List (Str × Value)} {b : List (Str × MV)} (h : PRs C κ a b) : P a b :=
  PRs.rec (motive_1 := fun _ _ _ => True) (motive_2 := fun _ _ _ => True) (motive_3 := fun _ _ _ => True) (motive_4 := fun a b _ => P a b) (motive_5 := fun _ _ _ => True)
    trivial (fun _ => trivial) (fun _ _ => trivial) (fun _ _ => trivial) (fun _ _ _ => trivial) (fun _ _ _ => trivial) (fun _ _ _ _ => trivial) (fun _ _ _ _ _ => trivial) (fun _ => trivial) (fun _ _ _ _ _ => trivial)
    trivial (fun _ _ _ _ => trivial) trivial (fun _ _ _ _ => trivial) h0 (fun a r _ ih => h1 a r ih) trivial (fun _ _ _ _ _ _ => trivial) h
theorem CRs.ind {C : Ctx} {κ : Gh} {P : List (Str × Addr) → List MV → Prop} (h0 : P [] []) (h1 : ∀ {x c o v m cl ms}, κ c = .frz o → o.data = .cell (some v) → VR C κ v m → CRs C κ cl ms → P cl ms → P ((x, c) :: cl) (m :: ms)) {a : List (Str × Addr)} {b : List MV} (h : CRs C κ a b) : P a b :=
  CRs.rec (motive_1 := fun _ _ _ => True) (motive_2 := fun _ _ _ => True) (motive_3 := fun _ _ _ => True) (motive_4 := fun _ _ _ => True) (motive_5 := fun a b _ => P a b)
    trivial (fun _ => trivial) (fun _ _ => trivial) (fun _ _ => trivial) (fun _ _ _ => trivial) (fun _ _ _ => trivial) (fun _ _ _ _ => trivial) (fun _ _ _ _ _ => trivial) (fun _ => trivial) (fun _ _ _ _ _ => trivial)
    trivial (fun _ _ _ _ => trivial) trivial (fun _ _ _ _ => trivial) trivial (fun _ _ _ _ => trivial) h0 (fun a b c r _ ih => h1 a b c r ih) h
theorem VRs.cons_inv {C : Ctx} {κ : Gh} {vs : List Value} {m : MV} {ms : List MV} (h : VRs C κ vs (m :: ms)) : ∃ v ws, vs = v :: ws ∧ VR C κ v m ∧ VRs C κ ws ms := by
  cases h with | cons a b => exact ⟨_, _, rfl, a, b⟩
theorem VRs.nil_inv {C : Ctx} {κ : Gh} {vs : List Value} (h : VRs C κ vs []) : vs = [] := by cases h; rfl
theorem VRs.inv1 {C : Ctx} {κ : Gh} {vs : List Value} {a : MV} (h : VRs C κ vs [a]) : ∃ v, vs = [v] ∧ VR C κ v a := by
  obtain ⟨v, ws, rfl, x, y⟩ := h.cons_inv
  exact ⟨v, by rw [y.nil_inv], x⟩
theorem VRs.inv2 {C : Ctx} {κ : Gh} {vs : List Value} {a b : MV} (h : VRs C κ vs [a, b]) : ∃ v w, vs = [v, w] ∧ VR C κ v a ∧ VR C κ w b := by
  obtain ⟨v, ws, rfl, x, y⟩ := h.cons_inv
  obtain ⟨w, rfl, z⟩ := y.inv1
  exact ⟨v, w, rfl, x, z⟩
theorem VRs.inv3 {C : Ctx} {κ : Gh} {vs : List Value} {a b c : MV} (h : VRs C κ vs [a, b, c]) : ∃ v w u, vs = [v, w, u] ∧ VR C κ v a ∧ VR C κ w b ∧ VR C κ u c := by
  obtain ⟨v, ws, rfl, x, y⟩ := h.cons_inv
  obtain ⟨w, u, rfl, z, z'⟩ := y.inv2
  exact ⟨v, w, u, rfl, x, z, z'⟩
structure Le (κ κ' : Gh) : Prop where
  frz : ∀ a o, κ a = .frz o → κ' a = .frz o
  frn : ∀ a o, κ a = .frn o → κ' a = .frn o
  glo : ∀ a i, κ a = .glo i → κ' a = .glo i
theorem Le.refl (κ : Gh) : Le κ κ := ⟨fun _ _ e => e, fun _ _ e => e, fun _ _ e => e⟩
theorem Le.trans {κ κ' κ'' : Gh} (a : Le κ κ') (b : Le κ' κ'') : Le κ κ'' :=
  ⟨fun x o e => b.frz x o (a.frz x o e), fun x o e => b.frn x o (a.frn x o e), fun x i e => b.glo x i (a.glo x i e)⟩
structure LeV (κ κ' : Gh) : Prop where
  frz : ∀ a o, κ a = .frz o → κ' a = .frz o
  glo : ∀ a i, κ a = .glo i → κ' a = .glo i
theorem Le.v {κ κ' : Gh} (a : Le κ κ') : LeV κ κ' := ⟨a.frz, a.glo⟩
section
variable {C : Ctx} {κ κ' : Gh}
theorem VR.mono (l : LeV κ κ') {v : Value} {m : MV} (h : VR C κ v m) : VR C κ' v m :=
  VR.rec (motive_1 := fun v m _ => VR C κ' v m) (motive_2 := fun v m _ => VRs C κ' v m) (motive_3 := fun v m _ => DRs C κ' v m) (motive_4 := fun v m _ => PRs C κ' v m) (motive_5 := fun v m _ => CRs C κ' v m)
    .none .bool .int .str (fun h _ r => .tup (l.frz _ _ h) r) (fun h _ r => .lst (l.frz _ _ h) r) (fun h i _ r => .dct (l.frz _ _ h) i r) (fun h h' _ e r => .obj (l.frz _ _ h) (l.frz _ _ h') r e) (fun h => .glo (l.glo _ _ h)) (fun h h' i _ r => .clo (l.frz _ _ h) (l.frz _ _ h') i r)
    .nil (fun _ _ a b => .cons a b) .nil (fun _ _ a b => .cons a b) .nil (fun _ _ a b => .cons a b) .nil (fun h d _ _ a b => .cons (l.frz _ _ h) d a b) h
theorem VRs.mono (l : LeV κ κ') {v : List Value} {m : List MV} (h : VRs C κ v m) : VRs C κ' v m :=
  VRs.rec (motive_1 := fun v m _ => VR C κ' v m) (motive_2 := fun v m _ => VRs C κ' v m) (motive_3 := fun v m _ => DRs C κ' v m) (motive_4 := fun v m _ => PRs C κ' v m) (motive_5 := fun v m _ => CRs C κ' v m)
    .none .bool .int .str (fun h _ r => .tup (l.frz _ _ h) r) (fun h _ r => .lst (l.frz _ _ h) r) (fun h i _ r => .dct (l.frz _ _ h) i r) (fun h h' _ e r => .obj (l.frz _ _ h) (l.frz _ _ h') r e) (fun h => .glo (l.glo _ _ h)) (fun h h' i _ r => .clo (l.frz _ _ h) (l.frz _ _ h') i r)
    .nil (fun _ _ a b => .cons a b) .nil (fun _ _ a b => .cons a b) .nil (fun _ _ a b => .cons a b) .nil (fun h d _ _ a b => .cons (l.frz _ _ h) d a b) h
theorem DRs.mono (l : LeV κ κ') {v : List DictEntry} {m : List (Str × MV)} (h : DRs C κ v m) : DRs C κ' v m :=
  DRs.rec (motive_1 := fun v m _ => VR C κ' v m) (motive_2 := fun v m _ => VRs C κ' v m) (motive_3 := fun v m _ => DRs C κ' v m) (motive_4 := fun v m _ => PRs C κ' v m) (motive_5 := fun v m _ => CRs C κ' v m)
    .none .bool .int .str (fun h _ r => .tup (l.frz _ _ h) r) (fun h _ r => .lst (l.frz _ _ h) r) (fun h i _ r => .dct (l.frz _ _ h) i r) (fun h h' _ e r => .obj (l.frz _ _ h) (l.frz _ _ h') r e) (fun h => .glo (l.glo _ _ h)) (fun h h' i _ r => .clo (l.frz _ _ h) (l.frz _ _ h') i r)
    .nil (fun _ _ a b => .cons a b) .nil (fun _ _ a b => .cons a b) .nil (fun _ _ a b => .cons a b) .nil (fun h d _ _ a b => .cons (l.frz _ _ h) d a b) h
theorem PRs.mono (l : LeV κ κ') {v : List (Str × Value)} {m : List (Str × MV)} (h : PRs C κ v m) : PRs C κ' v m :=
  PRs.rec (motive_1 := fun v m _ => VR C κ' v m) (motive_2 := fun v m _ => VRs C κ' v m) (motive_3 := fun v m _ => DRs C κ' v m) (motive_4 := fun v m _ => PRs C κ' v m) (motive_5 := fun v m _ => CRs C κ' v m)
    .none .bool .int .str (fun h _ r => .tup (l.frz _ _ h) r) (fun h _ r => .lst (l.frz _ _ h) r) (fun h i _ r => .dct (l.frz _ _ h) i r) (fun h h' _ e r => .obj (l.frz _ _ h) (l.frz _ _ h') r e) (fun h => .glo (l.glo _ _ h)) (fun h h' i _ r => .clo (l.frz _ _ h) (l.frz _ _ h') i r)
    .nil (fun _ _ a b => .cons a b) .nil (fun _ _ a b => .cons a b) .nil (fun _ _ a b => .cons a b) .nil (fun h d _ _ a b => .cons (l.frz _ _ h) d a b) h
theorem CRs.mono (l : LeV κ κ') {v : List (Str × Addr)} {m : List MV} (h : CRs C κ v m) : CRs C κ' v m :=
  CRs.rec (motive_1 := fun v m _ => VR C κ' v m) (motive_2 := fun v m _ => VRs C κ' v m) (motive_3 := fun v m _ => DRs C κ' v m) (motive_4 := fun v m _ => PRs C κ' v m) (motive_5 := fun v m _ => CRs C κ' v m)
    .none .bool .int .str (fun h _ r => .tup (l.frz _ _ h) r) (fun h _ r => .lst (l.frz _ _ h) r) (fun h i _ r => .dct (l.frz _ _ h) i r) (fun h h' _ e r => .obj (l.frz _ _ h) (l.frz _ _ h') r e) (fun h => .glo (l.glo _ _ h)) (fun h h' i _ r => .clo (l.frz _ _ h) (l.frz _ _ h') i r)
    .nil (fun _ _ a b => .cons a b) .nil (fun _ _ a b => .cons a b) .nil (fun _ _ a b => .cons a b) .nil (fun h d _ _ a b => .cons (l.frz _ _ h) d a b) h
end
inductive GV where
  | d (ms : List (Str × MV))
  | t (grown : Bool)
noncomputable abbrev Gst := List GV
noncomputable def GloR (C : Ctx) (κ : Gh) (o : Obj) : GV → Prop
  | .d ms => ∃ kvs, o.IsDictOf (strKind C.prog C.w) kvs ∧ PRs C κ kvs ms
  | .t b => ∃ ps : Array Value, o = { cls := .none, data := .fields ps } ∧ (b = false → ps = #[])
theorem GloR.mono {C : Ctx} {κ κ' : Gh} {o : Obj} (l : LeV κ κ') : ∀ {gv : GV}, GloR C κ o gv → GloR C κ' o gv
  | .d _, ⟨kvs, p, q⟩ => ⟨kvs, p, q.mono l⟩
  | .t _, ⟨ps, p⟩ => ⟨ps, p⟩
structure InvG (C : Ctx) (κ : Gh) (G : Gst) (h : Heap) : Prop where
  base : ∀ a o, C.h₀.get? a = some o → κ a = .frn o
  frz : ∀ a o, κ a = .frz o → h.get? a = some o
  frn : ∀ a o, κ a = .frn o → h.get? a = some o
  glo : ∀ a i, κ a = .glo i → ∃ o gv, h.get? a = some o ∧ G[i]? = some gv ∧ GloR C κ o gv
  al : ∀ a, κ a ≠ .no → ∃ o, h.get? a = some o
  gi : (∀ a b i, κ a = .glo i → κ b = .glo i → a = b) ∧ ∀ q ∈ C.tabs, κ q.1 = .glo q.2
theorem InvG.lt {C : Ctx} {κ : Gh} {G : Gst} {h : Heap} (I : InvG C κ G h) : ∀ a, κ a ≠ .no → a < h.objs.size := fun a e => let ⟨_, ho⟩ := I.al a e; Heap.lt_size ho
noncomputable def Kept (κ κ' : Gh) (h h' : Heap) : Prop := ∀ a, (κ a).own = true → κ' a = κ a ∧ h'.get? a = h.get? a
theorem Kept.refl (κ : Gh) (h : Heap) : Kept κ κ h h := fun _ _ => ⟨rfl, rfl⟩
theorem Kept.trans {κ κ' κ'' : Gh} {h h' h'' : Heap} (a : Kept κ κ' h h') (b : Kept κ' κ'' h' h'') : Kept κ κ'' h h'' := fun x e =>
  let p := a x e
  let q := b x (by rw [p.1]; exact e)
  ⟨q.1.trans p.1, q.2.trans p.2⟩
theorem InvG.keep {C : Ctx} {κ : Gh} {G : Gst} {h : Heap} (I : InvG C κ G h) : ∀ b o, C.h₀.get? b = some o → h.get? b = some o := fun b o e => I.frn b o (I.base b o e)
noncomputable def put (κ : Gh) (a : Addr) (k : Knd) : Gh := fun b => if b = a then k else κ b
theorem put_self (κ : Gh) (a : Addr) (k : Knd) : put κ a k a = k := by simp [put]
theorem put_ne (κ : Gh) {a b : Addr} (k : Knd) (h : b ≠ a) : put κ a k b = κ b := by simp [put, h]
theorem InvG.free {C : Ctx} {κ : Gh} {G : Gst} {h : Heap} (I : InvG C κ G h) : κ h.objs.size = .no := by
  cases e : κ h.objs.size with
  | no => rfl
  | _ => exact absurd (I.lt _ (by rw [e]; simp)) (Nat.lt_irrefl _)
theorem Le.put {κ : Gh} {a : Addr} (k : Knd) (h : κ a = .no) : Le κ (put κ a k) := by
  refine ⟨fun b o e => ?_, fun b o e => ?_, fun b o e => ?_⟩ <;>
  · have : b ≠ a := by rintro rfl; rw [h] at e; cases e
    rw [put_ne _ _ this]; exact e
theorem Kept.put {κ : Gh} {a : Addr} {h : Heap} (k : Knd) (o : Obj) (e : κ a = .no) (lt : ∀ a, κ a ≠ .no → a < h.objs.size) : Kept κ (put κ a k) h (h.push o) := fun b hb => by
  have : b ≠ a := by rintro rfl; rw [e] at hb; cases hb
  refine ⟨put_ne _ _ this, ?_⟩
  have hlt := lt b (by intro z; rw [z] at hb; cases hb)
  unfold Heap.get? Heap.push
  simp [Array.getElem?_push, Nat.ne_of_lt hlt]
theorem InvG.push {C : Ctx} {κ : Gh} {G : Gst} {h : Heap} (I : InvG C κ G h) {o : Obj} {k : Knd} (hf : o.isFreed = false) (hk : (∀ o', k = .frz o' → o' = o) ∧ (∀ o', k = .frn o' → o' = o) ∧ (∀ i, k ≠ .glo i)) :
    InvG C (put κ h.objs.size k) G (h.push o) := by
  have hn := I.free
  refine ⟨fun a o' e => ?_, fun a o' e => ?_, fun a o' e => ?_, fun a i e => ?_, fun a e => ?_, fun a b i e e' => ?_, fun q hq => (Le.put _ hn).glo _ _ (I.gi.2 q hq)⟩
  · have := I.base a o' e
    have ne : a ≠ h.objs.size := by rintro rfl; rw [hn] at this; cases this
    rw [put_ne _ _ ne]; exact this
  · by_cases ne : a = h.objs.size
    · subst ne; rw [put_self] at e; rw [hk.1 o' e]; exact Heap.get?_push_size h hf
    · rw [put_ne _ _ ne] at e; exact Heap.get?_push_of_some _ (I.frz a o' e)
  · by_cases ne : a = h.objs.size
    · subst ne; rw [put_self] at e; rw [hk.2.1 o' e]; exact Heap.get?_push_size h hf
    · rw [put_ne _ _ ne] at e; exact Heap.get?_push_of_some _ (I.frn a o' e)
  · by_cases ne : a = h.objs.size
    · subst ne; rw [put_self] at e; exact absurd e (hk.2.2 i)
    · rw [put_ne _ _ ne] at e
      obtain ⟨o₁, gv, a1, a2, a3⟩ := I.glo a i e
      exact ⟨o₁, gv, Heap.get?_push_of_some _ a1, a2, a3.mono (Le.put _ hn).v⟩
  · by_cases ne : a = h.objs.size
    · subst ne; exact ⟨o, Heap.get?_push_size h hf⟩
    · rw [put_ne _ _ ne] at e
      obtain ⟨o', ho⟩ := I.al a e
      exact ⟨o', Heap.get?_push_of_some _ ho⟩
  · have na : a ≠ h.objs.size := by rintro rfl; rw [put_self] at e; exact hk.2.2 i e
    have nb : b ≠ h.objs.size := by rintro rfl; rw [put_self] at e'; exact hk.2.2 i e'
    rw [put_ne _ _ na] at e; rw [put_ne _ _ nb] at e'
    exact I.gi.1 a b i e e'
end Mine
end

section
namespace Mine
open PySem PySem.Calls PyProof.Rows PySem.W
inductive Slot where
  | un
  | val (m : MV)
  | ownL (l : List MV)
  | ownD (l : List (Str × MV))
structure Frm where
  scope : Scope
  xs : List Str
  top : Bool
  code : Value
noncomputable abbrev Ab := List Slot × Gst
section
variable (C : Ctx) (κ : Gh) (h : Heap)
noncomputable def SlotR (ov : Option Value) (x : Str) : Slot → Prop
  | .un => True
  | .val mv => ∃ v, ov = some v ∧ VR C κ v mv
  | .ownL l => ∃ a vs n, ov = some (.ref a) ∧ κ a = .slot x ∧ h.get? a = some (lstOf vs n) ∧ VRs C κ vs l
  | .ownD l => ∃ a o kvs, ov = some (.ref a) ∧ κ a = .slot x ∧ h.get? a = some o ∧ o.IsDictOf (strKind C.prog C.w) kvs ∧ PRs C κ kvs l
end
structure InvF (C : Ctx) (Γ : Frm) (κ : Gh) (env : Env) (m : Str → Option Value) (ρ : List Slot) (h : Heap) : Prop where
  scope : env.scope = Γ.scope
  fn : Γ.scope.kind = .function
  gl : env.globals = mainGlobals ∧ (Γ.code = .none ∨ env.code = Γ.code)
  bi : env.builtins = builtinsNs
  nd : Γ.xs.Nodup
  kloc : κ env.locals = .loc
  ns : ∃ ml, h.Ns env.locals ml ∧ ∀ x, env.kindOf x = some .local → ml x = m x
  cel : ∀ x, (env.kindOf x = some .cell ∨ env.kindOf x = some .free) → ∃ c, env.cells.lookup x = some c ∧ h.IsCell c (m x) ∧ (κ c = .cell x ∨ ∃ o, κ c = .frn o ∨ κ c = .frz o)
  own : Γ.top = true → ∀ x c, env.kindOf x = some .cell → env.cells.lookup x = some c → κ c = .cell x
  len : ρ.length = Γ.xs.length
  slots : ∀ (i : Nat) (x : Str) (s : Slot), Γ.xs[i]? = some x → ρ[i]? = some s → SlotR C κ h (m x) x s
structure Inv (C : Ctx) (Γ : Frm) (κ : Gh) (env : Env) (m : Str → Option Value) (ab : Ab) (h : Heap) : Prop where
  g : InvG C κ ab.2 h
  f : InvF C Γ κ env m ab.1 h
section
variable {C : Ctx} {Γ : Frm} {κ κ' : Gh} {env : Env} {m : Str → Option Value} {ρ : List Slot} {G G' : Gst} {h h' : Heap}
theorem SlotR.keep {ov : Option Value} {x : Str} (l : LeV κ κ') (k : Kept κ κ' h h') : ∀ {s : Slot}, SlotR C κ h ov x s → SlotR C κ' h' ov x s
  | .un, _ => trivial
  | .val _, ⟨v, a, b⟩ => ⟨v, a, b.mono l⟩
  | .ownL _, ⟨a, vs, n, e, q, g, r⟩ => let z := k a (by rw [q]; rfl); ⟨a, vs, n, e, z.1.trans q, z.2.trans g, r.mono l⟩
  | .ownD _, ⟨a, vs, n, e, q, g, d, r⟩ => let z := k a (by rw [q]; rfl); ⟨a, vs, n, e, z.1.trans q, z.2.trans g, d, r.mono l⟩
theorem isCell_same {c : Addr} {v : Option Value} (x : h.IsCell c v) (e : h'.get? c = h.get? c) : h'.IsCell c v := by
  obtain ⟨o, ho, hd⟩ := x
  exact ⟨o, e.trans ho, hd⟩
theorem ns_same {a : Addr} {ml : Str → Option Value} (x : h.Ns a ml) (e : h'.get? a = h.get? a) : h'.Ns a ml := by
  obtain ⟨o, es, ep, ho, r⟩ := x
  exact ⟨o, es, ep, e.trans ho, r⟩
theorem InvF.keep (F : InvF C Γ κ env m ρ h) (I : InvG C κ G h) (I' : InvG C κ' G' h') (l : Le κ κ') (k : Kept κ κ' h h') : InvF C Γ κ' env m ρ h' := by
  have zl := k env.locals (by rw [F.kloc]; rfl)
  refine ⟨F.scope, F.fn, F.gl, F.bi, F.nd, zl.1.trans F.kloc, ?_, fun x hx => ?_, fun ht x c e e' => ?_, F.len, fun i x s e e' => (F.slots i x s e e').keep l.v k⟩
  · obtain ⟨ml, a, b⟩ := F.ns
    exact ⟨ml, ns_same a zl.2, b⟩
  · obtain ⟨c, a, b, d⟩ := F.cel x hx
    refine ⟨c, a, ?_, ?_⟩
    · rcases d with d | ⟨o, d | d⟩
      · exact isCell_same b (k c (by rw [d]; rfl)).2
      · exact isCell_same b ((I'.frn c o (l.frn c o d)).trans (I.frn c o d).symm)
      · exact isCell_same b ((I'.frz c o (l.frz c o d)).trans (I.frz c o d).symm)
    · rcases d with d | ⟨o, d | d⟩
      · exact .inl ((k c (by rw [d]; rfl)).1.trans d)
      · exact .inr ⟨o, .inl (l.frn c o d)⟩
      · exact .inr ⟨o, .inr (l.frz c o d)⟩
  · have := F.own ht x c e e'
    exact (k c (by rw [this]; rfl)).1.trans this
theorem Inv.keep (I : Inv C Γ κ env m (ρ, G) h) (I' : InvG C κ' G' h') (l : Le κ κ') (k : Kept κ κ' h h') : Inv C Γ κ' env m (ρ, G') h' := ⟨I', I.f.keep I.g I' l k⟩
noncomputable def gv9 (i : Nat) (ab : Ab) : Option (MV × Ab) := match ab.1[i]? with
  | some (.val m) => some (m, ab)
  | some (.ownL l) => some (.lst l, ab.1.set i (.val (.lst l)), ab.2)
  | some (.ownD l) => some (.dct l, ab.1.set i (.val (.dct l)), ab.2)
  | _ => none
theorem freeze (I : Inv C Γ κ env m (ρ, G) h) {i : Nat} {x : Str} {a : Addr} {o : Obj} {s : Slot} (hx : Γ.xs[i]? = some x) (hk : κ a = .slot x) (ho : h.get? a = some o)
    (hm : m x = some (.ref a)) (hs : SlotR C (put κ a (.frz o)) h (m x) x s) : Le κ (put κ a (.frz o)) ∧ Inv C Γ (put κ a (.frz o)) env m (ρ.set i s, G) h := by
  have l : Le κ (put κ a (.frz o)) := by
    refine ⟨fun b o e => ?_, fun b o e => ?_, fun b o e => ?_⟩ <;>
    · have : b ≠ a := by rintro rfl; rw [hk] at e; cases e
      rw [put_ne _ _ this]; exact e
  have ne : ∀ {b : Addr} {k : Knd}, κ b = k → k ≠ .slot x → put κ a (.frz o) b = k := fun {b k} e n => by
    have : b ≠ a := by rintro rfl; exact n (e.symm.trans hk)
    rw [put_ne _ _ this]; exact e
  refine ⟨l, ⟨⟨fun b o' e => ne (I.g.base b o' e) (by simp), fun b o' e => ?_, fun b o' e => ?_, fun b j e => ?_, fun b e => ?_, fun b b' j e e' => ?_, fun q hq => l.glo _ _ (I.g.gi.2 q hq)⟩, ?_⟩⟩
  · by_cases q : b = a
    · subst q; rw [put_self] at e; cases e; exact ho
    · rw [put_ne _ _ q] at e; exact I.g.frz b o' e
  · by_cases q : b = a
    · subst q; rw [put_self] at e; cases e
    · rw [put_ne _ _ q] at e; exact I.g.frn b o' e
  · by_cases q : b = a
    · subst q; rw [put_self] at e; cases e
    · rw [put_ne _ _ q] at e
      obtain ⟨es, gv, a1, a2, a3⟩ := I.g.glo b j e
      exact ⟨es, gv, a1, a2, a3.mono l.v⟩
  · by_cases q : b = a
    · subst q; exact I.g.al b (by rw [hk]; simp)
    · rw [put_ne _ _ q] at e; exact I.g.al b e
  · have na : b ≠ a := by rintro rfl; rw [put_self] at e; cases e
    have nb : b' ≠ a := by rintro rfl; rw [put_self] at e'; cases e'
    rw [put_ne _ _ na] at e; rw [put_ne _ _ nb] at e'
    exact I.g.gi.1 b b' j e e'
  · have F := I.f
    refine ⟨F.scope, F.fn, F.gl, F.bi, F.nd, ne F.kloc (by simp), F.ns, fun y hy => ?_, fun ht y c e e' => ne (F.own ht y c e e') (by simp), by rw [List.length_set]; exact F.len, fun j y s' e e' => ?_⟩
    · obtain ⟨c, p, q, d⟩ := F.cel y hy
      refine ⟨c, p, q, ?_⟩
      rcases d with d | ⟨o', d | d⟩
      · exact .inl (ne d (by simp))
      · exact .inr ⟨o', .inl (ne d (by simp))⟩
      · exact .inr ⟨o', .inr (ne d (by simp))⟩
    · by_cases q : i = j
      · subst q
        rw [hx] at e; cases e
        rw [List.getElem?_set_self'] at e'
        cases hq : ρ[i]? with
        | none => rw [hq] at e'; exact ns9 e'
        | some s₀ => rw [hq] at e'; cases e'; exact hs
      · rw [List.getElem?_set_ne q] at e'
        have xy : y ≠ x := by
          rintro rfl
          exact q ((List.getElem?_inj (List.getElem?_eq_some_iff.mp hx).1 F.nd).mp (hx.trans e.symm))
        have z := F.slots j y s' e e'
        cases s' with
        | un => trivial
        | val mv => obtain ⟨v, a1, a2⟩ := z; exact ⟨v, a1, a2.mono l.v⟩
        | ownL ls => obtain ⟨b, vs, n, a1, a2, a3, a4⟩ := z; exact ⟨b, vs, n, a1, ne a2 (by simp [xy]), a3, a4.mono l.v⟩
        | ownD ls => obtain ⟨b, vs, n, a1, a2, a3, a4, a5⟩ := z; exact ⟨b, vs, n, a1, ne a2 (by simp [xy]), a3, a4, a5.mono l.v⟩
end
structure Room (A : Around) (d : Nat) : Prop where
  depth : A.depth + 4 * d + 4 < recursionLimit
  units : A.units + 40 * d + 200 < cLine
  hh : A.handled = none
theorem Room.le {A : Around} {d d' : Nat} (r : Room A d) (l : d' ≤ d) : Room A d' := ⟨by have := r.depth; lia, by have := r.units; lia, r.hh⟩
noncomputable def SE (C : Ctx) (Γ : Frm) (d : Nat) (e : Expr) (f : Ab → Option (MV × Ab)) : Prop :=
  ∀ ⦃A : Around⦄ ⦃env : Env⦄ ⦃κ : Gh⦄ ⦃m : Str → Option Value⦄ ⦃ab ab' : Ab⦄ ⦃s : Shared⦄ ⦃r : MV⦄ ⦃Q : Value → Shared → Prop⦄ ⦃E : Value → Shared → Prop⦄,
    Room A d → Inv C Γ κ env m ab s.heap → f ab = some (r, ab') →
    (∀ v h' t' κ', Le κ κ' → VR C κ' v r → Inv C Γ κ' env m ab' h' → Q v { s with heap := h', toks := t' }) →
    wpAny (model C.prog C.w) A (eval e env) Q E s
theorem load_slot {C : Ctx} {Γ : Frm} {κ : Gh} {env : Env} {m : Str → Option Value} {ab : Ab} {A : Around} {M : Model} {s : Shared} {x : Str} {v : Value} {Q : Value → Shared → Prop} {E : Value → Shared → Prop}
    (I : Inv C Γ κ env m ab s.heap) (hk : Γ.scope.names.lookup x = some .local ∨ Γ.scope.names.lookup x = some .cell ∨ Γ.scope.names.lookup x = some .free) (hm : m x = some v) (h : Q v s)
    (hn : (x == ("__classdict__" : Str)) = false := by decide) :
    wpAny M A (loadName env x) Q E s := by
  have F := I.f
  have hfn : env.scope.kind = .function := by rw [F.scope]; exact F.fn
  have ek : ∀ k, Γ.scope.names.lookup x = some k → env.kindOf x = some k := fun k e => by unfold Env.kindOf; rw [F.scope]; exact e
  rcases hk with hk | hk | hk
  · obtain ⟨ml, a, b⟩ := F.ns
    exact wpAny_loadName_local hfn (ek _ hk) a ((b x (ek _ hk)).trans hm) h
  · obtain ⟨c, a, b, _⟩ := F.cel x (.inl (ek _ hk))
    exact wpAny_loadName_cell hfn (ek _ hk) a (hm ▸ b) h
  · obtain ⟨c, a, b, _⟩ := F.cel x (.inr (ek _ hk))
    exact wpAny_loadName_free hfn (ek _ hk) a (hm ▸ b) h hn
theorem sn9 {C : Ctx} {Γ : Frm} {d : Nat} {x : Str} {pos : Pos} {i : Nat} (hi : Γ.xs[i]? = some x)
    (hk : Γ.scope.names.lookup x = some .local ∨ Γ.scope.names.lookup x = some .cell ∨ Γ.scope.names.lookup x = some .free)
    (hd : (x == ("__debug__" : Str)) = false) (hn : (x == ("__classdict__" : Str)) = false) : SE C Γ d (.Name x pos) (gv9 i) := by
  intro A env κ m ab ab' s r Q E R I hf h
  obtain ⟨ρ, G⟩ := ab
  unfold gv9 at hf
  split at hf
  · rename_i mv e
    cases hf
    obtain ⟨v, hm, hv⟩ := I.f.slots i x _ hi e
    exact wpAny_Name (load_slot I hk hm (h v s.heap s.toks κ (Le.refl κ) hv I) hn) hd
  · rename_i l e
    cases hf
    obtain ⟨a, vs, n, hm, hka, ho, hv⟩ := I.f.slots i x _ hi e
    have hv' : VR C (put κ a (.frz (lstOf vs n))) (.ref a) (.lst l) := .lst (put_self ..) (hv.mono ⟨fun b o e => by
      have : b ≠ a := by rintro rfl; rw [hka] at e; cases e
      rw [put_ne _ _ this]; exact e, fun b o e => by
      have : b ≠ a := by rintro rfl; rw [hka] at e; cases e
      rw [put_ne _ _ this]; exact e⟩)
    obtain ⟨l', I'⟩ := freeze I (s := .val (.lst l)) hi hka ho hm ⟨_, hm, hv'⟩
    exact wpAny_Name (load_slot I hk hm (h _ s.heap s.toks _ l' hv' I') hn) hd
  · rename_i l e
    cases hf
    obtain ⟨a, o, kvs, hm, hka, ho, hdd, hv⟩ := I.f.slots i x _ hi e
    have hv' : VR C (put κ a (.frz o)) (.ref a) (.dct l) := .dct (put_self ..) hdd (hv.mono ⟨fun b o e => by
      have : b ≠ a := by rintro rfl; rw [hka] at e; cases e
      rw [put_ne _ _ this]; exact e, fun b o e => by
      have : b ≠ a := by rintro rfl; rw [hka] at e; cases e
      rw [put_ne _ _ this]; exact e⟩)
    obtain ⟨l', I'⟩ := freeze I (s := .val (.dct l)) hi hka ho hm ⟨_, hm, hv'⟩
    exact wpAny_Name (load_slot I hk hm (h _ s.heap s.toks _ l' hv' I') hn) hd
  · exact ns9 hf
end Mine
end

section
namespace Mine
open PySem PySem.Calls PyProof.Rows PySem.W
theorem InvG.own {C : Ctx} {κ : Gh} {G : Gst} {h h' : Heap} {a : Addr} (I : InvG C κ G h) (hk : (κ a).own = true) (hs : Heap.SameBut a h h') (ha : ∃ o, h'.get? a = some o) : InvG C κ G h' := by
  have ne : ∀ {b : Addr} {k : Knd}, κ b = k → k.own = false → b ≠ a := fun {b k} e n => by
    rintro rfl; rw [e, n] at hk; cases hk
  refine ⟨I.base, fun b o e => (hs.2 b (ne e rfl)).trans (I.frz b o e), fun b o e => (hs.2 b (ne e rfl)).trans (I.frn b o e), fun b i e => ?_, fun b e => ?_, I.gi⟩
  · obtain ⟨o₁, gv, a1, a2⟩ := I.glo b i e
    exact ⟨o₁, gv, (hs.2 b (ne e rfl)).trans a1, a2⟩
  · by_cases q : b = a
    · subst q; exact ha
    · rw [hs.2 b q]; exact I.al b e
section
variable {C : Ctx} {Γ : Frm} {κ : Gh} {env : Env} {m : Str → Option Value} {ρ : List Slot} {G : Gst} {h h' : Heap}
theorem SlotR.but {ov : Option Value} {x : Str} {a : Addr} (hs : Heap.SameBut a h h') (hk : ∀ y, κ a ≠ .slot y) : ∀ {s : Slot}, SlotR C κ h ov x s → SlotR C κ h' ov x s
  | .un, _ => trivial
  | .val _, ⟨v, a, b⟩ => ⟨v, a, b⟩
  | .ownL _, ⟨b, vs, n, e, q, g, r⟩ => ⟨b, vs, n, e, q, (hs.2 b (by rintro rfl; exact hk x q)).trans g, r⟩
  | .ownD _, ⟨b, vs, n, e, q, g, r⟩ => ⟨b, vs, n, e, q, (hs.2 b (by rintro rfl; exact hk x q)).trans g, r⟩
theorem slots_set {v : Value} {i : Nat} {x : Str} {s : Slot} (F : InvF C Γ κ env m ρ h) {a : Addr} (hs : Heap.SameBut a h h') (hk : ∀ y, κ a ≠ .slot y) (hx : Γ.xs[i]? = some x) (hr : SlotR C κ h (some v) x s) :
    ∀ (j : Nat) (y : Str) (s' : Slot), Γ.xs[j]? = some y → (ρ.set i s)[j]? = some s' → SlotR C κ h' (if y = x then some v else m y) y s' := by
  intro j y s' e e'
  by_cases q : i = j
  · subst q
    rw [hx] at e; cases e
    rw [List.getElem?_set_self'] at e'
    cases hq : ρ[i]? with
    | none => rw [hq] at e'; exact ns9 e'
    | some s₀ => rw [hq] at e'; cases e'; rw [if_pos rfl]; exact hr.but hs hk
  · rw [List.getElem?_set_ne q] at e'
    have xy : y ≠ x := by
      rintro rfl
      exact q ((List.getElem?_inj (List.getElem?_eq_some_iff.mp hx).1 F.nd).mp (hx.trans e.symm))
    rw [if_neg xy]
    exact (F.slots j y s' e e').but hs hk
theorem store_slot {A : Around} {M : Model} {s : Shared} {x : Str} {v : Value} {i : Nat} {sl : Slot} {Q : Unit → Shared → Prop} {E : Value → Shared → Prop}
    (I : Inv C Γ κ env m (ρ, G) s.heap) (hx : Γ.xs[i]? = some x) (hk : Γ.scope.names.lookup x = some .local ∨ (Γ.scope.names.lookup x = some .cell ∧ Γ.top = true)) (hr : SlotR C κ s.heap (some v) x sl)
    (h : ∀ m' h' t', Inv C Γ κ env m' (ρ.set i sl, G) h' → (m' x = some v ∧ ∀ y, y ≠ x → m' y = m y) → Q () { s with heap := h', toks := t' }) :
    wpAny M A (storeName env x v) Q E s := by
  have F := I.f
  have hfn : env.scope.kind = .function := by rw [F.scope]; exact F.fn
  have ek : ∀ k, Γ.scope.names.lookup x = some k → env.kindOf x = some k := fun k e => by unfold Env.kindOf; rw [F.scope]; exact e
  rcases hk with hk | ⟨hk, ht⟩
  · obtain ⟨ml, a, b⟩ := F.ns
    refine wpAny_storeName_local (ek _ hk) a (fun h' hn hs => h (fun y => if y = x then some v else m y) h' _ ⟨I.g.own (by rw [F.kloc]; rfl) hs (let ⟨_, _, _, ho, _⟩ := hn; ⟨_, ho⟩), ?_⟩ ⟨if_pos rfl, fun y q => if_neg q⟩) (by rw [hfn]; rfl)
    refine ⟨F.scope, F.fn, F.gl, F.bi, F.nd, F.kloc, ⟨_, hn, fun y hy => ?_⟩, fun y hy => ?_, F.own, by rw [List.length_set]; exact F.len, slots_set F hs (by rw [F.kloc]; simp) hx hr⟩
    · by_cases q : y = x
      · simp [q]
      · simp only [if_neg q]; exact b y hy
    · obtain ⟨c, p, q, d⟩ := F.cel y hy
      have yx : y ≠ x := by rintro rfl; rw [ek _ hk] at hy; rcases hy with hy | hy <;> cases hy
      refine ⟨c, p, ?_, d⟩
      rw [if_neg yx]
      refine isCell_same q (hs.2 c ?_)
      rintro rfl
      rw [F.kloc] at d
      rcases d with d | ⟨o, d | d⟩ <;> cases d
  · obtain ⟨c, p, q, d⟩ := F.cel x (.inl (ek _ hk))
    have kc := F.own ht x c (ek _ hk) p
    refine wpAny_storeName_cell hfn (ek _ hk) p q (fun h' hc hs => h (fun y => if y = x then some v else m y) h' s.toks ⟨I.g.own (by rw [kc]; rfl) hs (let ⟨_, ho, _⟩ := hc; ⟨_, ho⟩), ?_⟩ ⟨if_pos rfl, fun y q => if_neg q⟩)
    obtain ⟨ml, a, b⟩ := F.ns
    refine ⟨F.scope, F.fn, F.gl, F.bi, F.nd, F.kloc, ⟨ml, ns_same a (hs.2 _ ?_), fun y hy => ?_⟩, fun y hy => ?_, F.own, by rw [List.length_set]; exact F.len, slots_set F hs (by rw [kc]; simp) hx hr⟩
    · intro z; have := F.kloc; rw [z, kc] at this; cases this
    · have yx : y ≠ x := by rintro rfl; rw [ek _ hk] at hy; cases hy
      rw [if_neg yx]; exact b y hy
    · by_cases yx : y = x
      · subst yx
        exact ⟨c, p, by rw [if_pos rfl]; exact hc, d⟩
      · obtain ⟨c', p', q', d'⟩ := F.cel y hy
        refine ⟨c', p', ?_, d'⟩
        rw [if_neg yx]
        refine isCell_same q' (hs.2 c' ?_)
        rintro rfl
        rw [kc] at d'
        rcases d' with d' | ⟨o, d' | d'⟩
        · cases d'; exact yx rfl
        · cases d'
        · cases d'
end
inductive Fl where
  | nxt
  | ret (m : MV)
noncomputable def FlR (C : Ctx) (κ : Gh) : Flow → Fl → Prop
  | .next, .nxt => True
  | .ret v, .ret m => VR C κ v m
  | _, _ => False
noncomputable def SS (C : Ctx) (Γ : Frm) (d : Nat) (e : Stmt) (f : Ab → Option (Fl × Ab)) : Prop :=
  ∀ ⦃A : Around⦄ ⦃env : Env⦄ ⦃κ : Gh⦄ ⦃m : Str → Option Value⦄ ⦃ab ab' : Ab⦄ ⦃s : Shared⦄ ⦃r : Fl⦄ ⦃Q : Flow → Shared → Prop⦄ ⦃E : Value → Shared → Prop⦄,
    Room A d → Inv C Γ κ env m ab s.heap → f ab = some (r, ab') →
    (∀ v m' h' t' κ', Le κ κ' → FlR C κ' v r → Inv C Γ κ' env m' ab' h' → Q v { s with heap := h', toks := t' }) →
    wpAny (model C.prog C.w) A (exec e env) Q E s
noncomputable def SSs (C : Ctx) (Γ : Frm) (d : Nat) (e : List Stmt) (f : Ab → Option (Fl × Ab)) : Prop :=
  ∀ ⦃A : Around⦄ ⦃env : Env⦄ ⦃κ : Gh⦄ ⦃m : Str → Option Value⦄ ⦃ab ab' : Ab⦄ ⦃s : Shared⦄ ⦃r : Fl⦄ ⦃Q : Flow → Shared → Prop⦄ ⦃E : Value → Shared → Prop⦄,
    Room A d → Inv C Γ κ env m ab s.heap → f ab = some (r, ab') →
    (∀ v m' h' t' κ', Le κ κ' → FlR C κ' v r → Inv C Γ κ' env m' ab' h' → Q v { s with heap := h', toks := t' }) →
    wpAny (model C.prog C.w) A (execs e env) Q E s
noncomputable def sNil (ab : Ab) : Option (Fl × Ab) := some (.nxt, ab)
noncomputable def sSeq (f g : Ab → Option (Fl × Ab)) (ab : Ab) : Option (Fl × Ab) := match f ab with
  | some (.nxt, ab) => g ab
  | r => r
theorem ss_nil {C : Ctx} {Γ : Frm} {d : Nat} : SSs C Γ d [] sNil := by
  intro A env κ m ab ab' s r Q E R I hf h
  cases hf
  exact wpAny_pure (h .next m s.heap s.toks κ (Le.refl κ) trivial I)
theorem sq9 {C : Ctx} {Γ : Frm} {d : Nat} {st : Stmt} {rest : List Stmt} {f g : Ab → Option (Fl × Ab)} (hf : SS C Γ d st f) (hg : SSs C Γ d rest g) : SSs C Γ d (st :: rest) (sSeq f g) := by
  intro A env κ m ab ab' s r Q E R I hq h
  unfold sSeq at hq
  show wpAny _ _ (execs (st :: rest) env) _ _ _
  rw [execs_cons]
  cases e : f ab with
  | none => rw [e] at hq; exact ns9 hq
  | some p =>
    obtain ⟨fl, ab₁⟩ := p
    rw [e] at hq
    refine wpAny_bind (hf R I e fun v m' h' t' κ' l hv I' => ?_)
    cases fl with
    | nxt =>
      cases v <;> first | exact hv.elim | skip
      exact hg R I' hq fun v₂ m₂ h₂ t₂ κ₂ l₂ hv₂ I₂ => h v₂ m₂ h₂ t₂ κ₂ (l.trans l₂) hv₂ I₂
    | ret mv =>
      cases hq
      cases v <;> first | exact hv.elim | skip
      exact wpAny_pure (h _ m' h' t' κ' l hv I')
noncomputable def sRet (f : Ab → Option (MV × Ab)) (ab : Ab) : Option (Fl × Ab) := (f ab).map fun p => (.ret p.1, p.2)
theorem ss_ret {C : Ctx} {Γ : Frm} {d : Nat} {e : Expr} {pos : Pos} {f : Ab → Option (MV × Ab)} (hf : SE C Γ d e f) : SS C Γ d (.Return (some e) pos) (sRet f) := by
  intro A env κ m ab ab' s r Q E R I hq h
  unfold sRet at hq
  cases e₁ : f ab with
  | none => rw [e₁] at hq; exact ns9 hq
  | some p =>
    rw [e₁] at hq; cases hq
    exact wpAny_Return_some (hf R I e₁ fun v h' t' κ' l hv I' => h _ m h' t' κ' l hv I')
end Mine
end

section
namespace Mine
open PySem PySem.Calls PyProof.Rows PySem.W
noncomputable def SO (C : Ctx) (A : Around) (κ : Gh) (_G : Gst) (s : Shared) (t : Sem Value) (r : MV) (G' : Gst) : Prop :=
  ∀ ⦃Q : Value → Shared → Prop⦄ ⦃E : Value → Shared → Prop⦄,
    (∀ v h' t' κ', Le κ κ' → Kept κ κ' s.heap h' → VR C κ' v r → InvG C κ' G' h' → Q v { s with heap := h', toks := t' }) → wpAny (model C.prog C.w) A t Q E s
section
variable {C : Ctx} {A : Around} {κ : Gh} {G : Gst} {s : Shared}
theorem SO.val {t : Sem Value} {r : MV} (I : InvG C κ G s.heap)
    (h : ∀ {Q : Value → Shared → Prop} {E : Value → Shared → Prop}, (∀ v t', VR C κ v r → Q v { s with toks := t' }) → wpAny (model C.prog C.w) A t Q E s) : SO C A κ G s t r G :=
  fun {_ _} k => h fun v t' hv => k v s.heap t' κ (Le.refl κ) (Kept.refl κ _) hv I
end
noncomputable def f2 (f g : Ab → Option (MV × Ab)) (op : Gst → MV → MV → Option (MV × Gst)) (ab : Ab) : Option (MV × Ab) :=
  match f ab with
  | none => none
  | some (a, ab₁) => match g ab₁ with
    | none => none
    | some (b, ab₂) => match op ab₂.2 a b with
      | none => none
      | some (r, G') => some (r, ab₂.1, G')
noncomputable def f1 (f : Ab → Option (MV × Ab)) (op : Gst → MV → Option (MV × Gst)) (ab : Ab) : Option (MV × Ab) :=
  match f ab with
  | none => none
  | some (a, ab₁) => match op ab₁.2 a with
    | none => none
    | some (r, G') => some (r, ab₁.1, G')
noncomputable def pureOp (op : MV → MV → Option MV) (G : Gst) (a b : MV) : Option (MV × Gst) := match op a b with
  | some r => some (r, G)
  | none => none
theorem pureOp_eq {op : MV → MV → Option MV} {G G' : Gst} {a b r : MV} (h : pureOp op G a b = some (r, G')) : op a b = some r ∧ G' = G := by
  unfold pureOp at h
  cases e : op a b with
  | none => rw [e] at h; exact ns9 h
  | some r' => rw [e] at h; cases h; exact ⟨rfl, rfl⟩
theorem two {C : Ctx} {Γ : Frm} {d : Nat} {e₁ e₂ : Expr} {f g : Ab → Option (MV × Ab)} {op : Gst → MV → MV → Option (MV × Gst)} {T : Value → Value → Sem Value}
    (hf : SE C Γ d e₁ f) (hg : SE C Γ d e₂ g)
    (ho : ∀ {A : Around} {κ : Gh} {s : Shared} {G G' : Gst} {x y : Value} {a b r : MV}, Room A d → InvG C κ G s.heap → VR C κ x a → VR C κ y b → op G a b = some (r, G') → SO C A κ G s (T x y) r G') :
    ∀ {A : Around} {env : Env} {κ : Gh} {m : Str → Option Value} {ab ab' : Ab} {s : Shared} {r : MV} {Q : Value → Shared → Prop} {E : Value → Shared → Prop},
    Room A d → Inv C Γ κ env m ab s.heap → f2 f g op ab = some (r, ab') →
    (∀ v h' t' κ', Le κ κ' → VR C κ' v r → Inv C Γ κ' env m ab' h' → Q v { s with heap := h', toks := t' }) →
    wpAny (model C.prog C.w) A (eval e₁ env) (fun x s₁ => wpAny (model C.prog C.w) A (eval e₂ env) (fun y s₂ => wpAny (model C.prog C.w) A (T x y) Q E s₂) E s₁) E s := by
  intro A env κ m ab ab' s r Q E R I hq h
  unfold f2 at hq
  split at hq
  · exact ns9 hq
  rename_i a ab₁ e1
  split at hq
  · exact ns9 hq
  rename_i b ab₂ e2
  split at hq
  · exact ns9 hq
  rename_i r' G' e3
  cases hq
  refine hf R I e1 fun x h₁ t₁ κ₁ l₁ v₁ I₁ => hg R I₁ e2 fun y h₂ t₂ κ₂ l₂ v₂ I₂ => ?_
  refine ho R I₂.g (v₁.mono l₂.v) v₂ e3 fun v h₃ t₃ κ₃ l₃ k₃ v₃ I₃ => ?_
  exact h v h₃ t₃ κ₃ (l₁.trans (l₂.trans l₃)) v₃ (I₂.keep I₃ l₃ k₃)
noncomputable def constMV : Const → Option MV
  | .none => some .none
  | .bool b => some (.bool b)
  | .int i => some (.int i)
  | .str x => some (.str x)
  | _ => none
noncomputable def fK9 (m : MV) (ab : Ab) : Option (MV × Ab) := some (m, ab)
theorem sc9 {C : Ctx} {Γ : Frm} {d : Nat} {c : Const} {k : Nat} {pos : Pos} {mv : MV} (hc : constMV c = some mv) : SE C Γ d (.Constant c k pos) (fK9 mv) := by
  intro A env κ m ab ab' s r Q E R I hf h
  cases hf
  cases c <;> cases hc
  · exact wpAny_Constant_none (h _ s.heap s.toks κ (Le.refl κ) .none I)
  · exact wpAny_Constant_bool (h _ s.heap s.toks κ (Le.refl κ) (.bool _) I)
  · exact wpAny_Constant_int (h _ s.heap _ κ (Le.refl κ) (.int _ _) I)
  · exact wpAny_Constant_str (h _ s.heap _ κ (Le.refl κ) (.str _ _) I)
noncomputable def intOp (op : Operator) (a b : Int) : Option MV := match op with
  | .Add => some (.int (a + b))
  | .Sub => some (.int (a - b))
  | .Mult => if Builtin.Int.intBits a ≤ 64 ∨ Builtin.Int.intBits b ≤ 64 then some (.int (a * b)) else none
  | .FloorDiv => if b ≠ 0 ∧ b.natAbs < 1073741824 then some (.int (a.fdiv b)) else none
  | .Mod => if b = 0 then none else some (.int (a.fmod b))
  | .Pow => if 0 ≤ b ∧ b ≤ 1000 ∧ a.natAbs < 2 ^ 64 then some (.int (a ^ b.toNat)) else none
  | _ => none
noncomputable def room : Nat := 100000
noncomputable def binMV (op : Operator) (a b : MV) : Option MV := match a, b with
  | .int a, .int b => intOp op a b
  | .str a, .str b => match op with
    | .Add => if a.length + b.length ≤ room then some (.str (a ++ b)) else none
    | _ => none
  | .lst a, .lst b => match op with
    | .Add => if a.length + b.length ≤ room then some (.lst (a ++ b)) else none
    | _ => none
  | _, _ => none
theorem VRs.append {C : Ctx} {κ : Gh} {vs ws : List Value} {ms ns : List MV} (h : VRs C κ vs ms) (k : VRs C κ ws ns) : VRs C κ (vs ++ ws) (ms ++ ns) :=
  h.ind (P := fun a b => VRs C κ (a ++ ws) (b ++ ns)) k fun a _ ih => .cons a ih
theorem VRs.length {C : Ctx} {κ : Gh} {vs : List Value} {ms : List MV} (h : VRs C κ vs ms) : vs.length = ms.length :=
  h.ind (P := fun a b => a.length = b.length) rfl fun _ _ ih => congrArg Nat.succ ih
theorem room_line : room ≤ sizeLine := by decide
theorem made {C : Ctx} {κ : Gh} {G : Gst} {h : Heap} (I : InvG C κ G h) (o : Obj) (hf : o.isFreed = false) :
    Le κ (put κ h.objs.size (.frz o)) ∧ Kept κ (put κ h.objs.size (.frz o)) h (h.push o) ∧ InvG C (put κ h.objs.size (.frz o)) G (h.push o) :=
  ⟨Le.put _ I.free, Kept.put _ _ I.free I.lt, I.push hf ⟨fun _ e => by cases e; rfl, fun _ e => (by cases e), fun _ e => (by cases e)⟩⟩
theorem isList_of {C : Ctx} {κ : Gh} {G : Gst} {h : Heap} (I : InvG C κ G h) {a : Addr} {vs : List Value} {n : Nat} (e : κ a = .frz (lstOf vs n)) : h.IsList a vs.toArray := ⟨_, I.frz a _ e, rfl, n, rfl⟩
theorem cat_two {prog : Program} {w : World} {A : Around} {E : Value → Shared → Prop} {s : Shared} {l b : Addr} {vs ws : List Value} {n₁ n₂ : Nat} {Q : Value → Shared → Prop} (hl : s.heap.get? l = some (lstOf vs n₁)) (hb : s.heap.get? b = some (lstOf ws n₂))
    (hsz : vs.length + ws.length ≤ sizeLine) (h : Q (.ref s.heap.objs.size) { s with heap := s.heap.push (lstOf (vs ++ ws) 0) }) : wpAny (model prog w) A (binaryOp .Add (.ref l) (.ref b)) Q E s := by
  have e : vs.toArray ++ ws.toArray = (vs ++ ws).toArray := by simp
  refine concat_meets ⟨_, hl, rfl⟩ ⟨_, hb, rfl⟩ noFill_list_add seq_list_add PySem.F.slot_list_add PySem.F.entry_list_add (PySem.F.args_list_add_2 _ _) (list_addW l b vs.toArray ws.toArray _ _ none none #[] #[] (by simpa using hsz)) ⟨hl, hb, ?_⟩
  rw [e]
  exact h
inductive BinR : Operator → MV → MV → MV → Prop
  | int {op : Operator} {i j : Int} {r : MV} : intOp op i j = some r → BinR op (.int i) (.int j) r
  | str {x y : Str} : x.length + y.length ≤ room → BinR .Add (.str x) (.str y) (.str (x ++ y))
  | lst {x y : List MV} : x.length + y.length ≤ room → BinR .Add (.lst x) (.lst y) (.lst (x ++ y))
theorem ite_some {α : Type} {c : Prop} [Decidable c] {a b : α} (h : (if c then some a else none) = some b) : c ∧ a = b := by
  by_cases q : c
  · exact ⟨q, Option.some.inj ((if_pos q).symm.trans h)⟩
  · exact ns9 ((if_neg q).symm.trans h)
theorem bin_inv {op : Operator} {a b r : MV} (h : binMV op a b = some r) : BinR op a b r := by
  cases a with
  | int i =>
    cases b with
    | int j => exact .int h
    | _ => exact ns9 h
  | str x =>
    cases b with
    | str y =>
      cases op with
      | Add => obtain ⟨q, rfl⟩ := ite_some h; exact .str q
      | _ => exact ns9 h
    | _ => exact ns9 h
  | lst x =>
    cases b with
    | lst y =>
      cases op with
      | Add => obtain ⟨q, rfl⟩ := ite_some h; exact .lst q
      | _ => exact ns9 h
    | _ => exact ns9 h
  | _ => exact ns9 h
theorem so_int {C : Ctx} {op : Operator} {A : Around} {κ : Gh} {s : Shared} {i j : Int} {t u : Tok} {r : MV} {Q : Value → Shared → Prop} {E : Value → Shared → Prop} (e : intOp op i j = some r)
    (k : ∀ v t', VR C κ v r → Q v { s with toks := t' }) : wpAny (model C.prog C.w) A (binaryOp op (.int i t) (.int j u)) Q E s := by
  unfold intOp at e
  split at e
  · cases e; exact PyProof.Rows.add_int (k _ _ (.int _ _))
  · cases e; exact PyProof.Rows.sub_int (k _ _ (.int _ _))
  · split at e
    · rename_i hb; cases e
      exact PyProof.Rows.mul_int (k _ _ (.int _ _)) (hb.elim IntMulOk.of_left IntMulOk.of_right)
    · exact ns9 e
  · split at e
    · rename_i hb; cases e
      exact PyProof.Rows.floordiv_int hb.1 (k _ _ (.int _ _)) (.inl (PyProof.noPylong_small hb.2))
    · exact ns9 e
  · split at e
    · exact ns9 e
    · rename_i hb; cases e; exact PyProof.Rows.mod_int hb (k _ _ (.int _ _))
  · split at e
    · rename_i hb; cases e; exact PyProof.Rows.pow_int_small hb.1 (by lia) hb.2.2 (k _ _ (.int _ _))
    · exact ns9 e
  · exact ns9 e
theorem so_bin {C : Ctx} {op : Operator} {d : Nat} {A : Around} {κ : Gh} {s : Shared} {G G' : Gst} {x y : Value} {a b r : MV} (_R : Room A d) (I : InvG C κ G s.heap) (hx : VR C κ x a) (hy : VR C κ y b)
    (h : pureOp (binMV op) G a b = some (r, G')) : SO C A κ G s (binaryOp op x y) r G' := by
  obtain ⟨e, rfl⟩ := pureOp_eq h
  clear h
  cases bin_inv e with
  | int e =>
    obtain ⟨t, rfl⟩ := hx.int_inv
    obtain ⟨u, rfl⟩ := hy.int_inv
    exact SO.val I fun {Q E} k => so_int e k
  | str hb =>
    obtain ⟨t, rfl⟩ := hx.str_inv
    obtain ⟨u, rfl⟩ := hy.str_inv
    exact SO.val I fun {Q E} k => PyProof.Rows.add_str (fun t' tk => k _ _ (.str _ _)) (Nat.le_trans hb room_line)
  | lst hb =>
    obtain ⟨a, n, vs, rfl, ka, va⟩ := hx.lst_inv
    obtain ⟨b, m, ws, rfl, kb, vb⟩ := hy.lst_inv
    intro Q E k
    refine cat_two (I.frz _ _ ka) (I.frz _ _ kb) ?_ ?_
    · rw [va.length, vb.length]; exact Nat.le_trans hb room_line
    · obtain ⟨l, kk, I'⟩ := made I (lstOf (_ ++ _) 0) rfl
      exact k _ _ s.toks _ l kk (.lst (put_self ..) ((va.append vb).mono l.v)) I'
theorem se_bin {C : Ctx} {Γ : Frm} {d : Nat} {e₁ e₂ : Expr} {op : Operator} {pos : Pos} {f g : Ab → Option (MV × Ab)} (hf : SE C Γ d e₁ f) (hg : SE C Γ d e₂ g) :
    SE C Γ d (.BinOp e₁ op e₂ pos) (f2 f g (pureOp (binMV op))) := by
  intro A env κ m ab ab' s r Q E R I hq h
  exact wpAny_BinOp (two hf hg (T := binaryOp op) so_bin R I hq h)
noncomputable def fNeg (G : Gst) (a : MV) : Option (MV × Gst) := match a with
  | .int i => some (.int (-i), G)
  | _ => none
theorem neg_inv {G : Gst} {ρ : List Slot} {a r : MV} {ab : Ab} (h : (match fNeg G a with | none => none | some (r, G) => some (r, ρ, G)) = some (r, ab)) : ∃ i, a = .int i ∧ r = .int (-i) ∧ (ρ, G) = ab := by
  cases a with
  | int i => obtain ⟨h1, h2⟩ := some_pair h; exact ⟨i, rfl, h1.symm, h2⟩
  | _ => exact ns9 h
theorem se_neg {C : Ctx} {Γ : Frm} {d : Nat} {e : Expr} {pos : Pos} {f : Ab → Option (MV × Ab)} (hf : SE C Γ d e f) : SE C Γ d (.UnaryOp .USub e pos) (f1 f fNeg) := by
  intro A env κ m ab ab' s r Q E R I hq h
  unfold f1 at hq
  split at hq
  · exact ns9 hq
  rename_i a ab₁ e1
  refine wpAny_UnaryOp (hf R I e1 fun v h₁ t₁ κ₁ l₁ v₁ I₁ => ?_)
  obtain ⟨i, rfl, rfl, e2⟩ := neg_inv hq
  obtain ⟨t, rfl⟩ := v₁.int_inv
  obtain ⟨rfl⟩ := e2
  exact PyProof.Rows.neg_int (h _ h₁ _ κ₁ l₁ (.int _ _) I₁)
theorem pureOp_noG {op : MV → MV → Option MV} {C : Ctx} {T : Value → Value → Sem Value} {d : Nat}
    (ho : ∀ {A : Around} {κ : Gh} {s : Shared} {G : Gst} {x y : Value} {a b r : MV}, Room A d → InvG C κ G s.heap → VR C κ x a → VR C κ y b → op a b = some r → SO C A κ G s (T x y) r G) :
    ∀ {A : Around} {κ : Gh} {s : Shared} {G G' : Gst} {x y : Value} {a b r : MV}, Room A d → InvG C κ G s.heap → VR C κ x a → VR C κ y b → pureOp op G a b = some (r, G') → SO C A κ G s (T x y) r G' := by
  intro A κ s G G' x y a b r R I hx hy h
  obtain ⟨e, rfl⟩ := pureOp_eq h
  exact ho R I hx hy e
end Mine
end

section
namespace Mine
open PySem PySem.Calls PyProof.Rows PySem.W
mutual
noncomputable def toP : MV → Option PyData
  | .none => some .none
  | .bool b => some (.bool b)
  | .int i => some (.int i)
  | .str x => some (.str x)
  | .tup l => (toPs l).map .tuple
  | .lst l => (toPs l).map .list
  | .dct _ => none
  | .obj _ _ => none
  | .glo _ => none
  | .clo _ _ => none
noncomputable def toPs : List MV → Option (List PyData)
  | [] => some []
  | m :: ms => match toP m, toPs ms with
    | some p, some ps => some (p :: ps)
    | _, _ => none
end
section
variable {C : Ctx} {κ : Gh} {G : Gst} {h : Heap}
theorem readss (I : InvG C κ G h) {vs : List Value} {ms : List MV} (r : VRs C κ vs ms) {ps : List PyData} (e : toPs ms = some ps) : ∃ as, ReadsAll h vs ps as := by
  revert ps
  refine VRs.rec (motive_1 := fun v m _ => ∀ {p}, toP m = some p → ∃ as, Reads h v p as) (motive_2 := fun vs ms _ => ∀ {ps}, toPs ms = some ps → ∃ as, ReadsAll h vs ps as) (motive_3 := fun _ _ _ => True) (motive_4 := fun _ _ _ => True) (motive_5 := fun _ _ _ => True)
    ?_ ?_ ?_ ?_ ?_ ?_ (fun _ _ _ _ _ e => ns9 e) (fun _ _ _ _ _ _ e => ns9 e) (fun _ _ e => ns9 e) (fun _ _ _ _ _ _ e => ns9 e) ?_ ?_ trivial (fun _ _ _ _ => trivial) trivial (fun _ _ _ _ => trivial) trivial (fun _ _ _ _ _ _ => trivial) r
  · intro p e; obtain rfl := Option.some.inj e; exact ⟨_, .none⟩
  · intro b p e; obtain rfl := Option.some.inj e; exact ⟨_, .bool b⟩
  · intro i t p e; obtain rfl := Option.some.inj e; exact ⟨_, .int i t⟩
  · intro x t p e; obtain rfl := Option.some.inj e; exact ⟨_, .str x t⟩
  · intro a n vs ms k _ ih p e
    obtain ⟨ps, q, rfl⟩ := Option.map_eq_some_iff.mp e
    obtain ⟨as, z⟩ := ih q
    exact ⟨as, reads_tuple_at (I.frz _ _ k) rfl rfl (by simpa using z)⟩
  · intro a n vs ms k _ ih p e
    obtain ⟨ps, q, rfl⟩ := Option.map_eq_some_iff.mp e
    obtain ⟨as, z⟩ := ih q
    exact ⟨_, reads_list_at (I.frz _ _ k) rfl rfl (by simpa using z)⟩
  · intro ps e; obtain rfl := Option.some.inj e; exact ⟨_, .nil⟩
  · intro v m vs ms _ _ ih1 ih2 ps e
    simp only [toPs] at e
    cases q : toP m with
    | none => rw [q] at e; exact ns9 e
    | some p =>
      cases q' : toPs ms with
      | none => rw [q, q'] at e; exact ns9 e
      | some ps =>
        rw [q, q'] at e
        obtain rfl := Option.some.inj e
        obtain ⟨as, z⟩ := ih1 q
        obtain ⟨bs, y⟩ := ih2 q'
        exact ⟨_, .cons z y⟩
theorem reads (I : InvG C κ G h) {v : Value} {m : MV} (hv : VR C κ v m) {p : PyData} (e : toP m = some p) : ∃ as, Reads h v p as := by
  obtain ⟨as, z⟩ := readss I (.cons hv .nil) (ps := [p]) (by simp only [toPs, e])
  cases z with
  | cons a _ => exact ⟨_, a⟩
end
noncomputable def eqMV (a b : MV) : Option Bool := match b with
  | .lst [] => match a with
    | .lst l => some l.isEmpty
    | _ => none
  | b => match toP a, toP b with
    | some p, some q => if SeqAt.shaped p && SeqAt.shaped q then some (PyData.eqv p q) else none
    | _, _ => none
noncomputable def mAt (l : List (Str × MV)) (k : Str) : Option MV := (l.find? fun kv => kv.1 = k).map (·.2)
noncomputable def isNone : MV → Bool
  | .none => true
  | _ => false
noncomputable def cmpMV (op : CmpOp) (a b : MV) : Option MV := match op with
  | .Lt => match a, b with | .int a, .int b => some (.bool (decide (a < b))) | _, _ => none
  | .LtE => match a, b with | .int a, .int b => some (.bool (decide (a ≤ b))) | _, _ => none
  | .Gt => match a, b with | .int a, .int b => some (.bool (decide (b < a))) | _, _ => none
  | .GtE => match a, b with | .int a, .int b => some (.bool (decide (b ≤ a))) | _, _ => none
  | .Eq => (eqMV a b).map .bool
  | .NotEq => (eqMV a b).map fun c => .bool (!c)
  | .Is => match b with | .none => some (.bool (isNone a)) | _ => none
  | .IsNot => match b with | .none => some (.bool (!isNone a)) | _ => none
  | .In => match a, b with | .str x, .dct l => some (.bool (mAt l x).isSome) | _, _ => none
  | .NotIn => match a, b with
    | .str x, .lst l => match toPs l with
      | some ps => if PyData.canLayAll0 ps && decide (PyData.depthAll ps ≤ 8) && PyData.strOk x then some (.bool (!ps.any fun y => PyData.eqv y (.str x))) else none
      | none => none
    | _, _ => none
theorem VR.isNone {C : Ctx} {κ : Gh} {v : Value} {m : MV} (h : VR C κ v m) : (v == Value.none) = isNone m := by
  cases h <;> simp [Mine.isNone]
theorem PRs.at {C : Ctx} {κ : Gh} {k : Str} {kvs : List (Str × Value)} {ms : List (Str × MV)} (h : PRs C κ kvs ms) :
    (valueAt kvs k = none ∧ mAt ms k = none) ∨ ∃ v m, valueAt kvs k = some v ∧ mAt ms k = some m ∧ VR C κ v m := by
  refine h.ind (P := fun kvs ms => (valueAt kvs k = none ∧ mAt ms k = none) ∨ ∃ v m, valueAt kvs k = some v ∧ mAt ms k = some m ∧ VR C κ v m) (.inl ⟨rfl, rfl⟩) ?_
  intro x v m es ms a _ ih
  unfold valueAt mAt at ih ⊢
  by_cases e : x = k
  · exact .inr ⟨v, m, by simp [List.find?_cons, e], by simp [List.find?_cons, e], a⟩
  · have e1 : ((x, v) :: es).find? (fun kv => kv.1 = k) = es.find? (fun kv => kv.1 = k) := by simp [List.find?_cons, e]
    have e2 : ((x, m) :: ms).find? (fun kv => kv.1 = k) = ms.find? (fun kv => kv.1 = k) := by simp [List.find?_cons, e]
    rw [e1, e2]; exact ih
structure Ok (C : Ctx) : Prop where
  kin : C.K.In C.h₀
  sys : ∃ o, C.h₀.get? sysModules = some o
  nolim : C.h₀.NoLimit
  gns : C.h₀.Ns mainGlobals C.mg
  bns : C.h₀.Ns builtinsNs C.mb
  cls : ∀ c, c < 10 → (∃ cd, clsIn C.K (C.cAd c) = some cd ∧ cd.hasDict = true) ∧ findIn C.K (.ref (C.cAd c)) "__getattribute__" = some (some (.builtin "object.__getattribute__")) ∧
    (∀ x ∈ flds c, findIn C.K (.ref (C.cAd c)) x = some none)
  isi : ∀ c c', c < 8 → c' < 8 → c ≠ c' → kin_not C.K (C.cAd c) (C.cAd c') = true
  isiS : ∀ c, c < 8 → isIn C.K (.ref (C.cAd c)) (C.cAd c) = true ∧ plainGet C.K (C.cAd c) "__class__" = true ∧ hasDictIn C.K (C.cAd c) = true ∧
    findIn C.K (.ref (C.cAd c)) "__class__" = some (some (.builtin "object.__class__")) ∧ mroIn C.K (C.cAd c) (.type "object") = some true
  isiB : specialIn C.K (.builtin "object.__class__") "__get__" = some (some (.builtin "getset_descriptor.__get__")) ∧ takesIn C.K (.builtin "object.__class__") = some true
theorem Ok.inK {C : Ctx} {κ : Gh} {G : Gst} {h : Heap} (O : Ok C) (I : InvG C κ G h) : C.K.In h := O.kin.keeps I.keep
theorem notSys {C : Ctx} {κ : Gh} {G : Gst} {h : Heap} (O : Ok C) (I : InvG C κ G h) {a : Addr} (hk : ∀ o, κ a ≠ .frn o) : (a == sysModules) = false := by
  obtain ⟨o, ho⟩ := O.sys
  have := I.base _ _ ho
  cases q : a == sysModules with
  | false => rfl
  | true => rw [beq_iff_eq.mp q] at hk; exact absurd this (hk o)
theorem ne_nil {prog : Program} {w : World} {A : Around} {E : Value → Shared → Prop} {s : Shared} {l b : Addr} {vs : List Value} {n₁ n₂ : Nat} {Q : Value → Shared → Prop} (hl : s.heap.get? l = some (lstOf vs n₁)) (hb : s.heap.get? b = some (lstOf [] n₂)) (hu : A.units < cLine)
    (h : Q (.bool (!vs.isEmpty)) s) : wpAny (model prog w) A (compareOp .NotEq (.ref l) (.ref b)) Q E s := by
  show wpAny (model prog w) A (richCompare .NotEq (.ref l) (.ref b)) Q E s
  cases vs with
  | nil =>
    exact richCompare_meets_room (op := .NotEq) ⟨_, hl, rfl⟩ ⟨_, hb, rfl⟩ PySem.F.slot_list_ne PySem.F.entry_list_ne (PySem.F.args_list_ne_2 _ _) (SeqAt.list_neAt l b #[] #[] _ _ none none #[] #[] rfl (fun _ => true))
      ⟨hl, hb, (fun j h1 _ => absurd h1 (by simp)), (fun z => nomatch z), h⟩ hu
  | cons p q =>
    exact richCompare_meets_room (op := .NotEq) ⟨_, hl, rfl⟩ ⟨_, hb, rfl⟩ PySem.F.slot_list_ne PySem.F.entry_list_ne (PySem.F.args_list_ne_2 _ _) (SeqAt.list_ne_lengthsAt l b (p :: q).toArray #[] _ _ none none #[] #[] (by simp))
      ⟨hl, hb, (fun z => nomatch z), h⟩ hu
theorem cmp_lt {a b r : MV} (h : cmpMV .Lt a b = some r) : ∃ i j, a = .int i ∧ b = .int j ∧ r = .bool (decide (i < j)) := by
  unfold cmpMV at h; dsimp only at h
  split at h
  · cases h; exact ⟨_, _, rfl, rfl, rfl⟩
  · exact ns9 h
theorem cmp_le {a b r : MV} (h : cmpMV .LtE a b = some r) : ∃ i j, a = .int i ∧ b = .int j ∧ r = .bool (decide (i ≤ j)) := by
  unfold cmpMV at h; dsimp only at h
  split at h
  · cases h; exact ⟨_, _, rfl, rfl, rfl⟩
  · exact ns9 h
theorem cmp_gt {a b r : MV} (h : cmpMV .Gt a b = some r) : ∃ i j, a = .int i ∧ b = .int j ∧ r = .bool (decide (j < i)) := by
  unfold cmpMV at h; dsimp only at h
  split at h
  · cases h; exact ⟨_, _, rfl, rfl, rfl⟩
  · exact ns9 h
theorem cmp_ge {a b r : MV} (h : cmpMV .GtE a b = some r) : ∃ i j, a = .int i ∧ b = .int j ∧ r = .bool (decide (j ≤ i)) := by
  unfold cmpMV at h; dsimp only at h
  split at h
  · cases h; exact ⟨_, _, rfl, rfl, rfl⟩
  · exact ns9 h
theorem cmp_is {a b r : MV} (h : cmpMV .Is a b = some r) : b = .none ∧ r = .bool (isNone a) := by
  unfold cmpMV at h; dsimp only at h
  split at h
  · cases h; exact ⟨rfl, rfl⟩
  · exact ns9 h
theorem cmp_isn {a b r : MV} (h : cmpMV .IsNot a b = some r) : b = .none ∧ r = .bool (!isNone a) := by
  unfold cmpMV at h; dsimp only at h
  split at h
  · cases h; exact ⟨rfl, rfl⟩
  · exact ns9 h
theorem cmp_in {a b r : MV} (h : cmpMV .In a b = some r) : ∃ x l, a = .str x ∧ b = .dct l ∧ r = .bool (mAt l x).isSome := by
  unfold cmpMV at h; dsimp only at h
  split at h
  · cases h; exact ⟨_, _, rfl, rfl, rfl⟩
  · exact ns9 h
theorem cmp_nin {a b r : MV} (h : cmpMV .NotIn a b = some r) : ∃ x l ps, a = .str x ∧ b = .lst l ∧ toPs l = some ps ∧ (PyData.canLayAll0 ps && decide (PyData.depthAll ps ≤ 8) && PyData.strOk x) = true ∧ r = .bool (!ps.any fun y => PyData.eqv y (.str x)) := by
  unfold cmpMV at h; dsimp only at h
  split at h
  case h_2 => exact ns9 h
  split at h
  case h_2 => exact ns9 h
  rename_i e
  split at h
  case isFalse => exact ns9 h
  rename_i q
  cases h; exact ⟨_, _, _, rfl, rfl, e, q, rfl⟩
theorem eqMV_inv {a b : MV} {c : Bool} (h : eqMV a b = some c) : (∃ l, b = .lst [] ∧ a = .lst l ∧ c = l.isEmpty) ∨ ∃ p q, toP a = some p ∧ toP b = some q ∧ SeqAt.shaped p = true ∧ SeqAt.shaped q = true ∧ c = PyData.eqv p q := by
  unfold eqMV at h
  split at h
  · split at h
    · cases h; exact .inl ⟨_, rfl, rfl, rfl⟩
    · exact ns9 h
  · split at h
    · rename_i p q e1 e2
      split at h
      · rename_i hb
        cases h
        exact .inr ⟨p, q, e1, e2, (Bool.and_eq_true_iff.mp hb).1, (Bool.and_eq_true_iff.mp hb).2, rfl⟩
      · exact ns9 h
    · exact ns9 h
theorem so_cmp {C : Ctx} (O : Ok C) {op : CmpOp} {d : Nat} {A : Around} {κ : Gh} {s : Shared} {G : Gst} {x y : Value} {a b r : MV} (R : Room A d) (I : InvG C κ G s.heap) (hx : VR C κ x a) (hy : VR C κ y b)
    (h : cmpMV op a b = some r) : SO C A κ G s (compareOp op x y) r G := by
  have h64 : A.units + 64 < cLine := by have := R.units; lia
  have hu : A.units < cLine := by lia
  refine @SO.val C A κ G s _ _ I (fun {Q E} k => ?_)
  cases op with
  | Lt =>
    obtain ⟨i, j, rfl, rfl, rfl⟩ := cmp_lt h; obtain ⟨_, rfl⟩ := hx.int_inv; obtain ⟨_, rfl⟩ := hy.int_inv
    exact PyProof.Rows.lt_int (k _ _ (.bool _))
  | LtE =>
    obtain ⟨i, j, rfl, rfl, rfl⟩ := cmp_le h; obtain ⟨_, rfl⟩ := hx.int_inv; obtain ⟨_, rfl⟩ := hy.int_inv
    exact PyProof.Rows.le_int (k _ _ (.bool _))
  | Gt =>
    obtain ⟨i, j, rfl, rfl, rfl⟩ := cmp_gt h; obtain ⟨_, rfl⟩ := hx.int_inv; obtain ⟨_, rfl⟩ := hy.int_inv
    exact PyProof.Rows.gt_int (k _ _ (.bool _))
  | GtE =>
    obtain ⟨i, j, rfl, rfl, rfl⟩ := cmp_ge h; obtain ⟨_, rfl⟩ := hx.int_inv; obtain ⟨_, rfl⟩ := hy.int_inv
    exact PyProof.Rows.ge_int (k _ _ (.bool _))
  | Is =>
    obtain ⟨rfl, rfl⟩ := cmp_is h
    rw [hy.none_inv]; exact is_none_gen (by rw [hx.isNone]; exact k _ _ (.bool _))
  | IsNot =>
    obtain ⟨rfl, rfl⟩ := cmp_isn h
    rw [hy.none_inv]; exact isnot_none_gen (by rw [hx.isNone]; exact k _ _ (.bool _))
  | In =>
    obtain ⟨x', l, rfl, rfl, rfl⟩ := cmp_in h
    obtain ⟨t, rfl⟩ := hx.str_inv
    obtain ⟨b', o, kvs, rfl, kb, hd, hp⟩ := hy.dct_inv
    have hm := Heap.dictOf_iff.mpr ⟨_, I.frz _ _ kb, hd⟩
    refine wpAny_in_of (strKind_is C.prog C.w x' t) (notSys O I (by rw [kb]; simp)) hm.mapOf ?_
    have : (valueAt kvs x').isSome = (mAt l x').isSome := by
      rcases hp.at (k := x') with ⟨p, q⟩ | ⟨v, m, p, q, _⟩ <;> rw [p, q] <;> rfl
    rw [this]; exact k _ _ (.bool _)
  | NotIn =>
    obtain ⟨x', l, ps, rfl, rfl, e, hb, rfl⟩ := cmp_nin h
    obtain ⟨t, rfl⟩ := hx.str_inv
    obtain ⟨b', n, vs, rfl, kb, vb⟩ := hy.lst_inv
    simp only [Bool.and_eq_true, decide_eq_true_eq] at hb
    obtain ⟨as, ra⟩ := readss I vb e
    exact SeqAt.notIn_list_reads (reads_list_at (I.frz _ _ kb) rfl rfl (by simpa using ra)) (.str _ _) hb.1.1 (by simpa [PyData.canLay0] using hb.2) (by
      have := Nat.min_le_left (PyData.depthAll ps) (PyData.str x').depth
      lia) (k _ _ (.bool _))
  | Eq =>
    obtain ⟨c, e, rfl⟩ := Option.map_eq_some_iff.mp h
    rcases eqMV_inv e with ⟨l, rfl, rfl, rfl⟩ | ⟨p, q, e1, e2, s1, s2, rfl⟩
    · obtain ⟨a', n, vs, rfl, ka, va⟩ := hx.lst_inv
      obtain ⟨b', n', vs', rfl, kb, vb⟩ := hy.lst_inv
      obtain rfl := vb.nil_inv
      cases va with
      | nil =>
        refine SeqAt.eq_listAt (e := fun _ => true) ⟨_, I.frz _ _ ka, rfl, _, rfl⟩ ⟨_, I.frz _ _ kb, rfl, _, rfl⟩ rfl hu (fun j h1 _ => absurd h1 (by simp)) ?_
        exact k _ _ (.bool _)
      | cons p q =>
        exact SeqAt.eq_list_lengthsAt ⟨_, I.frz _ _ ka, rfl, _, rfl⟩ ⟨_, I.frz _ _ kb, rfl, _, rfl⟩ (by simp) hu (k _ _ (.bool _))
    · obtain ⟨as, ra⟩ := reads I hx e1
      obtain ⟨bs, rb⟩ := reads I hy e2
      exact eq_dataH ra rb s1 s2 h64 (k _ _ (.bool _))
  | NotEq =>
    obtain ⟨c, e, rfl⟩ := Option.map_eq_some_iff.mp h
    rcases eqMV_inv e with ⟨l, rfl, rfl, rfl⟩ | ⟨p, q, e1, e2, s1, s2, rfl⟩
    · obtain ⟨a', n, vs, rfl, ka, va⟩ := hx.lst_inv
      obtain ⟨b', n', vs', rfl, kb, vb⟩ := hy.lst_inv
      obtain rfl := vb.nil_inv
      refine ne_nil (I.frz _ _ ka) (I.frz _ _ kb) hu ?_
      cases va with
      | nil => exact k _ _ (.bool _)
      | cons _ _ => exact k _ _ (.bool _)
    · obtain ⟨as, ra⟩ := reads I hx e1
      obtain ⟨bs, rb⟩ := reads I hy e2
      exact ne_dataH ra rb s1 s2 h64 (k _ _ (.bool _))
end Mine
end

section
namespace Mine
open PySem PySem.Calls PyProof.Rows PySem.W
noncomputable def ST (C : Ctx) (Γ : Frm) (d : Nat) (e : Expr) (f : Ab → Option (Bool × Ab)) : Prop :=
  ∀ ⦃A : Around⦄ ⦃env : Env⦄ ⦃κ : Gh⦄ ⦃m : Str → Option Value⦄ ⦃ab ab' : Ab⦄ ⦃s : Shared⦄ ⦃r : Bool⦄ ⦃Q : Bool → Shared → Prop⦄ ⦃E : Value → Shared → Prop⦄,
    Room A d → Inv C Γ κ env m ab s.heap → f ab = some (r, ab') →
    (∀ h' t' κ', Le κ κ' → Inv C Γ κ' env m ab' h' → Q r { s with heap := h', toks := t' }) →
    wpAny (model C.prog C.w) A (isTrue e env (eval e env)) Q E s
noncomputable def asBool (f : Ab → Option (MV × Ab)) (ab : Ab) : Option (Bool × Ab) := match f ab with
  | some (.bool b, ab) => some (b, ab)
  | _ => none
theorem asBool_eq {f : Ab → Option (MV × Ab)} {ab ab' : Ab} {b : Bool} (h : asBool f ab = some (b, ab')) : f ab = some (.bool b, ab') := by
  unfold asBool at h
  split at h
  · rename_i e; cases h; exact e
  · exact ns9 h
section
variable {C : Ctx} {Γ : Frm} {d : Nat}
theorem se_cmp (O : Ok C) {e₁ e₂ : Expr} {op : CmpOp} {pos : Pos} {f g : Ab → Option (MV × Ab)} (hf : SE C Γ d e₁ f) (hg : SE C Γ d e₂ g) (hm : behindInMarks op e₂ = false) :
    SE C Γ d (.Compare e₁ [op] [e₂] pos) (f2 f g (pureOp (cmpMV op))) := by
  intro A env κ m ab ab' s r Q E R I hq h
  exact wpAny_Compare1 (two hf hg (T := compareOp op) (pureOp_noG (T := compareOp op) (d := d) fun R I hx hy e => so_cmp O R I hx hy e) R I hq h) hm
theorem st_cmp (O : Ok C) {e₁ e₂ : Expr} {op : CmpOp} {pos : Pos} {f g : Ab → Option (MV × Ab)} (hf : SE C Γ d e₁ f) (hg : SE C Γ d e₂ g) (hm : behindInMarks op e₂ = false) :
    ST C Γ d (.Compare e₁ [op] [e₂] pos) (asBool (f2 f g (pureOp (cmpMV op)))) := by
  intro A env κ m ab ab' s r Q E R I hq h
  refine wpAny_isTrue_Compare1 (two hf hg (T := compareOp op) (pureOp_noG (T := compareOp op) (d := d) fun R I hx hy e => so_cmp O R I hx hy e) R I (asBool_eq hq) fun v h' t' κ' l hv I' => ?_) hm
  cases hv
  exact wpAny_truthy_bool (h h' t' κ' l I')
theorem st_val {e : Expr} {f : Ab → Option (MV × Ab)} (hf : SE C Γ d e f) (he : ∀ env whole, isTrue e env whole = (do let v ← whole; standAt e.pos; holding [v] (truthy v))) : ST C Γ d e (asBool f) := by
  intro A env κ m ab ab' s r Q E R I hq h
  refine wpAny_isTrue_value (hf R I (asBool_eq hq) fun v h' t' κ' l hv I' => ?_) (he _ _)
  cases hv
  exact wpAny_truthy_bool (h h' t' κ' l I')
noncomputable def tNot (f : Ab → Option (Bool × Ab)) (ab : Ab) : Option (Bool × Ab) := (f ab).map fun p => (!p.1, p.2)
theorem st_not {e : Expr} {pos : Pos} {f : Ab → Option (Bool × Ab)} (hf : ST C Γ d e f) : ST C Γ d (.UnaryOp .Not e pos) (tNot f) := by
  intro A env κ m ab ab' s r Q E R I hq h
  unfold tNot at hq
  cases e1 : f ab with
  | none => rw [e1] at hq; exact ns9 hq
  | some p => rw [e1] at hq; cases hq; exact wpAny_isTrue_Not (hf R I e1 h)
noncomputable def tAnd (f g : Ab → Option (Bool × Ab)) (ab : Ab) : Option (Bool × Ab) := match f ab with
  | some (true, ab) => g ab
  | r => r
noncomputable def tOr (f g : Ab → Option (Bool × Ab)) (ab : Ab) : Option (Bool × Ab) := match f ab with
  | some (false, ab) => g ab
  | r => r
noncomputable def tLit (b : Bool) (ab : Ab) : Option (Bool × Ab) := some (b, ab)
noncomputable def SA (C : Ctx) (Γ : Frm) (d : Nat) (op : BoolOp) (es : List Expr) (f : Ab → Option (Bool × Ab)) : Prop :=
  ∀ ⦃A : Around⦄ ⦃env : Env⦄ ⦃κ : Gh⦄ ⦃m : Str → Option Value⦄ ⦃ab ab' : Ab⦄ ⦃s : Shared⦄ ⦃r : Bool⦄ ⦃Q : Bool → Shared → Prop⦄ ⦃E : Value → Shared → Prop⦄,
    Room A d → Inv C Γ κ env m ab s.heap → f ab = some (r, ab') →
    (∀ h' t' κ', Le κ κ' → Inv C Γ κ' env m ab' h' → Q r { s with heap := h', toks := t' }) →
    wpAny (model C.prog C.w) A (allTrue op es env) Q E s
theorem sa_nil_and : SA C Γ d .And [] (tLit true) := by
  intro A env κ m ab ab' s r Q E R I hq h
  cases hq
  exact wpAny_allTrue_And_nil (h s.heap s.toks κ (Le.refl κ) I)
theorem sa_nil_or : SA C Γ d .Or [] (tLit false) := by
  intro A env κ m ab ab' s r Q E R I hq h
  cases hq
  exact wpAny_allTrue_Or_nil (h s.heap s.toks κ (Le.refl κ) I)
theorem sa_and {e : Expr} {es : List Expr} {f g : Ab → Option (Bool × Ab)} (hf : ST C Γ d e f) (hg : SA C Γ d .And es g) : SA C Γ d .And (e :: es) (tAnd f g) := by
  intro A env κ m ab ab' s r Q E R I hq h
  unfold tAnd at hq
  cases e1 : f ab with
  | none => rw [e1] at hq; exact ns9 hq
  | some p =>
    obtain ⟨b, ab₁⟩ := p
    rw [e1] at hq
    refine wpAny_allTrue_And_cons (hf R I e1 fun h' t' κ' l I' => ?_)
    cases b with
    | true => exact hg R I' hq fun h₂ t₂ κ₂ l₂ I₂ => h h₂ t₂ κ₂ (l.trans l₂) I₂
    | false => cases hq; exact h h' t' κ' l I'
theorem sa_or {e : Expr} {es : List Expr} {f g : Ab → Option (Bool × Ab)} (hf : ST C Γ d e f) (hg : SA C Γ d .Or es g) : SA C Γ d .Or (e :: es) (tOr f g) := by
  intro A env κ m ab ab' s r Q E R I hq h
  unfold tOr at hq
  cases e1 : f ab with
  | none => rw [e1] at hq; exact ns9 hq
  | some p =>
    obtain ⟨b, ab₁⟩ := p
    rw [e1] at hq
    refine wpAny_allTrue_Or_cons (hf R I e1 fun h' t' κ' l I' => ?_)
    cases b with
    | false => exact hg R I' hq fun h₂ t₂ κ₂ l₂ I₂ => h h₂ t₂ κ₂ (l.trans l₂) I₂
    | true => cases hq; exact h h' t' κ' l I'
theorem st_bool {op : BoolOp} {es : List Expr} {pos : Pos} {f : Ab → Option (Bool × Ab)} (hf : SA C Γ d op es f) : ST C Γ d (.BoolOp op es pos) f := by
  intro A env κ m ab ab' s r Q E R I hq h
  exact wpAny_isTrue_BoolOp (hf R I hq h)
noncomputable def fAnd (f g : Ab → Option (MV × Ab)) (ab : Ab) : Option (MV × Ab) := match f ab with
  | some (.bool true, ab) => g ab
  | some (.bool false, ab) => some (.bool false, ab)
  | _ => none
theorem se_and {e₁ e₂ : Expr} {pos : Pos} {f g : Ab → Option (MV × Ab)} (hf : SE C Γ d e₁ f) (hg : SE C Γ d e₂ g) : SE C Γ d (.BoolOp .And [e₁, e₂] pos) (fAnd f g) := by
  intro A env κ m ab ab' s r Q E R I hq h
  unfold fAnd at hq
  split at hq
  · rename_i ab₁ e1
    refine wpAny_And2 (hf R I e1 fun v h' t' κ' l hv I' => ?_)
    cases hv
    refine wpAny_truthy_bool ?_
    exact hg R I' hq fun v₂ h₂ t₂ κ₂ l₂ hv₂ I₂ => h v₂ h₂ t₂ κ₂ (l.trans l₂) hv₂ I₂
  · rename_i ab₁ e1
    cases hq
    refine wpAny_And2 (hf R I e1 fun v h' t' κ' l hv I' => ?_)
    cases hv
    exact wpAny_truthy_bool (h _ h' t' κ' l (.bool _) I')
  · exact ns9 hq
noncomputable def fIf (c : Ab → Option (Bool × Ab)) (f g : Ab → Option (MV × Ab)) (ab : Ab) : Option (MV × Ab) := match c ab with
  | some (true, ab) => f ab
  | some (false, ab) => g ab
  | none => none
theorem se_if {t e₁ e₂ : Expr} {pos : Pos} {c : Ab → Option (Bool × Ab)} {f g : Ab → Option (MV × Ab)} (hc : ST C Γ d t c) (hf : SE C Γ d e₁ f) (hg : SE C Γ d e₂ g) : SE C Γ d (.IfExp t e₁ e₂ pos) (fIf c f g) := by
  intro A env κ m ab ab' s r Q E R I hq h
  unfold fIf at hq
  cases e1 : c ab with
  | none => rw [e1] at hq; exact ns9 hq
  | some p =>
    obtain ⟨b, ab₁⟩ := p
    rw [e1] at hq
    refine wpAny_IfExp (hc R I e1 fun h' t' κ' l I' => ?_)
    cases b with
    | true => exact hf R I' hq fun v₂ h₂ t₂ κ₂ l₂ hv₂ I₂ => h v₂ h₂ t₂ κ₂ (l.trans l₂) hv₂ I₂
    | false => exact hg R I' hq fun v₂ h₂ t₂ κ₂ l₂ hv₂ I₂ => h v₂ h₂ t₂ κ₂ (l.trans l₂) hv₂ I₂
noncomputable def sIf (c : Ab → Option (Bool × Ab)) (f g : Ab → Option (Fl × Ab)) (ab : Ab) : Option (Fl × Ab) := match c ab with
  | some (true, ab) => f ab
  | some (false, ab) => g ab
  | none => none
theorem ss_if {t : Expr} {b₁ b₂ : List Stmt} {pos : Pos} {c : Ab → Option (Bool × Ab)} {f g : Ab → Option (Fl × Ab)} (hc : ST C Γ d t c) (hf : SSs C Γ d b₁ f) (hg : SSs C Γ d b₂ g) : SS C Γ d (.If t b₁ b₂ pos) (sIf c f g) := by
  intro A env κ m ab ab' s r Q E R I hq h
  unfold sIf at hq
  cases e1 : c ab with
  | none => rw [e1] at hq; exact ns9 hq
  | some p =>
    obtain ⟨b, ab₁⟩ := p
    rw [e1] at hq
    refine wpAny_If (hc R I e1 fun h' t' κ' l I' => ?_)
    cases b with
    | true => exact hf R I' hq fun v₂ m₂ h₂ t₂ κ₂ l₂ hv₂ I₂ => h v₂ m₂ h₂ t₂ κ₂ (l.trans l₂) hv₂ I₂
    | false => exact hg R I' hq fun v₂ m₂ h₂ t₂ κ₂ l₂ hv₂ I₂ => h v₂ m₂ h₂ t₂ κ₂ (l.trans l₂) hv₂ I₂
noncomputable def sSet (i : Nat) (f : Ab → Option (MV × Ab)) (ab : Ab) : Option (Fl × Ab) := match f ab with
  | some (r, ab) => some (.nxt, ab.1.set i (.val r), ab.2)
  | none => none
noncomputable def Stores (Γ : Frm) (i : Nat) (x : Str) : Prop := Γ.xs[i]? = some x ∧ (Γ.scope.names.lookup x = some .local ∨ (Γ.scope.names.lookup x = some .cell ∧ Γ.top = true))
theorem ss_set {x : Str} {e : Expr} {p pos : Pos} {i : Nat} {f : Ab → Option (MV × Ab)} (hf : SE C Γ d e f) (hi : Stores Γ i x) (hs : ∀ env, swapsWith e (some (.Name x p)) pos.line env = pure false) : SS C Γ d (.Assign [.Name x p] e pos) (sSet i f) := by
  intro A env κ m ab ab' s r Q E R I hq h
  unfold sSet at hq
  cases e1 : f ab with
  | none => rw [e1] at hq; exact ns9 hq
  | some q =>
    obtain ⟨mv, ab₁⟩ := q
    rw [e1] at hq; cases hq
    refine wpAny_Assign_Name (hf R I e1 fun v h' t' κ' l hv I' => ?_) (hs env)
    exact store_slot (s := { s with heap := h', toks := t' }) I' hi.1 hi.2 (sl := .val mv) ⟨v, rfl, hv⟩ fun m' h₂ t₂ I₂ _ => h _ m' h₂ t₂ κ' l trivial I₂
end
end Mine
end

section
namespace Mine
open PySem PySem.Calls PyProof.Rows PySem.W
noncomputable def attrMV (x : Str) : MV → Option MV
  | .obj c ms => if c < 10 ∧ x ∈ flds c then mAt ((flds c).zip ms) x else none
  | _ => none
noncomputable def fAttr (x : Str) (G : Gst) (a : MV) : Option (MV × Gst) := (attrMV x a).map fun r => (r, G)
theorem VR.handed {C : Ctx} {κ : Gh} {v : Value} {m : MV} (h : VR C κ v m) : handedIn v = true := by
  cases h <;> rfl
theorem DRs.look {C : Ctx} {κ : Gh} {x : Str} {es : List DictEntry} {ms : List (Str × MV)} {m : MV} (h : DRs C κ es ms) : mAt ms x = some m → ∃ v, (∀ n, lookIn x (dictOf es n) = some (some v)) ∧ VR C κ v m := by
  refine h.ind (P := fun es ms => mAt ms x = some m → ∃ v, (∀ n, lookIn x (dictOf es n) = some (some v)) ∧ VR C κ v m) (fun h => by cases h) ?_
  intro y t v m' es ms a _ ih h
  unfold mAt at h
  by_cases e : y = x
  · subst e
    simp at h
    subst h
    refine ⟨v, fun n => ?_, a⟩
    unfold lookIn
    simp [Value.isStr]
  · have h' : mAt ms x = some m := by unfold mAt; simpa [List.find?_cons, e] using h
    obtain ⟨v', hv, hr⟩ := ih h'
    refine ⟨v', fun n => ?_, hr⟩
    have := hv n
    unfold lookIn at this ⊢
    simp only [List.toList_toArray] at this ⊢
    rw [List.find?_cons]
    have ne : (Value.str y t).isStr x = false := by simp [Value.isStr, e]
    simp only [ne]
    cases q : es.find? (fun en => en.key.isStr x) with
    | some en => rw [q] at this; exact this
    | none =>
      rw [q] at this
      dsimp only at this
      split at this <;> simp at this
theorem find_fld {K : Frag} {c : Addr} {cd : ClassData} {od : Obj} {x : Str} {v : Value} (hc : clsIn K c = some cd) (hd : cd.hasDict = true) (hf : findIn K (.ref c) x = some none) (hl : lookIn x od = some (some v)) :
    findObj K c (some od) x = some (.value v) := by
  unfold findObj
  rw [hc, hf]
  simp only [Option.bind_some]
  unfold W.ownOf
  rw [hd, if_pos rfl]
  simp only [hl, Option.bind_some]
theorem so_attr {C : Ctx} (O : Ok C) {x : Str} {A : Around} {κ : Gh} {s : Shared} {G G' : Gst} {v : Value} {a r : MV} {expr : Bool} (I : InvG C κ G s.heap) (hv : VR C κ v a) (h : fAttr x G a = some (r, G')) :
    SO C A κ G s (getAttr v x expr) r G' := by
  unfold fAttr at h
  cases e : attrMV x a with
  | none => rw [e] at h; exact ns9 h
  | some r' =>
    rw [e] at h; cases h
    unfold attrMV at e
    split at e
    · rename_i c ms
      split at e
      · rename_i hc
        obtain ⟨_, _, _, _, rfl, ka, kd, hd, hl⟩ := hv.obj_inv
        obtain ⟨⟨cd, h1, h2⟩, h3, h4⟩ := O.cls c hc.1
        obtain ⟨v', hlk, hr⟩ := hd.look e
        refine @SO.val C A κ G s _ _ I (fun {Q E} k => ?_)
        refine get_value (od := some _) (O.inK I) ⟨I.frz _ _ ka, rfl, rfl, I.frz _ _ kd⟩ h3 (find_fld h1 h2 (h4 x hc.2) (hlk _)) hr.handed ?_
        exact k _ _ hr
      · exact ns9 e
    · exact ns9 e
section
variable {C : Ctx} {Γ : Frm} {d : Nat}
theorem se_attr (O : Ok C) {e : Expr} {x : Str} {pos : Pos} {f : Ab → Option (MV × Ab)} (hf : SE C Γ d e f) (he : ∀ env, eval (.Attribute e x pos) env = (do
      let o ← eval e env
      standAt pos.atName
      let r ← holding [o] (getAttr o x true)
      letTemporaryGo e o r
      pure r)) : SE C Γ d (.Attribute e x pos) (f1 f (fAttr x)) := by
  intro A env κ m ab ab' s r Q E R I hq h
  unfold f1 at hq
  split at hq
  · exact ns9 hq
  rename_i a ab₁ e1
  split at hq
  · exact ns9 hq
  rename_i r' G' e2
  cases hq
  refine Attribute_any_ (hf R I e1 fun v h₁ t₁ κ₁ l₁ v₁ I₁ => ?_) (he env)
  refine so_attr O (s := { s with heap := h₁, toks := t₁ }) I₁.g v₁ e2 fun v₂ h₂ t₂ κ₂ l₂ k₂ r₂ I₂ => ?_
  exact h v₂ h₂ t₂ κ₂ (l₁.trans l₂) r₂ (I₁.keep I₂ l₂ k₂)
end
noncomputable def SC (C : Ctx) (d : Nat) (f : Value) (spec : List MV → Gst → Option (MV × Gst)) : Prop :=
  ∀ ⦃A : Around⦄ ⦃κ : Gh⦄ ⦃G G' : Gst⦄ ⦃s : Shared⦄ ⦃xs : List Value⦄ ⦃ms : List MV⦄ ⦃r : MV⦄ ⦃R : Result → Shared → Prop⦄,
    Room A d → InvG C κ G s.heap → VRs C κ xs ms → spec ms G = some (r, G') →
    (∀ v h' t' κ', Le κ κ' → Kept κ κ' s.heap h' → VR C κ' v r → InvG C κ' G' h' → R (.ok (.ret v)) { s with heap := h', toks := t' }) →
    codeAny (model C.prog C.w) A (.call f ⟨xs, []⟩) R s
theorem SC.le {C : Ctx} {d d' : Nat} {f : Value} {spec : List MV → Gst → Option (MV × Gst)} (h : SC C d f spec) (l : d ≤ d') : SC C d' f spec := by
  intro A κ G G' s xs ms r R hR
  exact h (hR.le l)
theorem SC.weaken {C : Ctx} {d : Nat} {f : Value} {spec spec' : List MV → Gst → Option (MV × Gst)} (h : SC C d f spec) (l : ∀ ms G r, spec' ms G = some r → spec ms G = some r) : SC C d f spec' := by
  intro A κ G G' s xs ms r R hR I hx e
  exact h hR I hx (l _ _ _ e)
theorem bindL_off (kindOf : Str → Option NameKind) {x : Str} : ∀ (l : List (Str × Value)) (m : Str → Option Value), x ∉ l.map (·.1) → bindL kindOf l m x = m x
  | [], _, _ => rfl
  | (n, v) :: r, m, h => by
    unfold bindL
    rw [bindL_off kindOf r _ (fun q => h (by simpa using Or.inr (by simpa using q)))]
    have ne : x ≠ n := fun q => h (by simp [q])
    split
    · simp [ne]
    · rfl
theorem bindC_off (kindOf : Str → Option NameKind) {x : Str} : ∀ (l : List (Str × Value)) (m : Str → Option Value), x ∉ l.map (·.1) → bindC kindOf l m x = m x
  | [], _, _ => rfl
  | (n, v) :: r, m, h => by
    unfold bindC
    rw [bindC_off kindOf r _ (fun q => h (by simpa using Or.inr (by simpa using q)))]
    have ne : x ≠ n := fun q => h (by simp [q])
    split
    · rfl
    · simp [ne]
theorem bind_at (kindOf : Str → Option NameKind) {x : Str} {v : Value} : ∀ (l : List (Str × Value)) (m cm : Str → Option Value), (l.map (·.1)).Nodup → (x, v) ∈ l →
    (kindOf x = some .local → bindL kindOf l m x = some v) ∧ (kindOf x ≠ some .local → bindC kindOf l cm x = some v)
  | [], _, _, _, h => by cases h
  | (n, u) :: r, m, cm, hn, h => by
    rw [List.map_cons, List.nodup_cons] at hn
    rcases List.mem_cons.mp h with e | h
    · cases e
      unfold bindL bindC
      refine ⟨fun k => ?_, fun k => ?_⟩
      · rw [bindL_off kindOf r _ hn.1, if_pos k]; simp
      · rw [bindC_off kindOf r _ hn.1, if_neg k]; simp
    · unfold bindL bindC
      exact bind_at kindOf r _ _ hn.2 h
theorem cells_key {x : Str} : ∀ (names : List (Str × NameKind)) (n : Nat) (acc : List (Str × Addr)), ((x, NameKind.cell) ∈ names ∨ x ∈ acc.map (·.1)) → x ∈ (cellsFrom n names acc).map (·.1)
  | [], _, acc, h => by
    rcases h with h | h
    · cases h
    · exact h
  | (y, k) :: r, n, acc, h => by
    unfold cellsFrom
    split
    · rename_i hk
      refine cells_key r _ _ ?_
      rcases h with h | h
      · rcases List.mem_cons.mp h with e | h
        · cases e; right; simp
        · exact .inl h
      · right; simp only [List.map_cons, List.mem_cons]; exact .inr h
    · rename_i hk
      refine cells_key r _ _ ?_
      rcases h with h | h
      · rcases List.mem_cons.mp h with e | h
        · cases e; exact absurd rfl hk
        · exact .inl h
      · exact .inr h
theorem lookup_key {α : Type} {x : Str} : ∀ {l : List (Str × α)}, x ∈ l.map (·.1) → ∃ c, l.lookup x = some c
  | [], h => by cases h
  | (y, c) :: r, h => by
    rw [List.lookup_cons]
    by_cases e : x = y
    · subst e; exact ⟨c, by simp⟩
    · have : (x == y) = false := by simpa using e
      rw [this]
      simp only [List.map_cons, List.mem_cons] at h
      exact lookup_key (h.resolve_left e)
theorem lookup_mem {α : Type} {x : Str} : ∀ {l : List (Str × α)} {k : α}, l.lookup x = some k → (x, k) ∈ l := fun h => mem_of_lookup h
noncomputable def cellName (cs : List (Str × Addr)) (b : Addr) : Option Str := (cs.find? fun p => p.2 = b ∧ cs.lookup p.1 = some b).map (·.1)
theorem cellName_of {cs : List (Str × Addr)} (ap : cs.Pairwise fun x y => x.2 ≠ y.2) {x : Str} {c : Addr} (h : cs.lookup x = some c) : cellName cs c = some x := by
  unfold cellName
  cases q : cs.find? (fun p => p.2 = c ∧ cs.lookup p.1 = some c) with
  | none =>
    have := List.find?_eq_none.mp q (x, c) (lookup_mem h)
    simp [h] at this
  | some p =>
    have h1 := List.mem_of_find?_eq_some q
    have h2 : p.2 = c ∧ cs.lookup p.1 = some c := by simpa using List.find?_some q
    obtain ⟨y, c'⟩ := p
    obtain ⟨h2, _⟩ := h2
    subst h2
    rw [name_of_addr ap h1 (lookup_mem h)]; rfl
theorem cellName_some {cs : List (Str × Addr)} {b : Addr} {x : Str} (h : cellName cs b = some x) : cs.lookup x = some b := by
  unfold cellName at h
  cases q : cs.find? (fun p => p.2 = b ∧ cs.lookup p.1 = some b) with
  | none => rw [q] at h; exact ns9 h
  | some p =>
    rw [q] at h; cases h
    have h2 : p.2 = b ∧ cs.lookup p.1 = some b := by simpa using List.find?_some q
    exact h2.2
noncomputable def enter (κ : Gh) (h : Heap) (L : Addr) (cs : List (Str × Addr)) : Gh := fun b =>
  if b = L then .loc else match cellName cs b with
    | some x => .cell x
    | none => if (κ b).own then (match h.get? b with | some o => .frn o | none => .no) else κ b
noncomputable def leave (κ κ' : Gh) : Gh := fun b => if (κ b).own then κ b else if (κ' b).own then .no else κ' b
section
variable {C : Ctx} {κ κ' : Gh} {G G' : Gst} {h h' : Heap} {L : Addr} {cs : List (Str × Addr)}
theorem enter_out {b : Addr} (hb : b < h.objs.size) (hL : h.objs.size ≤ L) (hc : ∀ n c, cs.lookup n = some c → L < c) : enter κ h L cs b = if (κ b).own then (match h.get? b with | some o => .frn o | none => .no) else κ b := by
  unfold enter
  have hlt : @LT.lt Nat _ b L := Nat.lt_of_lt_of_le hb hL
  rw [if_neg (Nat.ne_of_lt hlt)]
  cases q : cellName cs b with
  | none => rfl
  | some x => exact absurd (hc _ _ (cellName_some q)) (Nat.lt_asymm hlt)
theorem enter_le (I : InvG C κ G h) (hL : h.objs.size ≤ L) (hc : ∀ n c, cs.lookup n = some c → L < c) : Le κ (enter κ h L cs) := by
  refine ⟨fun a o e => ?_, fun a o e => ?_, fun a o e => ?_⟩ <;>
  · rw [enter_out (I.lt a (by rw [e]; simp)) hL hc, e]; rfl
theorem enter_inv (I : InvG C κ G h) (hL : h.objs.size ≤ L) (hc : ∀ n c, cs.lookup n = some c → L < c) (hk : ∀ b o, h.get? b = some o → h'.get? b = some o) (hl : ∃ o, h'.get? L = some o) (hcs : ∀ n c, cs.lookup n = some c → ∃ o, h'.get? c = some o) :
    InvG C (enter κ h L cs) G h' := by
  have l := enter_le (κ := κ) I hL hc
  have back : ∀ {b : Addr} {k : Knd}, enter κ h L cs b = k → k.own = false → k ≠ .no → (κ b = k ∨ ∃ o, k = .frn o ∧ h.get? b = some o) := fun {b k} e n n' => by
    unfold enter at e
    split at e
    · subst e; cases n
    · split at e
      · subst e; cases n
      · split at e
        · split at e
          · rename_i o ho; exact .inr ⟨o, e.symm, ho⟩
          · exact absurd e.symm n'
        · exact .inl e
  refine ⟨fun a o e => l.frn a o (I.base a o e), fun a o e => ?_, fun a o e => ?_, fun a i e => ?_, fun a e => ?_, fun a b i e e' => ?_, fun q hq => l.glo _ _ (I.gi.2 q hq)⟩
  · rcases back e rfl (by simp) with q | ⟨o', q, _⟩
    · exact hk _ _ (I.frz a o q)
    · cases q
  · rcases back e rfl (by simp) with q | ⟨o', q, q'⟩
    · exact hk _ _ (I.frn a o q)
    · cases q; exact hk _ _ q'
  · rcases back e rfl (by simp) with q | ⟨o', q, _⟩
    · obtain ⟨o, gv, a1, a2, a3⟩ := I.glo a i q
      exact ⟨o, gv, hk _ _ a1, a2, a3.mono l.v⟩
    · cases q
  · by_cases z : a = L
    · subst z; exact hl
    · cases q : cellName cs a with
      | some x => exact hcs _ _ (cellName_some q)
      | none =>
        have : κ a ≠ .no := fun w => by
          apply e; unfold enter; rw [if_neg z, q, w]; rfl
        obtain ⟨o, ho⟩ := I.al a this
        exact ⟨o, hk _ _ ho⟩
  · rcases back e rfl (by simp) with q | ⟨o', q, _⟩
    · rcases back e' rfl (by simp) with q' | ⟨o', q', _⟩
      · exact I.gi.1 a b i q q'
      · cases q'
    · cases q
theorem leave_all (I : InvG C κ G h) (hL : h.objs.size ≤ L) (hc : ∀ n c, cs.lookup n = some c → L < c) (l : Le (enter κ h L cs) κ') (I' : InvG C κ' G' h') :
    Le κ (leave κ κ') ∧ Kept κ (leave κ κ') h h' ∧ LeV κ' (leave κ κ') ∧ InvG C (leave κ κ') G' h' := by
  have l₀ := (enter_le (κ := κ) I hL hc).trans l
  have ow : ∀ a, (κ a).own = true → ∃ o, h.get? a = some o ∧ κ' a = .frn o := fun a e => by
    obtain ⟨o, ho⟩ := I.al a (by intro z; rw [z] at e; cases e)
    refine ⟨o, ho, l.frn a o ?_⟩
    rw [enter_out (Heap.lt_size ho) hL hc, if_pos e, ho]
  have lv : ∀ {a : Addr} {k : Knd}, κ' a = k → k.own = false → (∀ o, k ≠ .frn o) → leave κ κ' a = k := fun {a k} e n n' => by
    unfold leave
    split
    · rename_i q
      obtain ⟨o, _, z⟩ := ow a q
      rw [z] at e; exact absurd e.symm (n' o)
    · rw [e, n]; rfl
  have up : ∀ {a : Addr} {k : Knd}, κ a = k → k.own = false → κ' a = k → leave κ κ' a = k := fun {a k} e n e' => by
    unfold leave
    rw [e, n, e', n]; rfl
  have down : ∀ {a : Addr} {k : Knd}, leave κ κ' a = k → k.own = false → k ≠ .no → κ' a = k := fun {a k} e n n' => by
    unfold leave at e
    split at e
    · rename_i q; rw [e, n] at q; cases q
    · split at e
      · exact absurd e.symm n'
      · exact e
  have lV : LeV κ' (leave κ κ') := ⟨fun a o e => lv e rfl (by simp), fun a i e => lv e rfl (by simp)⟩
  refine ⟨⟨fun a o e => up e rfl (l₀.frz a o e), fun a o e => up e rfl (l₀.frn a o e), fun a i e => up e rfl (l₀.glo a i e)⟩, fun a e => ?_, lV, ⟨fun a o e => ?_, fun a o e => I'.frz a o (down e rfl (by simp)), fun a o e => I'.frn a o (down e rfl (by simp)), fun a i e => ?_, fun a e => ?_, ⟨fun a b i e e' => I'.gi.1 a b i (down e rfl (by simp)) (down e' rfl (by simp)), fun q hq => up (I.gi.2 q hq) rfl (I'.gi.2 q hq)⟩⟩⟩
  · obtain ⟨o, ho, z⟩ := ow a e
    exact ⟨by unfold leave; rw [if_pos e], (I'.frn a o z).trans ho.symm⟩
  · exact up (I.base a o e) rfl (I'.base a o e)
  · obtain ⟨o, gv, a1, a2, a3⟩ := I'.glo a i (down e rfl (by simp))
    exact ⟨o, gv, a1, a2, a3.mono lV⟩
  · by_cases q : (κ a).own = true
    · obtain ⟨o, ho, z⟩ := ow a q
      exact ⟨o, I'.frn a o z⟩
    · refine I'.al a fun z => e ?_
      unfold leave
      rw [if_neg q, z]; rfl
end
end Mine
end

section
namespace Mine
open PySem PySem.Calls PyProof.Rows PySem.W
noncomputable def FnAt (C : Ctx) (a : Addr) (ps : List Str) (body : List Stmt) (scope : Scope) (cd : Value := .none) : Prop :=
  ∃ o fd, C.h₀.get? a = some o ∧ o.data = .func fd ∧ fd.body = .stmts body ∧ fd.closure = [] ∧ fd.scope = scope ∧ fd.globals = mainGlobals ∧ fd.builtins = builtinsNs ∧ C.h₀.CodeRec fd.code fd.qualname ∧ (cd = .none ∨ fd.code = cd) ∧
    ∀ (s : Shared) (vs : List Value), (∀ b o, C.h₀.get? b = some o → s.heap.get? b = some o) → vs.length = ps.length → BindsTo s fd ⟨vs, []⟩ (ps.zip vs)
structure ScopeOk (scope : Scope) (ps others : List Str) : Prop where
  kind : scope.kind = .function
  co : scope.isCoroutine = false
  gen : scope.isGenerator = false
  free : ∀ p ∈ scope.names, p.2 ≠ .free
  pars : ∀ x ∈ ps, scope.names.lookup x = some .local ∨ scope.names.lookup x = some .cell
  nd : (ps ++ others).Nodup
noncomputable def start (ms : List MV) (k : Nat) : List Slot := ms.map .val ++ List.replicate k .un
noncomputable def finish (r : Option (Fl × Ab)) : Option (MV × Gst) := match r with
  | some (.ret m, ab) => some (m, ab.2)
  | some (.nxt, ab) => some (.none, ab.2)
  | none => none
theorem zip_mem {α β : Type} : ∀ {l : List α} {r : List β} {i : Nat} {x : α} {y : β}, l[i]? = some x → r[i]? = some y → (x, y) ∈ l.zip r
  | [], _, i, _, _, h, _ => by simp at h
  | _ :: _, [], i, _, _, _, h => by simp at h
  | a :: l, b :: r, 0, _, _, h, h' => by simp at h h'; subst h h'; simp
  | a :: l, b :: r, i + 1, _, _, h, h' => by
    simp at h h'
    rw [List.zip_cons_cons]
    exact List.mem_cons_of_mem _ (zip_mem h h')
theorem VRs.at {C : Ctx} {κ : Gh} {vs : List Value} {ms : List MV} {i : Nat} {m : MV} (h : VRs C κ vs ms) (e : ms[i]? = some m) : ∃ v, vs[i]? = some v ∧ VR C κ v m := by
  revert i m
  refine h.ind (P := fun vs ms => ∀ {i m}, ms[i]? = some m → ∃ v, vs[i]? = some v ∧ VR C κ v m) (fun h => by simp at h) ?_
  intro v m' vs ms a _ ih i m h
  cases i with
  | zero => cases h; exact ⟨_, rfl, a⟩
  | succ i => exact ih (i := i) h
theorem fn_call {C : Ctx} (O : Ok C) {a : Addr} {ps others : List Str} {body : List Stmt} {scope : Scope} {cd : Value} {d : Nat} (hfn : FnAt C a ps body scope cd) (hs : ScopeOk scope ps others)
    {A : Around} {κ : Gh} {G : Gst} {s : Shared} {xs : List Value} {R : Result → Shared → Prop} (hR : Room A (d + 1)) (I : InvG C κ G s.heap) (hxl : xs.length = ps.length) {ss : List Slot} (hsl : ss.length = ps.length)
    (hss : ∀ (κ' : Gh) (h' : Heap) (i : Nat) (x : Str) (v : Value) (sl : Slot), Le κ κ' → ps[i]? = some x → xs[i]? = some v → ss[i]? = some sl → SlotR C κ' h' (some v) x sl)
    (k : ∀ (env : Env) (m : Str → Option Value) (h₁ : Heap) (t₁ : Nat) (L : Addr) (cs : List (Str × Addr)) (E : Value → Shared → Prop), s.heap.objs.size ≤ L → (∀ n c, cs.lookup n = some c → L < c) →
      Inv C ⟨scope, ps ++ others, true, cd⟩ (enter κ s.heap L cs) env m (ss ++ List.replicate others.length .un, G) h₁ → (∀ (i : Nat) (x : Str) (v : Value), ps[i]? = some x → xs[i]? = some v → m x = some v) →
      (∀ b o, s.heap.get? b = some o → h₁.get? b = some o) → Room (A.deeper env) d →
      wpAny (model C.prog C.w) (A.deeper env) (execs body env) (fun fl s' => R (.ok (.ret (match fl with | .ret v => v | _ => .none))) s') E { s with heap := h₁, toks := t₁ }) :
    codeAny (model C.prog C.w) A (.call (.ref a) ⟨xs, []⟩) R s := by
  obtain ⟨o, fd, ho, hd, hb, hcl, hsc, hg, hbi, hcd, hcode, hbind⟩ := hfn
  subst hsc
  have hbd := hbind s xs I.keep hxl
  have hdep := hR.depth
  refine codeAny_call_function (by lia) (I.keep _ _ ho) hd hs.co hs.gen hb (hcd.keeps I.keep) (hbd _ _ _ _ ?_)
  have hkey : ∀ x n, fd.scope.names.lookup x = some NameKind.cell → ∃ c, (cellsFrom n fd.scope.names []).lookup x = some c := fun x n h => lookup_key (cells_key _ _ _ (.inl (lookup_mem h)))
  have hps : ∀ p ∈ ps.zip xs, p.1 ∈ ps := fun p hp => by
    obtain ⟨x, v⟩ := p
    exact (List.of_mem_zip hp).1
  rw [hcl]
  refine wpAny_newFunctionEnv_cells hs.kind (fun p hp => ?_) fun env he s' X => ?_
  · rcases hs.pars p.1 (hps p hp) with h | h
    · exact .inl h
    · obtain ⟨c, hc⟩ := hkey p.1 (s.heap.objs.size + 1) h
      exact .inr ⟨h, by rw [hc]; rfl⟩
  subst he
  obtain ⟨h₁, t₁, e₁, hk₁⟩ := X.done
  subst e₁
  refine ⟨O.nolim.keeps fun b o e => hk₁ b o (I.keep b o e), codeAny_func ?_⟩
  have hab := X.above
  have hap := X.apart
  have hce := X.cell
  have hns := X.toInCall.ns
  generalize hcs : cellsFrom (s.heap.objs.size + 1) fd.scope.names [] = cs at *
  generalize henv : newEnv fd.scope s.heap.objs.size fd.globals cs (fd.qualname ++ ".<locals>.") (some a) fd.code none fd.builtins = env at *
  have eL : env.locals = s.heap.objs.size := by rw [← henv]; rfl
  have eC : env.cells = cs := by rw [← henv]; rfl
  have eS : env.scope = fd.scope := by rw [← henv]; rfl
  have eG : env.globals = fd.globals := by rw [← henv]; rfl
  have eB : env.builtins = fd.builtins := by rw [← henv]; rfl
  have eD : env.code = fd.code := by rw [← henv]; rfl
  have eK : ∀ x, env.kindOf x = fd.scope.names.lookup x := fun x => by unfold Env.kindOf; rw [eS]
  rw [eL] at hab hns
  rw [eC] at hab hap hce
  have hal : ∃ o, h₁.get? s.heap.objs.size = some o := let ⟨o, _, _, e, _⟩ := hns; ⟨o, e⟩
  have hab' : ∀ n c, cs.lookup n = some c → s.heap.objs.size < c := fun n c e => hab n c (lookup_mem e)
  have hcal : ∀ n c, cs.lookup n = some c → ∃ o, h₁.get? c = some o := fun n c e => let ⟨o, ho, _⟩ := hce n c e; ⟨o, ho⟩
  have I₁ : InvG C (enter κ s.heap s.heap.objs.size cs) G h₁ := enter_inv I (Nat.le_refl _) hab' hk₁ hal hcal
  have l₁ : Le κ (enter κ s.heap s.heap.objs.size cs) := enter_le I (Nat.le_refl _) hab'
  let m : Str → Option Value := fun x => if env.kindOf x = some .local then bindL env.kindOf (ps.zip xs) (fun _ => none) x else bindC env.kindOf (ps.zip xs) (fun _ => none) x
  have hkc : ∀ x c, fd.scope.names.lookup x = some .cell → cs.lookup x = some c → enter κ s.heap s.heap.objs.size cs c = .cell x := fun x c _ hl => by
    unfold enter
    rw [if_neg (Nat.ne_of_gt (hab' x c hl)), cellName_of hap hl]
  have hm : ∀ (i : Nat) (x : Str) (v : Value), ps[i]? = some x → xs[i]? = some v → m x = some v := fun i x v e hv => by
    have hmem : (x, v) ∈ ps.zip xs := zip_mem e hv
    have hnd : ((ps.zip xs).map (·.1)).Nodup := by
      rw [List.map_fst_zip (by rw [hxl]; exact Nat.le_refl _)]
      exact (List.nodup_append.mp hs.nd).1
    obtain ⟨b1, b2⟩ := bind_at env.kindOf (ps.zip xs) (fun _ => none) (fun _ => none) hnd hmem
    simp only [m]
    split
    · rename_i q; exact b1 q
    · rename_i q; exact b2 q
  have F₁ : InvF C ⟨fd.scope, ps ++ others, true, cd⟩ (enter κ s.heap s.heap.objs.size cs) env m (ss ++ List.replicate others.length .un) h₁ := by
    refine ⟨eS, hs.kind, ⟨eG.trans hg, hcode.elim .inl fun z => .inr (eD.trans z)⟩, eB.trans hbi, hs.nd, by rw [eL]; unfold enter; rw [if_pos rfl], ⟨_, eL ▸ hns, fun x hx => ?_⟩, fun x hx => ?_, fun _ x c hk hl => ?_, ?_, fun i x sl e e' => ?_⟩
    · show _ = m x
      simp only [m, if_pos hx]
    · rw [eK] at hx
      rcases hx with hx | hx
      · obtain ⟨c, hc⟩ := hkey x (s.heap.objs.size + 1) hx
        rw [hcs] at hc
        refine ⟨c, eC ▸ hc, ?_, .inl (hkc x c hx hc)⟩
        have : m x = bindC env.kindOf (ps.zip xs) (fun _ => none) x := by
          simp only [m]; rw [if_neg (by rw [eK, hx]; simp)]
        rw [this]
        exact hce x c hc
      · exact absurd rfl (hs.free _ (lookup_mem hx))
    · rw [eK] at hk; rw [eC] at hl; exact hkc x c hk hl
    · simp [hsl]
    · by_cases hi : i < ps.length
      · rw [List.getElem?_append_left hi] at e
        rw [List.getElem?_append_left (by simpa [hsl] using hi)] at e'
        have hv : ∃ v, xs[i]? = some v := ⟨xs[i]'(by rw [hxl]; exact hi), List.getElem?_eq_getElem _⟩
        obtain ⟨v, hv⟩ := hv
        rw [hm i x v e hv]
        exact hss _ _ i x v sl l₁ e hv e'
      · rw [List.getElem?_append_right (by simpa [hsl] using hi)] at e'
        rw [List.getElem?_replicate] at e'
        split at e'
        · cases e'; trivial
        · exact ns9 e'
  have Room₁ : Room (A.deeper env) d := ⟨by have e : (A.deeper env).depth = A.depth + 1 := rfl; rw [e]; lia, by have e : (A.deeper env).units = A.units + 3 := rfl; have := hR.units; rw [e]; lia, hR.hh⟩
  exact k env m h₁ t₁ s.heap.objs.size cs _ (Nat.le_refl _) hab' ⟨I₁, F₁⟩ hm hk₁ Room₁
theorem sc_fn {C : Ctx} (O : Ok C) {a : Addr} {ps others : List Str} {body : List Stmt} {scope : Scope} {cd : Value} {d : Nat} {F : Ab → Option (Fl × Ab)} (hfn : FnAt C a ps body scope cd) (hs : ScopeOk scope ps others)
    (hF : SSs C ⟨scope, ps ++ others, true, cd⟩ d body F) : SC C (d + 1) (.ref a) (fun ms G => if ms.length = ps.length then finish (F (start ms others.length, G)) else none) := by
  intro A κ G G' s xs ms r R hR I hx hq k
  dsimp only at hq
  split at hq
  case isFalse => exact ns9 hq
  rename_i hlen
  have hvl := hx.length
  refine fn_call O hfn hs (ss := ms.map .val) hR I (hvl.trans hlen) (by simpa using hlen) (fun κ' h' i x v sl l e1 e2 e3 => ?_) fun env m h₁ t₁ L cs E hL hab I₁ _ hk₁ R₁ => ?_
  · rw [List.getElem?_map] at e3
    cases hm : ms[i]? with
    | none => rw [hm] at e3; exact ns9 e3
    | some mv =>
      rw [hm] at e3; cases e3
      obtain ⟨v', hv, hr⟩ := hx.at hm
      rw [e2] at hv; cases hv
      exact ⟨v, rfl, hr.mono l.v⟩
  · cases hf : F (start ms others.length, G) with
    | none => rw [hf] at hq; exact ns9 hq
    | some p =>
      obtain ⟨fl, ρ', G₂⟩ := p
      rw [hf] at hq
      refine hF (ab := (start ms others.length, G)) (s := { s with heap := h₁, toks := t₁ }) R₁ I₁ hf fun v m' h' t' κ' l hv I' => ?_
      obtain ⟨e1, e2, e3, e4⟩ := leave_all I hL hab l I'.g
      cases fl with
      | nxt =>
        cases hq
        cases v <;> first | exact hv.elim | skip
        exact k _ h' t' _ e1 e2 .none e4
      | ret mv =>
        cases hq
        cases v <;> first | exact hv.elim | skip
        exact k _ h' t' _ e1 e2 (VR.mono e3 hv) e4
end Mine
end

section
namespace Mine
open PySem PySem.Calls PyProof.Rows PySem.W
noncomputable def SL (C : Ctx) (Γ : Frm) (d : Nat) (es : List Expr) (f : Ab → Option (List MV × Ab)) : Prop :=
  ∀ ⦃A : Around⦄ ⦃env : Env⦄ ⦃κ : Gh⦄ ⦃m : Str → Option Value⦄ ⦃ab ab' : Ab⦄ ⦃s : Shared⦄ ⦃r : List MV⦄ ⦃pos : Pos⦄ ⦃Q : List Value → Shared → Prop⦄ ⦃E : Value → Shared → Prop⦄,
    Room A d → Inv C Γ κ env m ab s.heap → f ab = some (r, ab') →
    (∀ v h' t' κ', Le κ κ' → VRs C κ' v r → Inv C Γ κ' env m ab' h' → Q v { s with heap := h', toks := t' }) →
    wpAny (model C.prog C.w) A (spliced (backTo pos (starEach es env))) Q E s
noncomputable def l09 (ab : Ab) : Option (List MV × Ab) := some ([], ab)
noncomputable def lC9 (f : Ab → Option (MV × Ab)) (g : Ab → Option (List MV × Ab)) (ab : Ab) : Option (List MV × Ab) := match f ab with
  | none => none
  | some (a, ab) => match g ab with
    | none => none
    | some (l, ab) => some (a :: l, ab)
section
variable {C : Ctx} {Γ : Frm} {d : Nat}
theorem sz9 : SL C Γ d [] l09 := by
  intro A env κ m ab ab' s r pos Q E R I hq h
  cases hq
  exact wpAny_items_nil (h [] s.heap s.toks κ (Le.refl κ) .nil I)
theorem sk9 {e : Expr} {es : List Expr} {f : Ab → Option (MV × Ab)} {g : Ab → Option (List MV × Ab)} (hf : SE C Γ d e f) (hg : SL C Γ d es g) (hst : ∀ env, starEach (e :: es) env = (false, eval e env) :: starEach es env) : SL C Γ d (e :: es) (lC9 f g) := by
  intro A env κ m ab ab' s r pos Q E R I hq h
  unfold lC9 at hq
  split at hq
  · exact ns9 hq
  rename_i a ab₁ e1
  split at hq
  · exact ns9 hq
  rename_i l ab₂ e2
  cases hq
  refine wpAny_items_cons (hf R I e1 fun v h₁ t₁ κ₁ l₁ v₁ I₁ => hg R I₁ e2 fun vs h₂ t₂ κ₂ l₂ v₂ I₂ => ?_) (hst env)
  exact h (v :: vs) h₂ t₂ κ₂ (l₁.trans l₂) (.cons (v₁.mono l₂.v) v₂) I₂
noncomputable def fTup (g : Ab → Option (List MV × Ab)) (ab : Ab) : Option (MV × Ab) := match g ab with
  | some (l, ab) => if l.length ≤ room then some (.tup l, ab) else none
  | none => none
noncomputable def fLst (g : Ab → Option (List MV × Ab)) (ab : Ab) : Option (MV × Ab) := match g ab with
  | some (l, ab) => if l.length ≤ room then some (.lst l, ab) else none
  | none => none
theorem se_tup {es : List Expr} {k : Nat} {pos : Pos} {g : Ab → Option (List MV × Ab)} (hg : SL C Γ d es g) : SE C Γ d (.Tuple es k pos) (fTup g) := by
  intro A env κ m ab ab' s r Q E R I hq h
  unfold fTup at hq
  split at hq
  case h_2 => exact ns9 hq
  rename_i l ab₁ e1
  split at hq
  case isFalse => exact ns9 hq
  rename_i hl
  cases hq
  refine wpAny_Tuple (hg R I e1 fun vs h₁ t₁ κ₁ l₁ v₁ I₁ => ⟨?_, ?_⟩)
  · rw [v₁.length]; exact Nat.le_trans hl room_line
  · obtain ⟨l₂, k₂, I₂⟩ := made I₁.g (tupOf vs 0) rfl
    exact h _ _ t₁ _ (l₁.trans l₂) (.tup (put_self ..) (v₁.mono l₂.v)) (I₁.keep I₂ l₂ k₂)
theorem se_lst {es : List Expr} {pos : Pos} {g : Ab → Option (List MV × Ab)} (hg : SL C Γ d es g) : SE C Γ d (.List es pos) (fLst g) := by
  intro A env κ m ab ab' s r Q E R I hq h
  unfold fLst at hq
  split at hq
  case h_2 => exact ns9 hq
  rename_i l ab₁ e1
  split at hq
  case isFalse => exact ns9 hq
  rename_i hl
  cases hq
  refine wpAny_List (hg R I e1 fun vs h₁ t₁ κ₁ l₁ v₁ I₁ => ⟨?_, ?_⟩)
  · rw [v₁.length]; exact Nat.le_trans hl room_line
  · obtain ⟨l₂, k₂, I₂⟩ := made I₁.g (lstOf vs 0) rfl
    exact h _ _ t₁ _ (l₁.trans l₂) (.lst (put_self ..) (v₁.mono l₂.v)) (I₁.keep I₂ l₂ k₂)
noncomputable def Glob (C : Ctx) (Γ : Frm) (x : Str) (v : Value) : Prop := C.mg x = some v ∧ Γ.scope.names.lookup x = some .globalImplicit ∧ (x == ("__debug__" : Str)) = false
noncomputable def Blt (C : Ctx) (Γ : Frm) (x : Str) (v : Value) : Prop := C.mg x = none ∧ C.mb x = some v ∧ Γ.scope.names.lookup x = some .globalImplicit ∧ (x == ("__debug__" : Str)) = false
theorem glob_name (O : Ok C) {A : Around} {env : Env} {κ : Gh} {m : Str → Option Value} {ab : Ab} {s : Shared} {x : Str} {pos : Pos} {v : Value} {Q : Value → Shared → Prop} {E : Value → Shared → Prop}
    (I : Inv C Γ κ env m ab s.heap) (g : Glob C Γ x v) (h : Q v s) : wpAny (model C.prog C.w) A (eval (.Name x pos) env) Q E s := by
  obtain ⟨g1, g2, g3⟩ := g
  have F := I.f
  exact Calls.Name_function_global (by rw [F.scope]; exact F.fn) (by unfold Env.kindOf; rw [F.scope]; exact g2) (Calls.loadGlobal_global (by rw [F.gl.1]; exact O.gns.keeps I.g.keep) g1 h) g3
theorem blt_name (O : Ok C) {A : Around} {env : Env} {κ : Gh} {m : Str → Option Value} {ab : Ab} {s : Shared} {x : Str} {pos : Pos} {v : Value} {Q : Value → Shared → Prop} {E : Value → Shared → Prop}
    (I : Inv C Γ κ env m ab s.heap) (g : Blt C Γ x v) (h : Q v s) : wpAny (model C.prog C.w) A (eval (.Name x pos) env) Q E s := by
  obtain ⟨g1, g2, g3, g4⟩ := g
  have F := I.f
  exact Calls.Name_function_global (by rw [F.scope]; exact F.fn) (by unfold Env.kindOf; rw [F.scope]; exact g3) (Calls.loadGlobal_builtin (by rw [F.gl.1]; exact O.gns.keeps I.g.keep) g1 (by rw [F.bi]; exact O.bns.keeps I.g.keep) g2 h) g4
theorem any_backTo (pos : Pos) (l : List (Bool × Sem Value)) : (backTo pos l).any (·.1) = l.any (·.1) := by
  unfold backTo
  rw [List.any_map]; rfl
theorem evalArgs_any {M : Model} {A : Around} {E : Value → Shared → Prop} {s : Shared} {f : Value} {pos : Pos} {l : List (Bool × Sem Value)} {Q : Args → Shared → Prop} (hl : l.any (·.1) = false)
    (h : wpAny M A (spliced (backTo pos l)) (fun vs s' => Q ⟨vs, []⟩ s') E s) : wpAny M A (evalArgs f true (backTo pos l) []) Q E s := by
  cases l with
  | nil =>
    unfold evalArgs
    show wpAny M A (spliced [] >>= _) Q E s
    refine wpAny_bind (wpAny_mono h (fun vs s' h' => ?_) fun _ _ x => x)
    refine wpAny_bind (wpAny_pure ?_)
    refine wpAny_holding ?_
    refine wpAny_bind (wpAny_pure (wpAny_bind (wpAny_pure ?_)))
    exact wpAny_pure h'
  | cons x r =>
    obtain ⟨b, t⟩ := x
    simp only [List.any_cons, Bool.or_eq_false_iff] at hl
    obtain ⟨hb, _⟩ := hl
    subst hb
    exact evalArgs_plain h
theorem callArgs (O : Ok C) {A : Around} {env : Env} {κ : Gh} {m : Str → Option Value} {ab ab' : Ab} {s : Shared} {es : List Expr} {g : Ab → Option (List MV × Ab)} {pos : Pos} {f : Addr} {first : List Value} {l : List MV} {Q : Value → Shared → Prop} {E : Value → Shared → Prop}
    (R : Room A d) (I : Inv C Γ κ env m ab s.heap) (hk : keepIn C.K (.ref f) = true) (hg : SL C Γ d es g) (hst : ∀ env, (starEach es env).any (·.1) = false) (hq : g ab = some (l, ab'))
    (h : ∀ vs h' t' κ', Le κ κ' → VRs C κ' vs l → Inv C Γ κ' env m ab' h' → codeAny (model C.prog C.w) A (.call (.ref f) ⟨first ++ vs, []⟩) (fun r s' => match r with | .ok (.ret v) => Q v s' | .ok _ => False | .error e => E e s') { s with heap := h', toks := t' }) :
    wpAny (model C.prog C.w) A (callWith pos (.ref f) first (backTo pos (starEach es env)) []) Q E s := by
  refine callWith_of (P := fun h => C.K.In h) ?_ (keeps_K hk) (evalArgs_any (hst env) (hg R I hq fun vs h' t' κ' l' v' I' => ?_))
  · rw [any_backTo, hst]; rfl
  · exact ⟨O.inK I'.g, wpAny_call (h vs h' t' κ' l' v' I')⟩
noncomputable def fA9 (spec : List MV → Gst → Option (MV × Gst)) (g : Ab → Option (List MV × Ab)) (ab : Ab) : Option (MV × Ab) := match g ab with
  | none => none
  | some (l, ab) => match spec l ab.2 with
    | none => none
    | some (r, G) => some (r, ab.1, G)
theorem sa9 (O : Ok C) {x : Str} {p pos : Pos} {es : List Expr} {a : Addr} {spec : List MV → Gst → Option (MV × Gst)} {g : Ab → Option (List MV × Ab)} (hx : Glob C Γ x (.ref a)) (hk : keepIn C.K (.ref a) = true)
    (hc : SC C d (.ref a) spec) (hg : SL C Γ d es g) (hst : ∀ env, (starEach es env).any (·.1) = false) : SE C Γ d (.Call (.Name x p) es [] pos) (fA9 spec g) := by
  intro A env κ m ab ab' s r Q E R I hq h
  unfold fA9 at hq
  split at hq
  · exact ns9 hq
  rename_i l ab₁ e1
  split at hq
  · exact ns9 hq
  rename_i r' G' e2
  cases hq
  show wpAny _ _ (eval (.Name x p) env >>= fun f => callWith pos f [] (backTo pos (starEach es env)) (backToKw pos (keywordEach [] env))) _ _ _
  refine wpAny_bind (glob_name O I hx (callArgs O R I hk hg hst e1 fun vs h₁ t₁ κ₁ l₁ v₁ I₁ => ?_))
  refine hc (s := { s with heap := h₁, toks := t₁ }) R I₁.g v₁ e2 fun v h₂ t₂ κ₂ l₂ k₂ v₂ I₂ => ?_
  exact h v h₂ t₂ κ₂ (l₁.trans l₂) v₂ (I₁.keep I₂ l₂ k₂)
noncomputable def Disp (C : Ctx) (d : Nat) (name : Str) (disp : Nat → Option (List MV → Gst → Option (MV × Gst))) : Prop :=
  ∀ c sp, disp c = some sp → ∃ a, c < 10 ∧ plainGet C.K (C.cAd c) name = true ∧ findIn C.K (.ref (C.cAd c)) name = some (some (.ref a)) ∧ isFn C.K (.ref a) = true ∧ keepIn C.K (.ref a) = true ∧ name ∉ flds c ∧ SC C d (.ref a) sp
noncomputable def fCallM (disp : Nat → Option (List MV → Gst → Option (MV × Gst))) (f : Ab → Option (MV × Ab)) (g : Ab → Option (List MV × Ab)) (ab : Ab) : Option (MV × Ab) := match f ab with
  | some (.obj c ms, ab) => match g ab with
    | none => none
    | some (l, ab) => match disp c with
      | none => none
      | some sp => match sp (.obj c ms :: l) ab.2 with
        | none => none
        | some (r, G) => some (r, ab.1, G)
  | _ => none
theorem DRs.off {C : Ctx} {κ : Gh} {x : Str} {es : List DictEntry} {ms : List (Str × MV)} (h : DRs C κ es ms) : x ∉ ms.map (·.1) → ∀ n, lookIn x (dictOf es n) = some none := by
  refine h.ind (P := fun es ms => x ∉ ms.map (·.1) → ∀ n, lookIn x (dictOf es n) = some none) (fun _ _ => rfl) ?_
  intro y t v m' es ms a _ ih h n
  have ne : y ≠ x := fun e => h (by simp [e])
  have ih := ih (fun q => h (by simp only [List.map_cons, List.mem_cons]; exact .inr q)) n
  unfold lookIn at ih ⊢
  simp only [List.toList_toArray] at ih ⊢
  rw [List.find?_cons, List.any_cons]
  have e1 : (Value.str y t).isStr x = false := by simp [Value.isStr, ne]
  simp only [e1]
  cases q : es.find? (fun en => en.key.isStr x) with
  | some en => rw [q] at ih; simp at ih
  | none =>
    rw [q] at ih
    dsimp only at ih ⊢
    split at ih
    · exact ns9 ih
    · rename_i z
      have : DictEntry.refKey ⟨PyData.keyHash C.w.params y, .str y t, v⟩ = false := rfl
      rw [this, Bool.false_or, if_neg z]
theorem zip_names {α : Type} {x : Str} {l : List Str} {ms : List α} (h : x ∉ l) : x ∉ (l.zip ms).map (·.1) := fun q => by
  obtain ⟨⟨y, v⟩, hp, e⟩ := List.mem_map.mp q
  cases e
  exact h (List.of_mem_zip hp).1
theorem se_callM (O : Ok C) {o : Expr} {name : Str} {apos pos : Pos} {es : List Expr} {disp : Nat → Option (List MV → Gst → Option (MV × Gst))} {f : Ab → Option (MV × Ab)} {g : Ab → Option (List MV × Ab)}
    (hd : Disp C d name disp) (hf : SE C Γ d o f) (hg : SL C Γ d es g) (hst : ∀ env, (starEach es env).any (·.1) = false)
    (pl : Env → Sem Bool) (he : ∀ env, eval (.Call (.Attribute o name apos) es [] pos) env = (do
      let ov ← eval o env
      standAt apos.atName
      let (f, first) ← holding [ov] (getMethod ov name (pl env))
      callWith pos f first (backTo pos (starEach es env)) (backToKw pos (keywordEach [] env)))) : SE C Γ d (.Call (.Attribute o name apos) es [] pos) (fCallM disp f g) := by
  intro A env κ m ab ab' s r Q E R I hq h
  unfold fCallM at hq
  split at hq
  case h_2 => exact ns9 hq
  rename_i c ms ab₁ e1
  split at hq
  · exact ns9 hq
  rename_i l ab₂ e2
  split at hq
  · exact ns9 hq
  rename_i sp e3
  split at hq
  · exact ns9 hq
  rename_i r' G' e4
  cases hq
  obtain ⟨a, hc, hpg, hfi, hfn, hk, hnf, hsc⟩ := hd c sp e3
  refine methodCall_KW (pl := pl env) (hf R I e1 fun v h₁ t₁ κ₁ l₁ v₁ I₁ => ?_) (he env)
  obtain ⟨_, _, _, _, rfl, ka, kd, hdr, hl⟩ := v₁.obj_inv
  have inst : InstAt h₁ _ _ (C.cAd c) (some _) := ⟨I₁.g.frz _ _ ka, rfl, rfl, I₁.g.frz _ _ kd⟩
  obtain ⟨p1, p2⟩ := plainGet_of hpg
  refine method_fn (s := { s with heap := h₁, toks := t₁ }) (O.inK I₁.g) inst p1 p2 hfi (beq_iff_eq.mp hfn) ?_ ?_
  · have z := hdr.off (zip_names (ms := ms) hnf)
    show (lookIn name _).map _ = _
    rw [z]; rfl
  · refine callArgs (s := { s with heap := h₁, toks := t₁ }) O R I₁ hk hg hst e2 fun vs h₂ t₂ κ₂ l₂ v₂ I₂ => ?_
    refine hsc (s := { s with heap := h₂, toks := t₂ }) R I₂.g (.cons (.obj (l₂.frz _ _ ka) (l₂.frz _ _ kd) (hdr.mono l₂.v) hl) v₂) e4 fun v h₃ t₃ κ₃ l₃ k₃ v₃ I₃ => ?_
    exact h v h₃ t₃ κ₃ (l₁.trans (l₂.trans l₃)) v₃ (I₂.keep I₃ l₃ k₃)
end
end Mine
end

section
namespace Mine
open PySem PySem.Calls PyProof.Rows PySem.W
theorem InvG.remark {C : Ctx} {κ : Gh} {G : Gst} {h h' : Heap} {a : Addr} {o o' : Obj} (I : InvG C κ G h) (hk : κ a = .frn o) (hb : C.h₀.get? a = none) (hs : Heap.ExtBut a h h') (ho : h'.get? a = some o') : InvG C (put κ a (.frn o')) G h' := by
  have lv : LeV κ (put κ a (.frn o')) := ⟨fun b p e => by
    have : b ≠ a := by rintro rfl; rw [hk] at e; cases e
    rw [put_ne _ _ this]; exact e, fun b p e => by
    have : b ≠ a := by rintro rfl; rw [hk] at e; cases e
    rw [put_ne _ _ this]; exact e⟩
  refine ⟨fun b p e => ?_, fun b p e => ?_, fun b p e => ?_, fun b i e => ?_, fun b e => ?_, fun b b' i e e' => ?_, fun q hq => lv.glo _ _ (I.gi.2 q hq)⟩
  · have : b ≠ a := by rintro rfl; rw [hb] at e; cases e
    rw [put_ne _ _ this]; exact I.base b p e
  · by_cases q : b = a
    · subst q; rw [put_self] at e; cases e
    · rw [put_ne _ _ q] at e; exact hs b p q (I.frz b p e)
  · by_cases q : b = a
    · subst q; rw [put_self] at e; cases e; exact ho
    · rw [put_ne _ _ q] at e; exact hs b p q (I.frn b p e)
  · by_cases q : b = a
    · subst q; rw [put_self] at e; cases e
    · rw [put_ne _ _ q] at e
      obtain ⟨o₁, gv, a1, a2, a3⟩ := I.glo b i e
      exact ⟨o₁, gv, hs b _ q a1, a2, a3.mono lv⟩
  · by_cases q : b = a
    · subst q; exact ⟨o', ho⟩
    · rw [put_ne _ _ q] at e
      obtain ⟨o₁, ho₁⟩ := I.al b e
      exact ⟨o₁, hs b _ q ho₁⟩
  · have na : b ≠ a := by rintro rfl; rw [put_self] at e; cases e
    have nb : b' ≠ a := by rintro rfl; rw [put_self] at e'; cases e'
    rw [put_ne _ _ na] at e; rw [put_ne _ _ nb] at e'
    exact I.gi.1 b b' i e e'
structure LeB (a : Addr) (κ κ' : Gh) : Prop where
  frz : ∀ b o, κ b = .frz o → κ' b = .frz o
  frn : ∀ b o, b ≠ a → κ b = .frn o → κ' b = .frn o
  glo : ∀ b i, κ b = .glo i → κ' b = .glo i
theorem Le.but {κ κ' : Gh} (l : Le κ κ') (a : Addr) : LeB a κ κ' := ⟨l.frz, fun b o _ e => l.frn b o e, l.glo⟩
theorem LeB.v {a : Addr} {κ κ' : Gh} (l : LeB a κ κ') : LeV κ κ' := ⟨l.frz, l.glo⟩
theorem LeB.trans {a : Addr} {κ κ' κ'' : Gh} (l : LeB a κ κ') (k : LeB a κ' κ'') : LeB a κ κ'' := ⟨fun b o e => k.frz b o (l.frz b o e), fun b o n e => k.frn b o n (l.frn b o n e), fun b o e => k.glo b o (l.glo b o e)⟩
theorem LeB.put {κ : Gh} {a : Addr} {o : Obj} (k : Knd) (hk : κ a = .frn o) : LeB a κ (put κ a k) := by
  refine ⟨fun b p e => ?_, fun b p n e => by rw [put_ne _ _ n]; exact e, fun b p e => ?_⟩ <;>
  · have : b ≠ a := by rintro rfl; rw [hk] at e; cases e
    rw [put_ne _ _ this]; exact e
theorem LeB.le {κ κ₁ κ' : Gh} {a : Addr} (l₀ : Le κ κ₁) (l : LeB a κ₁ κ') (hk : κ a = .no) : Le κ κ' :=
  ⟨fun b o e => l.frz b o (l₀.frz b o e), fun b o e => l.frn b o (by rintro rfl; rw [hk] at e; cases e) (l₀.frn b o e), fun b o e => l.glo b o (l₀.glo b o e)⟩
theorem InvF.remark {C : Ctx} {Γ : Frm} {κ : Gh} {env : Env} {m : Str → Option Value} {ρ : List Slot} {G : Gst} {h h' : Heap} {a : Addr} {o : Obj} {k : Knd} (F : InvF C Γ κ env m ρ h) (I : InvG C κ G h) (hk : κ a = .frn o) (hc : ∀ v, o.data ≠ .cell v) (hs : Heap.ExtBut a h h') :
    InvF C Γ (put κ a k) env m ρ h' := by
  have ne : ∀ {b : Addr} {q : Knd}, κ b = q → (∀ o, q ≠ .frn o) → b ≠ a := fun {b q} e n => by rintro rfl; exact n o (e.symm.trans hk)
  have kp : ∀ {b : Addr} {q : Knd}, κ b = q → (∀ o, q ≠ .frn o) → put κ a k b = q := fun {b q} e n => by rw [put_ne _ _ (ne e n)]; exact e
  have lv : LeV κ (put κ a k) := ⟨fun b p e => kp e (by simp), fun b p e => kp e (by simp)⟩
  refine ⟨F.scope, F.fn, F.gl, F.bi, F.nd, kp F.kloc (by simp), ?_, fun x hx => ?_, fun ht x c e e' => kp (F.own ht x c e e') (by simp), F.len, fun i x s e e' => ?_⟩
  · obtain ⟨ml, p, q⟩ := F.ns
    exact ⟨ml, p.at' fun o e => hs _ o (ne F.kloc (by simp)) e, q⟩
  · obtain ⟨c, p, q, d⟩ := F.cel x hx
    have hca : c ≠ a := by
      rintro rfl
      obtain ⟨oc, ho, hd⟩ := q
      rw [I.frn _ _ hk] at ho; cases ho
      exact hc _ hd
    obtain ⟨oc, ho, hd⟩ := q
    exact ⟨c, p, ⟨oc, hs c oc hca ho, hd⟩, by rw [put_ne _ _ hca]; exact d⟩
  · have z := F.slots i x s e e'
    cases s with
    | un => trivial
    | val mv => obtain ⟨v, a1, a2⟩ := z; exact ⟨v, a1, a2.mono lv⟩
    | ownL ls => obtain ⟨b, vs, n, a1, a2, a3, a4⟩ := z; exact ⟨b, vs, n, a1, kp a2 (by simp), hs b _ (ne a2 (by simp)) a3, a4.mono lv⟩
    | ownD ls => obtain ⟨b, vs, n, a1, a2, a3, a4, a5⟩ := z; exact ⟨b, vs, n, a1, kp a2 (by simp), hs b _ (ne a2 (by simp)) a3, a4, a5.mono lv⟩
theorem Inv.remark {C : Ctx} {Γ : Frm} {κ : Gh} {env : Env} {m : Str → Option Value} {ab : Ab} {h h' : Heap} {a : Addr} {o o' : Obj} (I : Inv C Γ κ env m ab h) (hk : κ a = .frn o) (hb : C.h₀.get? a = none) (hc : ∀ v, o.data ≠ .cell v)
    (hs : Heap.ExtBut a h h') (ho : h'.get? a = some o') : Inv C Γ (put κ a (.frn o')) env m ab h' := ⟨I.g.remark hk hb hs ho, I.f.remark I.g hk hc hs⟩
theorem InvG.settle {C : Ctx} {κ : Gh} {G : Gst} {h : Heap} {a : Addr} {o : Obj} (I : InvG C κ G h) (hk : κ a = .frn o) (hb : C.h₀.get? a = none) : InvG C (put κ a (.frz o)) G h ∧ LeB a κ (put κ a (.frz o)) := by
  have l : LeB a κ (put κ a (.frz o)) := LeB.put _ hk
  refine ⟨⟨fun b p e => ?_, fun b p e => ?_, fun b p e => ?_, fun b i e => ?_, fun b e => ?_, fun b b' i e e' => ?_, fun q hq => l.glo _ _ (I.gi.2 q hq)⟩, l⟩
  · have : b ≠ a := by rintro rfl; rw [hb] at e; cases e
    rw [put_ne _ _ this]; exact I.base b p e
  · by_cases q : b = a
    · subst q; rw [put_self] at e; cases e; exact I.frn _ _ hk
    · rw [put_ne _ _ q] at e; exact I.frz b p e
  · by_cases q : b = a
    · subst q; rw [put_self] at e; cases e
    · rw [put_ne _ _ q] at e; exact I.frn b p e
  · by_cases q : b = a
    · subst q; rw [put_self] at e; cases e
    · rw [put_ne _ _ q] at e
      obtain ⟨o₁, gv, a1, a2, a3⟩ := I.glo b i e
      exact ⟨o₁, gv, a1, a2, a3.mono l.v⟩
  · by_cases q : b = a
    · subst q; exact I.al b (by rw [hk]; simp)
    · rw [put_ne _ _ q] at e; exact I.al b e
  · have na : b ≠ a := by rintro rfl; rw [put_self] at e; cases e
    have nb : b' ≠ a := by rintro rfl; rw [put_self] at e'; cases e'
    rw [put_ne _ _ na] at e; rw [put_ne _ _ nb] at e'
    exact I.gi.1 b b' i e e'
theorem base_none {C : Ctx} {κ : Gh} {G : Gst} {h : Heap} (I : InvG C κ G h) {a : Addr} (hk : ∀ o, κ a ≠ .frn o) : C.h₀.get? a = none := by
  cases e : C.h₀.get? a with
  | none => rfl
  | some o => exact absurd (I.base a o e) (hk o)
theorem leave_core {C : Ctx} {κ κ' : Gh} {G G' : Gst} {h h' : Heap} (I : InvG C κ G h) (l₀ : Le κ κ') (ow : ∀ a, (κ a).own = true → ∃ o, h.get? a = some o ∧ κ' a = .frn o) (I' : InvG C κ' G' h') :
    Le κ (leave κ κ') ∧ Kept κ (leave κ κ') h h' ∧ LeV κ' (leave κ κ') ∧ InvG C (leave κ κ') G' h' := by
  have lv : ∀ {a : Addr} {k : Knd}, κ' a = k → k.own = false → (∀ o, k ≠ .frn o) → leave κ κ' a = k := fun {a k} e n n' => by
    unfold leave
    split
    · rename_i q
      obtain ⟨o, _, z⟩ := ow a q
      rw [z] at e; exact absurd e.symm (n' o)
    · rw [e, n]; rfl
  have up : ∀ {a : Addr} {k : Knd}, κ a = k → k.own = false → κ' a = k → leave κ κ' a = k := fun {a k} e n e' => by
    unfold leave
    rw [e, n, e', n]; rfl
  have down : ∀ {a : Addr} {k : Knd}, leave κ κ' a = k → k.own = false → k ≠ .no → κ' a = k := fun {a k} e n n' => by
    unfold leave at e
    split at e
    · rename_i q; rw [e, n] at q; cases q
    · split at e
      · exact absurd e.symm n'
      · exact e
  have lV : LeV κ' (leave κ κ') := ⟨fun a o e => lv e rfl (by simp), fun a i e => lv e rfl (by simp)⟩
  refine ⟨⟨fun a o e => up e rfl (l₀.frz a o e), fun a o e => up e rfl (l₀.frn a o e), fun a i e => up e rfl (l₀.glo a i e)⟩, fun a e => ?_, lV, ⟨fun a o e => ?_, fun a o e => I'.frz a o (down e rfl (by simp)), fun a o e => I'.frn a o (down e rfl (by simp)), fun a i e => ?_, fun a e => ?_, ⟨fun a b i e e' => I'.gi.1 a b i (down e rfl (by simp)) (down e' rfl (by simp)), fun q hq => up (I.gi.2 q hq) rfl (I'.gi.2 q hq)⟩⟩⟩
  · obtain ⟨o, ho, z⟩ := ow a e
    exact ⟨by unfold leave; rw [if_pos e], (I'.frn a o z).trans ho.symm⟩
  · exact up (I.base a o e) rfl (I'.base a o e)
  · obtain ⟨o, gv, a1, a2, a3⟩ := I'.glo a i (down e rfl (by simp))
    exact ⟨o, gv, a1, a2, a3.mono lV⟩
  · by_cases q : (κ a).own = true
    · obtain ⟨o, ho, z⟩ := ow a q
      exact ⟨o, I'.frn a o z⟩
    · refine I'.al a fun z => e ?_
      unfold leave
      rw [if_neg q, z]; rfl
end Mine
end

section
namespace Mine
open PySem PySem.Calls PyProof.Rows PySem.W
theorem osa_at {prog : Program} {w : World} {A : Around} {s : Shared} {K : Frag} {x Cl dx : Addr} {name : Str} {tk : Tok} {v : Value} {es : List DictEntry} {n : Nat} {R : Result → Shared → Prop} (X : K.In s.heap)
    (I : InstAt s.heap x (instObj Cl dx) Cl (some (dictOf es n))) (hp : plainOver K Cl = true) (ht : takerIn K Cl name = some none) (hh : (clsIn K Cl).any (·.hasDict) = true)
    (hl : (lookIn name (dictOf es n)).isSome = true) (hz : (putL name (PyData.keyHash w.params name) (.str name s.toks) v es).length ≤ 1000)
    (h : R (.ok (.ret .none)) { s with heap := s.heap.update dx (Obj.putName name (PyData.keyHash w.params name) (.str name s.toks) v), toks := s.toks + 1 }) :
    codeAny (model prog w) A (.call (.builtin "object.__setattr__") ⟨[.ref x, .str name tk, v], []⟩) R s := by
  refine osa_open X I hp ht fun b => ?_
  obtain ⟨cd, hc, hd'⟩ := any_some hh
  obtain ⟨hx, hcl, hn, D⟩ := I
  dsimp only at D
  have D' : (s.heap.update dx (Obj.putName name (PyData.keyHash w.params name) (.str name s.toks) v)).get? dx = some (dictOf (putL name (PyData.keyHash w.params name) (.str name s.toks) v es) (putN name es n)) := by
    rw [← putName_dict]
    exact Heap.get?_update_self _ D (by rw [putName_dict]; rfl)
  refine wpAny_bind (wpAny_pure (wpAny_bind (wpAny_bind (wpAny_loadPart hx (wpAny_bind ((looks_clsIn X hc).here ?_))))))
  rw [hd']
  refine wpAny_pure (a := some dx) (wpAny_bind (wpAny_pure (wpAny_bind ?_)))
  unfold nsSet
  refine wpAny_bind (wpAny_bind (wpAny_askSetting (wpAny_pure (wpAny_bind (wpAny_mkText (wpAny_bind (wpAny_loadPart D ?_)))))))
  have c : (!es.toArray.any (·.key.isStr name) && es.toArray.any (·.refKey)) = false := by
    rw [← Array.any_toList, ← Array.any_toList]
    unfold lookIn at hl
    dsimp only at hl
    split at hl
    · rename_i en he
      rw [List.any_eq_true.mpr ⟨en, List.mem_of_find?_eq_some he, List.find?_some he⟩]; rfl
    · split at hl
      · cases hl
      · rename_i z; rw [Bool.not_eq_true] at z; rw [z, Bool.and_false]
  dsimp only
  rw [aRefKeyMayBeTheName_at, c]
  refine wpAny_updatePart D ?_
  refine wpAny_bind (wpAny_lookBehind D' (pastItsLine_dict (by rw [List.size_toArray, sizeLine_eq]; lia)) ?_)
  exact wpAny_pure h
inductive InitB : List Str → List Stmt → Prop
  | nil : InitB [] []
  | cons {f : Str} {fs : List Str} {b : List Stmt} {p1 p2 p3 p4 : Pos} : InitB fs b → InitB (f :: fs) (.Assign [.Attribute (.Name "self" p1) f p2] (.Name f p3) p4 :: b)
theorem DRs.put {C : Ctx} {κ : Gh} {x : Str} {t : Tok} {v : Value} {m : MV} (hv : VR C κ v m) {es : List DictEntry} {ms : List (Str × MV)} (h : DRs C κ es ms) : x ∉ ms.map (·.1) →
    DRs C κ (putL x (PyData.keyHash C.w.params x) (.str x t) v es) (ms ++ [(x, m)]) := by
  refine h.ind (P := fun es ms => x ∉ ms.map (·.1) → DRs C κ (putL x (PyData.keyHash C.w.params x) (.str x t) v es) (ms ++ [(x, m)])) (fun _ => .cons hv .nil) ?_
  intro y u v' m' es ms a _ ih h
  have ne : y ≠ x := fun e => h (by simp [e])
  have e1 : (Value.str y u).isStr x = false := by simp [Value.isStr, ne]
  unfold putL
  simp only [e1]
  exact .cons a (ih fun q => h (by simp only [List.map_cons, List.mem_cons]; exact .inr q))
theorem putL_len {x : Str} {k : Int} {key v : Value} : ∀ {es : List DictEntry}, (putL x k key v es).length ≤ es.length + 1
  | [] => by simp [putL]
  | e :: r => by
    unfold putL
    split
    · simp
    · have := putL_len (x := x) (k := k) (key := key) (v := v) (es := r)
      simp only [List.length_cons]; lia
theorem DRs.length {C : Ctx} {κ : Gh} {es : List DictEntry} {ms : List (Str × MV)} (h : DRs C κ es ms) : es.length = ms.length :=
  h.ind (P := fun a b => a.length = b.length) rfl fun _ _ ih => congrArg Nat.succ ih
structure ClsAt (C : Ctx) (c : Nat) (fI : Addr) (body : List Stmt) (scope : Scope) : Prop where
  lt : c < 9
  makes : makesIn C.K (C.cAd c) = true
  init : findIn C.K (.ref (C.cAd c)) "__init__" = some (some (.ref fI))
  fn : typeIn C.K (.ref fI) = some (.type "function")
  sets : findIn C.K (.ref (C.cAd c)) "__setattr__" = some (some (.builtin "object.__setattr__"))
  over : plainOver C.K (C.cAd c) = true
  taker : ∀ x ∈ flds c, takerIn C.K (C.cAd c) x = some none
  dict : hasDictIn C.K (C.cAd c) = true
  at_ : FnAt C fI (("self" : Str) :: flds c) body scope
  scopeOk : ScopeOk scope (("self" : Str) :: flds c) []
  body : InitB (flds c) body
  names : (("self" : Str) :: flds c).all (fun x => (x != ("__debug__" : Str)) && (x != ("__classdict__" : Str))) = true
theorem flds_len (c : Nat) : (flds c).length ≤ 10 := by unfold flds; split <;> decide
theorem init_loop {C : Ctx} (O : Ok C) {c : Nat} {fI : Addr} {body : List Stmt} {scope : Scope} (K : ClsAt C c fI body scope) {x dx : Addr} {xs : List Value} {ms : List MV} {A : Around} {env : Env} {m : Str → Option Value} {Q : Flow → Shared → Prop} {E : Value → Shared → Prop}
    (hself : m "self" = some (.ref x)) (hms : ∀ (i : Nat) (f : Str) (v : Value), (flds c)[i]? = some f → xs[i]? = some v → m f = some v) (hl : xs.length = (flds c).length) (hdx : C.h₀.get? dx = none) {ss : List Slot} {G : Gst} :
    ∀ (fs : List Str) (b : List Stmt) (done : List Str) (dv : List MV), InitB fs b → done ++ fs = flds c → done.length = dv.length →
    ∀ (κ : Gh) (s : Shared) (es : List DictEntry) (n : Nat), Inv C ⟨scope, (("self" : Str) :: flds c) ++ [], true, .none⟩ κ env m (ss, G) s.heap → κ x = .frn (instObj (C.cAd c) dx) → κ dx = .frn (dictOf es n) → DRs C κ es (done.zip dv) → ms.take done.length = dv → VRs C κ xs ms →
    (∀ h' t' κ' es' n', LeB dx κ κ' → InvG C κ' G h' → κ' x = .frn (instObj (C.cAd c) dx) → κ' dx = .frn (dictOf es' n') → DRs C κ' es' ((flds c).zip ms) → Q .next { s with heap := h', toks := t' }) →
    wpAny (model C.prog C.w) A (execs b env) Q E s
  | [], b, done, dv, hB, hd, hdl, κ, s, es, n, I, kx, kd, hr, ht, hx, k => by
    cases hB
    rw [List.append_nil] at hd
    subst hd
    have e : ms = dv := by rw [← ht, List.take_of_length_le]; rw [← hx.length, hl]; exact Nat.le_refl _
    subst e
    show wpAny _ _ (execs [] env) _ _ _
    rw [execs_nil]
    exact wpAny_pure (k s.heap s.toks κ es n ((Le.refl κ).but dx) I.g kx kd hr)
  | f :: fs, b, done, dv, hB, hd, hdl, κ, s, es, n, I, kx, kd, hr, ht, hx, k => by
    cases hB with
    | @cons _ _ b p1 p2 p3 p4 hB =>
      have hf : (flds c)[done.length]? = some f := by rw [← hd]; simp
      have hfm : f ∈ flds c := List.mem_of_getElem? hf
      have hlt : done.length < xs.length := by rw [hl, ← hd]; simp
      obtain ⟨v, hv⟩ : ∃ v, xs[done.length]? = some v := ⟨_, List.getElem?_eq_getElem hlt⟩
      obtain ⟨mv, hmv⟩ : ∃ mv, ms[done.length]? = some mv := ⟨_, List.getElem?_eq_getElem (by rw [← hx.length]; exact hlt)⟩
      obtain ⟨v', hv', hvr⟩ := hx.at hmv
      rw [hv] at hv'; cases hv'
      have nm := List.all_eq_true.mp K.names
      have hn1 : ∀ y ∈ (("self" : Str) :: flds c), (y == ("__debug__" : Str)) = false ∧ (y == ("__classdict__" : Str)) = false := fun y hy => by
        have := nm y hy
        simp only [bne, Bool.and_eq_true, Bool.not_eq_true'] at this
        exact this
      have hkd : ∀ y ∈ (("self" : Str) :: flds c), scope.names.lookup y = some .local ∨ scope.names.lookup y = some .cell ∨ scope.names.lookup y = some .free := fun y hy => (K.scopeOk.pars y hy).elim .inl (fun q => .inr (.inl q))
      rw [execs_cons]
      refine wpAny_bind (plainObj_wpAny_Assign_Attribute (wpAny_Name (load_slot I (hkd f (.tail _ hfm)) (hms _ f v hf hv) ?_ (hn1 f (.tail _ hfm)).2) (hn1 f (.tail _ hfm)).1))
      refine wpAny_Name (load_slot I (hkd "self" (.head _)) hself ?_ (hn1 "self" (.head _)).2) (hn1 "self" (.head _)).1
      have X := O.inK I.g
      have IA : InstAt s.heap x (instObj (C.cAd c) dx) (C.cAd c) (some (dictOf es n)) := ⟨I.g.frn _ _ kx, rfl, rfl, I.g.frn _ _ kd⟩
      have hdn : f ∉ (done.zip dv).map (·.1) := fun q => by
        have hnd : (flds c).Nodup := ((List.nodup_append.mp K.scopeOk.nd).1.of_cons)
        rw [← hd] at hnd
        exact (List.nodup_append.mp hnd).2.2 _ (by
          obtain ⟨⟨y, z⟩, hp, e⟩ := List.mem_map.mp q
          cases e
          exact (List.of_mem_zip hp).1) f (.head _) rfl
      refine set_plain X IA K.sets ?_
      refine osa_at (s := { s with toks := s.toks + 1 }) X IA K.over (K.taker f hfm) K.dict (by rw [hr.off hdn n]; rfl) ?_ ?_
      · refine Nat.le_trans putL_len ?_
        rw [hr.length, List.length_zip, ← hdl]
        have h10 := flds_len c
        have : done.length ≤ (flds c).length := by rw [← hd]; simp
        lia
      · dsimp only
        have hsb : Heap.SameBut dx s.heap (s.heap.update dx (Obj.putName f (PyData.keyHash C.w.params f) (.str f (s.toks + 1)) v)) := Heap.SameBut.update ..
        have D' : (s.heap.update dx (Obj.putName f (PyData.keyHash C.w.params f) (.str f (s.toks + 1)) v)).get? dx = some (dictOf (putL f (PyData.keyHash C.w.params f) (.str f (s.toks + 1)) v es) (putN f es n)) := by
          rw [← putName_dict]
          exact Heap.get?_update_self _ (I.g.frn _ _ kd) (by rw [putName_dict]; rfl)
        have I' := I.remark kd hdx (by intro _ z; cases z) hsb.extBut D'
        have xd : x ≠ dx := by rintro rfl; rw [kx] at kd; cases kd
        have lb : LeB dx κ (put κ dx (.frn (dictOf (putL f (PyData.keyHash C.w.params f) (.str f (s.toks + 1)) v es) (putN f es n)))) := LeB.put _ kd
        refine init_loop O K hself hms hl hdx fs b (done ++ [f]) (dv ++ [mv]) hB (by rw [List.append_assoc]; exact hd) (by simp [hdl]) _ _ _ _ I' (by rw [put_ne _ _ xd]; exact kx) (put_self ..) ?_ ?_ (hx.mono lb.v) fun h' t' κ' es' n' l' i1 i2 i3 i4 => k h' t' κ' es' n' (lb.trans l') i1 i2 i3 i4
        · rw [List.zip_append hdl]
          exact (hr.put hvr hdn).mono lb.v
        · rw [List.length_append, List.length_singleton, List.take_add_one, ht, hmv]; rfl
theorem sc_class {C : Ctx} (O : Ok C) {c : Nat} {fI : Addr} {body : List Stmt} {scope : Scope} {d : Nat} (K : ClsAt C c fI body scope) :
    SC C (d + 2) (.ref (C.cAd c)) (fun ms G => if ms.length = (flds c).length then some (.obj c ms, G) else none) := by
  intro A κ G G' s xs ms r R hR I hx hq k
  dsimp only at hq
  split at hq
  case isFalse => exact ns9 hq
  rename_i hlen
  cases hq
  obtain ⟨h, g, dr, t, os⟩ := s
  have X := O.inK I
  refine make_core (makes_of X K.makes) (looks_findIn X K.init) (fun self => bind_fn X self K.fn) (.inl rfl) ?_
  have I1 := I.push (o := emptyDict) (k := .frn emptyDict) rfl ⟨fun _ e => (by cases e), fun _ e => (by cases e; rfl), fun _ e => (by cases e)⟩
  have I2 := I1.push (o := instObj (C.cAd c) h.objs.size) (k := .frn (instObj (C.cAd c) h.objs.size)) rfl ⟨fun _ e => (by cases e), fun _ e => (by cases e; rfl), fun _ e => (by cases e)⟩
  rw [Heap.size_push] at I2
  have f1 : κ h.objs.size = .no := I.free
  have f2 : put κ h.objs.size (.frn emptyDict) (h.objs.size + 1) = .no := by have := I1.free; rw [Heap.size_push] at this; exact this
  generalize hx' : h.objs.size + 1 = x at *
  have hdx : x ≠ h.objs.size := by rw [← hx']; exact Nat.succ_ne_self _
  have l1 : Le κ (put κ h.objs.size (.frn emptyDict)) := Le.put _ f1
  have l2 : Le (put κ h.objs.size (.frn emptyDict)) (put (put κ h.objs.size (.frn emptyDict)) x (.frn (instObj (C.cAd c) h.objs.size))) := Le.put _ f2
  generalize hκ2 : put (put κ h.objs.size (.frn emptyDict)) x (.frn (instObj (C.cAd c) h.objs.size)) = κ2 at *
  have k2x : κ2 x = .frn (instObj (C.cAd c) h.objs.size) := by rw [← hκ2]; exact put_self ..
  have k2d : κ2 h.objs.size = .frn emptyDict := by rw [← hκ2, put_ne _ _ (Ne.symm hdx)]; exact put_self ..
  have bx : C.h₀.get? x = none := base_none I (fun o e => by
    have : κ x = .no := by rw [put_ne _ _ hdx] at f2; exact f2
    rw [this] at e; cases e)
  have bd : C.h₀.get? h.objs.size = none := base_none I (fun o e => by rw [f1] at e; cases e)
  have hR1 : Room (A.under (.builtin "type.__call__" ⟨.ref (C.cAd c) :: xs, []⟩)) (d + 1) := by
    have e1 : (A.under (.builtin "type.__call__" ⟨.ref (C.cAd c) :: xs, []⟩)).depth = A.depth + 1 := rfl
    have e2 : (A.under (.builtin "type.__call__" ⟨.ref (C.cAd c) :: xs, []⟩)).units ≤ A.units + 10 := by
      have e : (Code.builtin "type.__call__" ⟨.ref (C.cAd c) :: xs, []⟩).cUnits = 1 := rfl
      show A.units + (Code.builtin "type.__call__" ⟨.ref (C.cAd c) :: xs, []⟩).cUnits ≤ _
      rw [e]; lia
    have := hR.depth; have := hR.units
    exact ⟨by rw [e1]; lia, by lia, hR.hh⟩
  have hlx : xs.length = (flds c).length := hx.length.trans hlen
  refine fn_call (s := ⟨(h.push emptyDict).push (instObj (C.cAd c) h.objs.size), g, dr, t, os⟩) O K.at_ K.scopeOk (ss := List.replicate (flds c).length.succ .un) hR1 I2 (by simp [hlx]) (by simp) (fun κ' h' i y v sl l e1 e2 e3 => ?_) fun env m h₁ t₁ L cs E hL hab I₁ hm hk₁ R₁ => ?_
  · rw [List.getElem?_replicate] at e3
    split at e3
    · cases e3; trivial
    · exact ns9 e3
  have l3 := enter_le (L := L) (cs := cs) I2 hL hab
  have lA : Le κ (enter κ2 ((h.push emptyDict).push (instObj (C.cAd c) h.objs.size)) L cs) := l1.trans (l2.trans l3)
  refine init_loop O K (ms := ms) (x := x) (dx := h.objs.size) (xs := xs) (hm 0 _ _ rfl rfl) (fun i f v e1 e2 => hm (i + 1) f v (by simpa using e1) (by simpa using e2)) hlx bd (flds c) body [] [] K.body rfl rfl _ _ [] 0 I₁ (l3.frn _ _ k2x) (l3.frn _ _ k2d) .nil rfl (hx.mono lA.v) fun h' t' κ' es' n' lb I' kx kd hdr => ?_
  refine ⟨rfl, ?_⟩
  have lB : Le κ κ' := lb.le lA f1
  obtain ⟨e1, e2, e3, e4⟩ := leave_core I lB (fun a e => by
    obtain ⟨o, ho⟩ := I.al a (by intro z; rw [z] at e; cases e)
    have na : a ≠ h.objs.size := by rintro rfl; rw [f1] at e; cases e
    have nx : a ≠ x := by rintro rfl; rw [put_ne _ _ na] at f2; rw [f2] at e; cases e
    refine ⟨o, ho, lb.frn a o na ?_⟩
    have ho2 : ((h.push emptyDict).push (instObj (C.cAd c) h.objs.size)).get? a = some o := Heap.get?_push_of_some _ (Heap.get?_push_of_some _ ho)
    have k2a : κ2 a = κ a := by rw [← hκ2, put_ne _ _ nx, put_ne _ _ na]
    rw [enter_out (Heap.lt_size ho2) hL hab, k2a, if_pos e, ho2]) I'
  have lx : leave κ κ' x = .frn (instObj (C.cAd c) h.objs.size) := by
    unfold leave
    have : κ x = .no := by rw [put_ne _ _ hdx] at f2; exact f2
    rw [this, kx]; rfl
  have ld : leave κ κ' h.objs.size = .frn (dictOf es' n') := by
    unfold leave
    rw [f1, kd]; rfl
  obtain ⟨J1, b1⟩ := e4.settle lx bx
  have ld' : put (leave κ κ') x (.frz (instObj (C.cAd c) h.objs.size)) h.objs.size = .frn (dictOf es' n') := by rw [put_ne _ _ (Ne.symm hdx)]; exact ld
  obtain ⟨J2, b2⟩ := J1.settle ld' bd
  have kx0 : κ x = .no := by rw [put_ne _ _ hdx] at f2; exact f2
  have lC : Le κ (put (leave κ κ') x (.frz (instObj (C.cAd c) h.objs.size))) := b1.le e1 kx0
  have lD : Le κ (put (put (leave κ κ') x (.frz (instObj (C.cAd c) h.objs.size))) h.objs.size (.frz (dictOf es' n'))) := b2.le lC f1
  refine k (.ref x) h' t' _ lD (fun a e => ?_) (.obj (d := h.objs.size) (es := es') (n := n') ?_ (put_self ..) ?_ hlen.symm) J2
  · have na : a ≠ h.objs.size := by rintro rfl; rw [f1] at e; cases e
    have nx : a ≠ x := by rintro rfl; rw [kx0] at e; cases e
    rw [put_ne _ _ na, put_ne _ _ nx]
    exact e2 a e
  · rw [put_ne _ _ hdx]; exact put_self ..
  · exact hdr.mono ⟨fun b o e => b2.frz _ _ (b1.frz _ _ (e3.frz _ _ e)), fun b o e => b2.glo _ _ (b1.glo _ _ (e3.glo _ _ e))⟩
end Mine
end

section
namespace Mine
open PySem PySem.Calls PyProof.Rows PySem.W
noncomputable def seqAt {α : Type} (l : List α) (k : Int) : Option α := if 0 ≤ k then (if k < 1000000 then l[k.toNat]? else none) else (if -(l.length : Int) ≤ k ∧ -1000000 < k then l[(k + l.length).toNat]? else none)
noncomputable def idxMV (G : Gst) (a i : MV) : Option MV := match a, i with
  | .lst l, .int k => seqAt l k
  | .tup l, .int k => if 0 ≤ k ∧ k < 1000000 then l[k.toNat]? else none
  | .str x, .int k => if 0 ≤ k ∧ k < 1000000 then (x.cps[k.toNat]?).map fun c => .str ⟨#[c]⟩ else none
  | .dct l, .str k => mAt l k
  | .glo g, .str k => match G[g]? with
    | some (.d l) => mAt l k
    | _ => none
  | _, _ => none
noncomputable def fIdx (G : Gst) (a i : MV) : Option (MV × Gst) := (idxMV G a i).map fun r => (r, G)
inductive IdxR (G : Gst) : MV → MV → MV → Prop
  | lp {l : List MV} {k : Int} {r : MV} : 0 ≤ k → k < 1000000 → l[k.toNat]? = some r → IdxR G (.lst l) (.int k) r
  | ln {l : List MV} {k : Int} {r : MV} : k < 0 → -(l.length : Int) ≤ k → -1000000 < k → l[(k + l.length).toNat]? = some r → IdxR G (.lst l) (.int k) r
  | tup {l : List MV} {k : Int} {r : MV} : 0 ≤ k → k < 1000000 → l[k.toNat]? = some r → IdxR G (.tup l) (.int k) r
  | str {x : Str} {k : Int} {c : Nat} : 0 ≤ k → k < 1000000 → x.cps[k.toNat]? = some c → IdxR G (.str x) (.int k) (.str ⟨#[c]⟩)
  | dct {l : List (Str × MV)} {k : Str} {r : MV} : mAt l k = some r → IdxR G (.dct l) (.str k) r
  | glo {g : Nat} {l : List (Str × MV)} {k : Str} {r : MV} : G[g]? = some (.d l) → mAt l k = some r → IdxR G (.glo g) (.str k) r
theorem ite_s {α : Type} {c : Prop} [Decidable c] {a : Option α} {b : α} (h : (if c then a else none) = some b) : c ∧ a = some b := by
  by_cases q : c
  · exact ⟨q, (if_pos q).symm.trans h⟩
  · exact ns9 ((if_neg q).symm.trans h)
theorem idx_inv {G : Gst} {a i r : MV} (h : idxMV G a i = some r) : IdxR G a i r := by
  cases a with
  | lst l =>
    cases i with
    | int k =>
      by_cases q : 0 ≤ k
      · obtain ⟨h1, h2⟩ := ite_s ((if_pos q).symm.trans h); exact .lp q h1 h2
      · obtain ⟨h1, h2⟩ := ite_s ((if_neg q).symm.trans h); exact .ln (Int.not_le.mp q) h1.1 h1.2 h2
    | _ => exact ns9 h
  | tup l =>
    cases i with
    | int k => obtain ⟨h1, h2⟩ := ite_s h; exact .tup h1.1 h1.2 h2
    | _ => exact ns9 h
  | str x =>
    cases i with
    | int k =>
      obtain ⟨h1, h2⟩ := ite_s h
      obtain ⟨c, h3, rfl⟩ := Option.map_eq_some_iff.mp h2
      exact .str h1.1 h1.2 h3
    | _ => exact ns9 h
  | dct l =>
    cases i with
    | str k => exact .dct h
    | _ => exact ns9 h
  | glo g =>
    cases i with
    | str k =>
      replace h : (match G[g]? with | some (.d l) => mAt l k | _ => none) = some r := h
      cases e : G[g]? with
      | none => rw [e] at h; exact ns9 h
      | some d =>
        rw [e] at h
        cases d with
        | d l => exact .glo e h
        | t b => exact ns9 h
    | _ => exact ns9 h
  | _ => exact ns9 h
theorem idx_d {C : Ctx} {slice value : Expr} (hsl : ∀ o i, subscripted slice false o i = operate [o, i] (getItem o i)) {A : Around} {κ : Gh} {s : Shared} {a : Addr} {kvs : List (Str × Value)} {l : List (Str × MV)} {x : Str} {t : Tok} {r : MV} {Q : Value → Shared → Prop} {E : Value → Shared → Prop}
    (hm : s.heap.MapOf (strKind C.prog C.w) a (valueAt kvs)) (hp : PRs C κ kvs l) (e : mAt l x = some r) (k : ∀ v t', VR C κ v r → Q v { s with toks := t' }) : wpAny (model C.prog C.w) A (subscriptTail value slice (.ref a) (.str x t)) Q E s := by
  rcases hp.at (k := x) with ⟨p, q⟩ | ⟨v, m, p, q, hr⟩
  · rw [q] at e; exact ns9 e
  · rw [q] at e
    obtain rfl := Option.some.inj e
    exact tail_any hm.typeIs slot_dict_getitem.lookup (wpAny_getItem_of (strKind_is C.prog C.w x _) hm p (k v _ hr)) (hsl _ _)
theorem tail_idx {C : Ctx} {slice value : Expr} (hsl : ∀ o i, subscripted slice false o i = operate [o, i] (getItem o i)) {A : Around} {κ : Gh} {s : Shared} {G G' : Gst} {x y : Value} {a b r : MV} (I : InvG C κ G s.heap) (hx : VR C κ x a) (hy : VR C κ y b)
    (h : fIdx G a b = some (r, G')) : SO C A κ G s (subscriptTail value slice x y) r G' := by
  obtain ⟨r', e, h'⟩ := Option.map_eq_some_iff.mp h
  obtain ⟨rfl, rfl⟩ := Prod.mk.inj h'
  clear h h'
  refine @SO.val C A κ G s _ _ I (fun {Q E} k => ?_)
  cases idx_inv e with
  | lp h0 h1 e =>
    obtain ⟨_, rfl⟩ := hy.int_inv
    obtain ⟨_, n, vs, rfl, ka, va⟩ := hx.lst_inv
    have hL : s.heap.IsList _ vs.toArray := ⟨_, I.frz _ _ ka, rfl, n, rfl⟩
    obtain ⟨v, hv, hr⟩ := va.at e
    exact tail_any hL.typeIs slot_list_getitem.lookup (wpAny_getItem_list hL h0 (by lia) (by simpa using hv) (k v _ hr)) (hsl _ _)
  | ln h0 h1 h2 e =>
    obtain ⟨_, rfl⟩ := hy.int_inv
    obtain ⟨_, n, vs, rfl, ka, va⟩ := hx.lst_inv
    have hL : s.heap.IsList _ vs.toArray := ⟨_, I.frz _ _ ka, rfl, n, rfl⟩
    obtain ⟨v, hv, hr⟩ := va.at e
    have hsz : vs.toArray.size = _ := List.size_toArray.trans va.length
    exact tail_any hL.typeIs slot_list_getitem.lookup (wpAny_getItem_list_neg hL h0 (by rw [hsz]; exact h1) (by lia) (by rw [hsz]; simpa using hv) (k v _ hr)) (hsl _ _)
  | @tup l i _ h0 h1 e =>
    obtain ⟨_, rfl⟩ := hy.int_inv
    obtain ⟨_, n, vs, rfl, ka, va⟩ := hx.tup_inv
    obtain ⟨v, hv, hr⟩ := va.at e
    have hT : IsTup s.heap _ vs.toArray := ⟨_, I.frz _ _ ka, rfl, n, rfl⟩
    have hlt : i.toNat < vs.length := (List.getElem?_eq_some_iff.mp hv).1
    exact tail_any hT.typeIs slot_tuple_getitem.lookup (getItem_tuple hT (by lia) (by lia) (j := i.toNat) (by rw [List.size_toArray]; exact StrLaws.seqIndex_nonneg h0 (by lia)) (by simpa using hv) (k v _ hr)) (hsl _ _)
  | @str x i c h0 h1 q =>
    obtain ⟨_, rfl⟩ := hy.int_inv
    obtain ⟨_, rfl⟩ := hx.str_inv
    have hlt : i.toNat < x.cps.size := (Array.getElem?_eq_some_iff.mp q).1
    have hj : seqIndex? i x.length = some i.toNat := StrLaws.seqIndex_nonneg h0 (by show i < (x.cps.size : Int); lia)
    refine tail_any (typeIs_str s x _) slot_str_getitem.lookup (PyProof.Rows.getItem_str (by simp; lia) (c := c) ?_ (k _ _ (.str _ _))) (hsl _ _)
    rw [hj, Option.bind_some, q]
  | dct e =>
    obtain ⟨_, rfl⟩ := hy.str_inv
    obtain ⟨_, _, kvs, rfl, kb, hd, hp⟩ := hx.dct_inv
    exact idx_d hsl (Heap.dictOf_iff.mpr ⟨_, I.frz _ _ kb, hd⟩).mapOf hp e k
  | glo eg e =>
    obtain ⟨_, rfl⟩ := hy.str_inv
    obtain ⟨_, rfl, kg⟩ := hx.glo_inv
    obtain ⟨o, gv, a1, a3, a4⟩ := I.glo _ _ kg
    obtain rfl := Option.some.inj (eg.symm.trans a3)
    obtain ⟨kvs, a2, a4⟩ := a4
    exact idx_d hsl (Heap.dictOf_iff.mpr ⟨_, a1, a2⟩).mapOf a4 e k
theorem se_idx {C : Ctx} {Γ : Frm} {d : Nat} {value slice : Expr} {pos : Pos} {f g : Ab → Option (MV × Ab)} (hf : SE C Γ d value f) (hg : SE C Γ d slice g) (hsl : ∀ o i, subscripted slice false o i = operate [o, i] (getItem o i)) :
    SE C Γ d (.Subscript value slice pos) (f2 f g fIdx) := by
  intro A env κ m ab ab' s r Q E R I hq h
  exact Subscript_ (two hf hg (T := subscriptTail value slice) (fun _ I hx hy e => tail_idx hsl I hx hy e) R I hq h)
noncomputable def takeMV (a i : MV) : Option MV := match a, i with
  | .lst l, .int k => if 0 ≤ k ∧ k < 1000000 ∧ l.length ≤ room then some (.lst (l.take k.toNat)) else none
  | _, _ => none
theorem dropped {C : Ctx} {κ : Gh} {G : Gst} {h : Heap} (I : InvG C κ G h) (o : Obj) (hf : o.isFreed = false) :
    Le κ (put κ h.objs.size (.frn o)) ∧ Kept κ (put κ h.objs.size (.frn o)) h (h.push o) ∧ InvG C (put κ h.objs.size (.frn o)) G (h.push o) :=
  ⟨Le.put _ I.free, Kept.put _ _ I.free I.lt, I.push hf ⟨fun _ e => (by cases e), fun _ e => (by cases e; rfl), fun _ e => (by cases e)⟩⟩
theorem VRs.take {C : Ctx} {κ : Gh} {vs : List Value} {ms : List MV} (h : VRs C κ vs ms) (n : Nat) : VRs C κ (vs.take n) (ms.take n) := by
  revert n
  refine h.ind (P := fun a b => ∀ n, VRs C κ (a.take n) (b.take n)) (fun n => ?_) ?_
  · rw [List.take_nil, List.take_nil]; exact .nil
  · intro v m vs ms a _ ih n
    cases n with
    | zero => exact .nil
    | succ n => exact .cons a (ih n)
theorem VRs.drop {C : Ctx} {κ : Gh} {vs : List Value} {ms : List MV} (h : VRs C κ vs ms) (n : Nat) : VRs C κ (vs.drop n) (ms.drop n) := by
  revert n
  refine h.ind (P := fun a b => ∀ n, VRs C κ (a.drop n) (b.drop n)) (fun n => ?_) ?_
  · rw [List.drop_nil, List.drop_nil]; exact .nil
  · intro v m vs ms a r ih n
    cases n with
    | zero => exact .cons a r
    | succ n => exact ih n
theorem se_take {C : Ctx} {Γ : Frm} {d : Nat} {value u : Expr} {p pos : Pos} {f g : Ab → Option (MV × Ab)} (hf : SE C Γ d value f) (hg : SE C Γ d u g) :
    SE C Γ d (.Subscript value (.Slice none (some u) none p) pos) (f2 f g (pureOp takeMV)) := by
  intro A env κ m ab ab' s r Q E R I hq h
  unfold f2 at hq
  split at hq
  · exact ns9 hq
  rename_i a ab₁ e1
  split at hq
  · exact ns9 hq
  rename_i b ab₂ e2
  split at hq
  · exact ns9 hq
  rename_i r' G' e3
  cases hq
  obtain ⟨e4, rfl⟩ := pureOp_eq e3
  refine Subscript_ (hf R I e1 fun x h₁ t₁ κ₁ l₁ v₁ I₁ => ?_)
  refine wpAny_Slice ?_
  rw [evalPart_none, evalPart_some]
  refine wpAny_pure (hg R I₁ e2 fun y h₂ t₂ κ₂ l₂ v₂ I₂ => wpAny_pure ?_)
  have v₁' := v₁.mono l₂.v
  unfold takeMV at e4
  split at e4
  · rename_i l i
    split at e4
    · rename_i hb
      cases e4
      obtain ⟨t, rfl⟩ := v₂.int_inv
      obtain ⟨al, n, vs, rfl, ka, va⟩ := v₁'.lst_inv
      obtain ⟨l₃, k₃, I₃⟩ := dropped I₂.g { cls := .type "slice", data := .fields #[.none, .int i t, .none] } rfl
      have hL : (h₂.push { cls := .type "slice", data := .fields #[.none, .int i t, .none] }).IsList al vs.toArray := ⟨_, I₃.frz _ _ (l₃.frz _ _ ka), rfl, n, rfl⟩
      have hi : i = ((i.toNat : Nat) : Int) := by lia
      refine tail_any (s := { s with heap := h₂.push { cls := .type "slice", data := .fields #[.none, .int i t, .none] }, toks := t₂ }) hL.typeIs slot_list_getitem.lookup
        (wpAny_getItem_list_slice (lo := none) (hi := some i) (st := none) hL (Heap.IsSliceOf.new ..) .none (.int i t) .none (by simp) ?_ ?_) (ops := [.ref h₂.objs.size, .ref al]) rfl
      · obtain ⟨l₄, k₄, I₄⟩ := made I₃ (lstOf (vs.take i.toNat) 0) rfl
        have e : slicePick vs.toArray none (some i) none = (vs.take i.toNat).toArray := by
          have z := slicePick_upto' vs.toArray i.toNat
          rw [← hi] at z
          simpa using z
        rw [e]
        exact h _ _ t₂ _ (l₁.trans (l₂.trans (l₃.trans l₄))) (.lst (put_self ..) ((va.take _).mono (l₃.trans l₄).v)) (I₂.keep I₄ (l₃.trans l₄) (k₃.trans k₄))
      · rw [List.size_toArray, va.length]; exact Nat.le_trans hb.2.2 room_line
    · exact ns9 e4
  · exact ns9 e4
end Mine
end

section
namespace Mine
open PySem PySem.Calls PyProof.Rows PySem.W
noncomputable def Callee (v : Value) : Prop := ∀ {M : Model} {A : Around} {E : Value → Shared → Prop} {s : Shared} {pos : Pos} {first : List Value} {args : List (Bool × Sem Value)} {Q : Value → Shared → Prop}, args.any (·.1) = false →
  wpAny M A (evalArgs v true args []) (fun a s₁ => wpAny M A (call v (first ++ a.pos) a.kw) Q E s₁) E s → wpAny M A (callWith pos v first args []) Q E s
theorem callee_b (id : String) : Callee (.builtin id) := fun h k => Calls.callWith_builtin h k
theorem callee_t (T : String) : Callee (.type T) := fun h k => PySem.callWith_type h k
noncomputable def OpC (C : Ctx) (d : Nat) (v : Value) (op : List MV → Gst → Option (MV × Gst)) : Prop :=
  ∀ ⦃A : Around⦄ ⦃κ : Gh⦄ ⦃s : Shared⦄ ⦃G G' : Gst⦄ ⦃xs : List Value⦄ ⦃ms : List MV⦄ ⦃r : MV⦄, Room A d → InvG C κ G s.heap → VRs C κ xs ms → op ms G = some (r, G') → SO C A κ G s (call v xs) r G'
section
variable {C : Ctx} {Γ : Frm} {d : Nat}
theorem se_callV (O : Ok C) {x : Str} {p pos : Pos} {es : List Expr} {v : Value} {op : List MV → Gst → Option (MV × Gst)} {g : Ab → Option (List MV × Ab)} (hx : Blt C Γ x v) (hv : Callee v)
    (hc : OpC C d v op) (hg : SL C Γ d es g) (hst : ∀ env, (starEach es env).any (·.1) = false) : SE C Γ d (.Call (.Name x p) es [] pos) (fA9 op g) := by
  intro A env κ m ab ab' s r Q E R I hq h
  unfold fA9 at hq
  split at hq
  · exact ns9 hq
  rename_i l ab₁ e1
  split at hq
  · exact ns9 hq
  rename_i r' G' e2
  cases hq
  show wpAny _ _ (eval (.Name x p) env >>= fun f => callWith pos f [] (backTo pos (starEach es env)) (backToKw pos (keywordEach [] env))) _ _ _
  refine wpAny_bind (blt_name O I hx (hv (by rw [any_backTo]; exact hst env) (evalArgs_any (hst env) (hg R I e1 fun vs h₁ t₁ κ₁ l₁ v₁ I₁ => ?_))))
  refine hc (s := { s with heap := h₁, toks := t₁ }) R I₁.g v₁ e2 fun w h₂ t₂ κ₂ l₂ k₂ v₂ I₂ => ?_
  exact h w h₂ t₂ κ₂ (l₁.trans l₂) v₂ (I₁.keep I₂ l₂ k₂)
noncomputable def GetB (C : Ctx) (name : Str) (id : String) (ok : Gst → MV → Bool) : Prop :=
  ∀ ⦃A : Around⦄ ⦃κ : Gh⦄ ⦃s : Shared⦄ ⦃G : Gst⦄ ⦃v : Value⦄ ⦃a : MV⦄ ⦃pl : Sem Bool⦄ ⦃Q : Value × List Value → Shared → Prop⦄ ⦃E : Value → Shared → Prop⦄, InvG C κ G s.heap → VR C κ v a → ok G a = true → Q (.builtin id, [v]) s →
    wpAny (model C.prog C.w) A (getMethod v name pl) Q E s
noncomputable def fCallB (ok : Gst → MV → Bool) (op : List MV → Gst → Option (MV × Gst)) (f : Ab → Option (MV × Ab)) (g : Ab → Option (List MV × Ab)) (ab : Ab) : Option (MV × Ab) := match f ab with
  | none => none
  | some (a, ab) => if ok ab.2 a then (match g ab with
    | none => none
    | some (l, ab) => match op (a :: l) ab.2 with
      | none => none
      | some (r, G) => some (r, ab.1, G)) else none
theorem se_callB {o : Expr} {name : Str} {id : String} {apos pos : Pos} {es : List Expr} {ok : Gst → MV → Bool} {op : List MV → Gst → Option (MV × Gst)} {f : Ab → Option (MV × Ab)} {g : Ab → Option (List MV × Ab)}
    (hget : GetB C name id ok) (hc : OpC C d (.builtin id) op) (hf : SE C Γ d o f) (hg : SL C Γ d es g) (hst : ∀ env, (starEach es env).any (·.1) = false)
    (pl : Env → Sem Bool) (he : ∀ env, eval (.Call (.Attribute o name apos) es [] pos) env = (do
      let ov ← eval o env
      standAt apos.atName
      let (f, first) ← holding [ov] (getMethod ov name (pl env))
      callWith pos f first (backTo pos (starEach es env)) (backToKw pos (keywordEach [] env)))) : SE C Γ d (.Call (.Attribute o name apos) es [] pos) (fCallB ok op f g) := by
  intro A env κ m ab ab' s r Q E R I hq h
  unfold fCallB at hq
  split at hq
  · exact ns9 hq
  rename_i a ab₁ e1
  split at hq
  case isFalse => exact ns9 hq
  rename_i hok
  split at hq
  · exact ns9 hq
  rename_i l ab₂ e2
  split at hq
  · exact ns9 hq
  rename_i r' G' e3
  cases hq
  refine methodCall_KW (pl := pl env) (hf R I e1 fun v h₁ t₁ κ₁ l₁ v₁ I₁ => ?_) (he env)
  refine hget (s := { s with heap := h₁, toks := t₁ }) I₁.g v₁ hok ?_
  refine callee_b id (by rw [any_backTo]; exact hst env) (evalArgs_any (hst env) (hg (s := { s with heap := h₁, toks := t₁ }) R I₁ e2 fun vs h₂ t₂ κ₂ l₂ v₂ I₂ => ?_))
  refine hc (s := { s with heap := h₂, toks := t₂ }) R I₂.g (.cons (v₁.mono l₂.v) v₂) e3 fun w h₃ t₃ κ₃ l₃ k₃ v₃ I₃ => ?_
  exact h w h₃ t₃ κ₃ (l₁.trans (l₂.trans l₃)) v₃ (I₂.keep I₃ l₃ k₃)
end
noncomputable def opLen (l : List MV) (G : Gst) : Option (MV × Gst) := match l with
  | [.lst l] => if l.length ≤ room then some (.int l.length, G) else none
  | _ => none
theorem len_inv {l : List MV} {G G' : Gst} {r : MV} (h : opLen l G = some (r, G')) : ∃ x, l = [.lst x] ∧ x.length ≤ room ∧ .int x.length = r ∧ G = G' := by
  unfold opLen at h
  split at h
  · obtain ⟨q, e⟩ := ite_s h; obtain ⟨h1, h2⟩ := some_pair e; exact ⟨_, rfl, q, h1, h2⟩
  · exact ns9 h
theorem op_len {C : Ctx} {d : Nat} : OpC C d (.builtin "len") opLen := by
  intro A κ s G G' xs ms r R I hx h
  obtain ⟨x, rfl, hl, rfl, rfl⟩ := len_inv h
  obtain ⟨v, rfl, hv⟩ := hx.inv1
  obtain ⟨_, n, vs, rfl, ka, va⟩ := hv.lst_inv
  refine @SO.val C A κ G s _ _ I (fun {Q E} k => ?_)
  have e : vs.toArray.size = x.length := by rw [List.size_toArray, va.length]
  refine call_len_list ⟨_, I.frz _ _ ka, rfl, n, rfl⟩ (by rw [e]; have : room = 100000 := rfl; lia) ?_
  rw [e]
  exact k _ _ (.int _ _)
noncomputable def opInt (l : List MV) (G : Gst) : Option (MV × Gst) := match l with
  | [.bool b] => some (.int (if b then 1 else 0), G)
  | _ => none
theorem int_inv {l : List MV} {G G' : Gst} {r : MV} (h : opInt l G = some (r, G')) : ∃ b : Bool, l = [.bool b] ∧ .int (if b then 1 else 0) = r ∧ G = G' := by
  unfold opInt at h
  split at h
  · obtain ⟨h1, h2⟩ := some_pair h; exact ⟨_, rfl, h1, h2⟩
  · exact ns9 h
theorem op_int {C : Ctx} {d : Nat} : OpC C d (.type "int") opInt := by
  intro A κ s G G' xs ms r R I hx h
  obtain ⟨b, rfl, rfl, rfl⟩ := int_inv h
  obtain ⟨v, rfl, hv⟩ := hx.inv1
  obtain rfl := hv.bool_inv
  exact @SO.val C A κ G s _ _ I (fun {Q E} k => call_int_bool (k _ _ (.int _ _)))
noncomputable def opStr (l : List MV) (G : Gst) : Option (MV × Gst) := match l with
  | [.int a] => if a.natAbs.log2 < 1920 then some (.str (toString a), G) else none
  | _ => none
theorem str_inv' {l : List MV} {G G' : Gst} {r : MV} (h : opStr l G = some (r, G')) : ∃ a : Int, l = [.int a] ∧ a.natAbs.log2 < 1920 ∧ .str (toString a) = r ∧ G = G' := by
  unfold opStr at h
  split at h
  · obtain ⟨q, e⟩ := ite_s h; obtain ⟨h1, h2⟩ := some_pair e; exact ⟨_, rfl, q, h1, h2⟩
  · exact ns9 h
theorem op_str {C : Ctx} {d : Nat} : OpC C d (.type "str") opStr := by
  intro A κ s G G' xs ms r R I hx h
  obtain ⟨a, rfl, hl, rfl, rfl⟩ := str_inv' h
  obtain ⟨v, rfl, hv⟩ := hx.inv1
  obtain ⟨_, rfl⟩ := hv.int_inv
  exact @SO.val C A κ G s _ _ I (fun {Q E} k => PySem.P.str_of_int hl (k _ _ (.str _ _)))
noncomputable def dictOfMV (G : Gst) : MV → Option (List (Str × MV))
  | .dct l => some l
  | .glo i => match G[i]? with
    | some (.d l) => some l
    | _ => none
  | _ => none
noncomputable def okDict (G : Gst) (a : MV) : Bool := (dictOfMV G a).isSome
noncomputable def opGet (l : List MV) (G : Gst) : Option (MV × Gst) := match l with
  | [a, .str k] => match dictOfMV G a with
    | some l => some ((mAt l k).getD .none, G)
    | none => none
  | [a, .str k, df] => match dictOfMV G a with
    | some l => some ((mAt l k).getD df, G)
    | none => none
  | _ => none
theorem dict_at {C : Ctx} {κ : Gh} {G : Gst} {h : Heap} (I : InvG C κ G h) {v : Value} {a : MV} (hv : VR C κ v a) {l : List (Str × MV)} (e : dictOfMV G a = some l) : ∃ d kvs, v = .ref d ∧ (∀ o, κ d ≠ .frn o) ∧ h.DictOf (strKind C.prog C.w) d kvs ∧ PRs C κ kvs l := by
  unfold dictOfMV at e
  split at e
  · cases e
    cases hv with
    | dct k hd hp => exact ⟨_, _, rfl, by rw [k]; simp, Heap.dictOf_iff.mpr ⟨_, I.frz _ _ k, hd⟩, hp⟩
  · obtain ⟨_, rfl, k⟩ := hv.glo_inv
    obtain ⟨o, gv, a1, a3, a4⟩ := I.glo _ _ k
    rw [a3] at e
    cases gv with
    | t b => cases e
    | d ms =>
    obtain ⟨kvs, a2, a4⟩ := a4
    cases e
    exact ⟨_, _, rfl, by rw [k]; simp, Heap.dictOf_iff.mpr ⟨_, a1, a2⟩, a4⟩
  · exact ns9 e
theorem get_dict {C : Ctx} : GetB C "get" "dict.get" okDict := by
  intro A κ s G v a pl Q E I hv hok h
  unfold okDict at hok
  obtain ⟨l, e⟩ := Option.isSome_iff_exists.mp hok
  obtain ⟨d, kvs, rfl, _, hd, _⟩ := dict_at I hv e
  exact getMethod_builtin hd.typeIs PySem.F.plainAttrs_dict PySem.F.slot_dict_get PySem.F.type_dict_get hd.mapOf.noDict h
theorem get_inv {l : List MV} {G G' : Gst} {r : MV} (h : opGet l G = some (r, G')) : (∃ a k d, l = [a, .str k] ∧ dictOfMV G a = some d ∧ (mAt d k).getD .none = r ∧ G = G') ∨ ∃ a k f d, l = [a, .str k, f] ∧ dictOfMV G a = some d ∧ (mAt d k).getD f = r ∧ G = G' := by
  unfold opGet at h
  split at h
  · split at h
    · rename_i e; obtain ⟨h1, h2⟩ := some_pair h; exact .inl ⟨_, _, _, rfl, e, h1, h2⟩
    · exact ns9 h
  · split at h
    · rename_i e; obtain ⟨h1, h2⟩ := some_pair h; exact .inr ⟨_, _, _, _, rfl, e, h1, h2⟩
    · exact ns9 h
  · exact ns9 h
theorem op_get {C : Ctx} (O : Ok C) {d : Nat} : OpC C d (.builtin "dict.get") opGet := by
  intro A κ s G G' xs ms r R I hx h
  rcases get_inv h with ⟨a, k, l, rfl, e, rfl, rfl⟩ | ⟨a, k, f, l, rfl, e, rfl, rfl⟩
  · obtain ⟨v, w, rfl, hv, hw⟩ := hx.inv2
    obtain ⟨_, rfl⟩ := hw.str_inv
    obtain ⟨dd, kvs, rfl, hne, hd, hp⟩ := dict_at I hv e
    refine @SO.val C A κ G s _ _ I (fun {Q E} q => ?_)
    refine call_meetsIn PySem.F.slot_dict_get hd.typeIs PySem.F.entry_dict_get (PySem.F.args_dict_get_2 _ _) (meets_dict_get _ dd (strKind_is C.prog C.w k _) (notSys O I hne)) ⟨_, hd.mapOf, ?_⟩
    refine q _ _ ?_
    rcases hp.at (k := k) with ⟨p1, p2⟩ | ⟨v, m, p1, p2, hr⟩ <;> rw [p1, p2]
    · exact .none
    · exact hr
  · obtain ⟨v, w, u, rfl, hv, hw, hu⟩ := hx.inv3
    obtain ⟨_, rfl⟩ := hw.str_inv
    obtain ⟨dd, kvs, rfl, hne, hd, hp⟩ := dict_at I hv e
    refine @SO.val C A κ G s _ _ I (fun {Q E} q => ?_)
    refine call_meetsIn PySem.F.slot_dict_get hd.typeIs PySem.F.entry_dict_get (PySem.F.args_dict_get_3 _ _ _) (meets_dict_get_default _ dd (strKind_is C.prog C.w k _) (notSys O I hne) _) ⟨_, hd.mapOf, ?_⟩
    refine q _ _ ?_
    rcases hp.at (k := k) with ⟨p1, p2⟩ | ⟨v, m, p1, p2, hr⟩ <;> rw [p1, p2]
    · exact hu
    · exact hr
noncomputable def okStr (_ : Gst) : MV → Bool
  | .str _ => true
  | _ => false
noncomputable def opRfind (l : List MV) (G : Gst) : Option (MV × Gst) := match l with
  | [.str x, .str y] => some (.int (Txt.rfind x y), G)
  | _ => none
set_option maxRecDepth 100000 in
theorem get_str {C : Ctx} : GetB C "rfind" "str.rfind" okStr := by
  intro A κ s G v a pl Q E I hv hok h
  cases a with
  | str x => obtain ⟨_, rfl⟩ := hv.str_inv; exact PySem.GM.rfind h
  | _ => exact Bool.noConfusion hok
theorem rfind_inv {l : List MV} {G G' : Gst} {r : MV} (h : opRfind l G = some (r, G')) : ∃ x y, l = [.str x, .str y] ∧ .int (Txt.rfind x y) = r ∧ G = G' := by
  unfold opRfind at h
  split at h
  · obtain ⟨h1, h2⟩ := some_pair h; exact ⟨_, _, rfl, h1, h2⟩
  · exact ns9 h
theorem op_rfind {C : Ctx} {d : Nat} : OpC C d (.builtin "str.rfind") opRfind := by
  intro A κ s G G' xs ms r R I hx h
  obtain ⟨x, y, rfl, rfl, rfl⟩ := rfind_inv h
  obtain ⟨v, w, rfl, hv, hw⟩ := hx.inv2
  obtain ⟨_, rfl⟩ := hv.str_inv
  obtain ⟨_, rfl⟩ := hw.str_inv
  exact @SO.val C A κ G s _ _ I (fun {Q E} q => PySem.SC.rfind (q _ _ (.int _ _)))
end Mine
end

section
namespace Mine
open PySem PySem.Calls PyProof.Rows PySem.W
noncomputable def opIsi (c' : Nat) (G : Gst) (a : MV) : Option (MV × Gst) := match a with
  | .obj c _ => if c < 8 then some (.bool (c == c'), G) else none
  | _ => none
section
variable {C : Ctx} {Γ : Frm} {d : Nat}
theorem se_isi (O : Ok C) {x : Str} {p p' pos : Pos} {e : Expr} {c' : Nat} {y : Str} {f : Ab → Option (MV × Ab)} (hx : Blt C Γ x (.builtin "isinstance")) (hc' : c' < 8) (hy : Glob C Γ y (.ref (C.cAd c'))) (hf : SE C Γ d e f)
    (hst : ∀ env, starEach [e, .Name y p'] env = [(false, eval e env), (false, eval (.Name y p') env)]) : SE C Γ d (.Call (.Name x p) [e, .Name y p'] [] pos) (f1 f (opIsi c')) := by
  intro A env κ m ab ab' s r Q E R I hq h
  unfold f1 at hq
  split at hq
  · exact ns9 hq
  rename_i a ab₁ e1
  split at hq
  · exact ns9 hq
  rename_i r' G' e2
  cases hq
  show wpAny _ _ (eval (.Name x p) env >>= fun f => callWith pos f [] (backTo pos (starEach [e, .Name y p'] env)) (backToKw pos (keywordEach [] env))) _ _ _
  have hst' := hst env
  refine wpAny_bind (blt_name O I hx (callee_b _ (by rw [any_backTo, hst']; rfl) (evalArgs_any (by rw [hst']; rfl) ?_)))
  refine wpAny_items_cons (hf R I e1 fun v h₁ t₁ κ₁ l₁ v₁ I₁ => wpAny_items_cons (glob_name O I₁ hy (wpAny_items_nil ?_)) rfl) (by rw [hst']; rfl)
  unfold opIsi at e2
  split at e2
  · rename_i c ms
    split at e2
    · rename_i hc
      cases e2
      obtain ⟨_, _, _, _, rfl, ka, kd, hdr, hl⟩ := v₁.obj_inv
      have X := O.inK I₁.g
      have inst : W.InstAt h₁ _ _ (C.cAd c) (some _) := ⟨I₁.g.frz _ _ ka, rfl, rfl, I₁.g.frz _ _ kd⟩
      obtain ⟨q1, q2, q3, q4, q5⟩ := O.isiS c hc
      by_cases hcc : c = c'
      · subst hcc
        refine isi_call (s := { s with heap := h₁, toks := t₁ }) X (fun M => inst.type) q1 (by simp) ?_
        have := h (.bool true) h₁ t₁ κ₁ l₁ (by simpa using VR.bool (C := C) (κ := κ₁) true) I₁
        exact this
      · refine kin_callC (s := { s with heap := h₁, toks := t₁ }) X inst (O.isi c c' hc hc' hcc) q2 q3 q4 O.isiB.1 O.isiB.2 q5 ?_
        have e : (c == c') = false := by simpa using hcc
        rw [e] at h
        exact h (.bool false) h₁ _ κ₁ l₁ (.bool _) I₁
    · exact ns9 e2
  · exact ns9 e2
end
end Mine
end

section
namespace Mine
open PySem PySem.Calls PyProof.Rows PySem.W
section
variable {C : Ctx} {Γ : Frm} {κ : Gh} {env : Env} {m : Str → Option Value} {ab : Ab} {ρ : List Slot} {G : Gst} {h h' : Heap}
theorem InvG.ext (I : InvG C κ G h) (e : ∀ b o, h.get? b = some o → h'.get? b = some o) : InvG C κ G h' :=
  ⟨I.base, fun a o x => e a o (I.frz a o x), fun a o x => e a o (I.frn a o x), fun a i x => let ⟨o, gv, p, q⟩ := I.glo a i x; ⟨o, gv, e a o p, q⟩, fun a x => let ⟨o, p⟩ := I.al a x; ⟨o, e a o p⟩, I.gi⟩
theorem Kept.ext (I : InvG C κ G h) (e : ∀ b o, h.get? b = some o → h'.get? b = some o) : Kept κ κ h h' := fun a x => by
  obtain ⟨o, ho⟩ := I.al a (by intro z; rw [z] at x; cases x)
  exact ⟨rfl, (e a o ho).trans ho.symm⟩
theorem Inv.ext (I : Inv C Γ κ env m ab h) (e : ∀ b o, h.get? b = some o → h'.get? b = some o) : Inv C Γ κ env m ab h' :=
  I.keep (I.g.ext e) (Le.refl κ) (Kept.ext I.g e)
theorem ext_new (e : Heap.ExtBut h.objs.size h h') : ∀ b o, h.get? b = some o → h'.get? b = some o := fun b o x => e b o (Nat.ne_of_lt (Heap.lt_size x)) x
end
noncomputable def Tg0 (t : Expr) : Prop := (∃ x p, t = .Name x p) ∨ ∃ es k p, t = .Tuple es k p
noncomputable def TG (C : Ctx) (Γ : Frm) (t : Expr) (T : MV → List Slot → Option (List Slot)) : Prop :=
  Tg0 t ∧ ∀ ⦃A : Around⦄ ⦃env : Env⦄ ⦃κ : Gh⦄ ⦃m : Str → Option Value⦄ ⦃ρ ρ' : List Slot⦄ ⦃G : Gst⦄ ⦃s : Shared⦄ ⦃v : Value⦄ ⦃mv : MV⦄ ⦃Q : Unit → Shared → Prop⦄ ⦃E : Value → Shared → Prop⦄,
    A.handled = none → Inv C Γ κ env m (ρ, G) s.heap → VR C κ v mv → T mv ρ = some ρ' →
    (∀ m' h' t', (∀ y, Γ.scope.names.lookup y = none → m' y = m y) → Inv C Γ κ env m' (ρ', G) h' → Q () { s with heap := h', toks := t' }) → wpAny (model C.prog C.w) A (assign t env v) Q E s
noncomputable def tName (i : Nat) (m : MV) (ρ : List Slot) : Option (List Slot) := some (ρ.set i (.val m))
noncomputable def setAll : List Nat → List MV → List Slot → List Slot
  | i :: is, m :: ms, ρ => setAll is ms (ρ.set i (.val m))
  | _, _, ρ => ρ
noncomputable def tTup (is : List Nat) (m : MV) (ρ : List Slot) : Option (List Slot) := match m with
  | .tup l => if l.length = is.length then some (setAll is l ρ) else none
  | _ => none
section
variable {C : Ctx} {Γ : Frm}
theorem Stores.off {Γ : Frm} {i : Nat} {x y : Str} (hi : Stores Γ i x) (hy : Γ.scope.names.lookup y = none) : y ≠ x := by
  rintro rfl
  rcases hi.2 with z | z
  · rw [hy] at z; exact ns9 z
  · have := z.1; rw [hy] at this; cases this
theorem tg_name {x : Str} {p : Pos} {i : Nat} (hi : Stores Γ i x) : TG C Γ (.Name x p) (tName i) := by
  refine ⟨.inl ⟨_, _, rfl⟩, ?_⟩
  intro A env κ m ρ ρ' G s v mv Q E hh I hv hT h
  cases hT
  exact wpAny_assign_Name (store_slot I hi.1 hi.2 (sl := .val mv) ⟨v, rfl, hv⟩ fun m' h' t' I' q => h m' h' t' (fun y hy => q.2 y (hi.off hy)) I')
inductive Tgts (Γ : Frm) : List Expr → List Nat → Prop
  | nil : Tgts Γ [] []
  | cons {x : Str} {p : Pos} {i : Nat} {es : List Expr} {is : List Nat} : Stores Γ i x → Tgts Γ es is → Tgts Γ (.Name x p :: es) (i :: is)
theorem Tgts.each {es : List Expr} {is : List Nat} (T : Tgts Γ es is) (env : Env) : (assignEach es env).map (·.2) = es.map (fun e => assign e env) ∧ (assignEach es env).findIdx? (·.1) = none ∧ (assignEach es env).length = is.length := by
  induction T with
  | nil => exact ⟨rfl, rfl, rfl⟩
  | @cons x p i es is hi T ih =>
    have e : assignEach (.Name x p :: es) env = (false, assign (.Name x p) env) :: assignEach es env := rfl
    rw [e]
    refine ⟨by rw [List.map_cons, List.map_cons, ih.1], ?_, by simp [ih.2.2]⟩
    rw [List.findIdx?_cons]
    simp [ih.2.1]
theorem tgts_store {κ : Gh} {env : Env} {G : Gst} {A : Around} {E : Value → Shared → Prop} (hh : A.handled = none) {es : List Expr} {is : List Nat} {vs : List Value} {ms : List MV} {m : Str → Option Value} {ρ : List Slot} {s : Shared} {Q : Unit → Shared → Prop} (T : Tgts Γ es is) (hv : VRs C κ vs ms) (hl : ms.length = is.length) (I : Inv C Γ κ env m (ρ, G) s.heap)
    (h : ∀ m' h' t', (∀ y, Γ.scope.names.lookup y = none → m' y = m y) → Inv C Γ κ env m' (setAll is ms ρ, G) h' → Q () { s with heap := h', toks := t' }) : wpAny (model C.prog C.w) A (assignInOrder (es.map fun e => assign e env) vs) Q E s := by
  induction T generalizing vs ms m ρ s Q with
  | nil =>
    obtain rfl := List.length_eq_zero_iff.mp hl
    rw [hv.nil_inv]; exact assignInOrder_nil (h m s.heap s.toks (fun _ _ => rfl) I)
  | cons hi T ih =>
    cases ms with
    | nil => cases hl
    | cons x ms =>
      obtain ⟨v, ws, rfl, a, r⟩ := hv.cons_inv
      refine assignInOrder_cons (wpAny_assign_Name (store_slot I hi.1 hi.2 (sl := .val x) ⟨_, rfl, a⟩ fun m' h' t' I' q => ?_))
      exact ih (s := { s with heap := h', toks := t' }) r (Nat.succ.inj hl) I' fun m'' h'' t'' q' => h m'' h'' t'' fun y hy => (q' y hy).trans (q.2 y (hi.off hy))
theorem tg_tuple {es : List Expr} {is : List Nat} {x1 : Nat} {pos : Pos} (T : Tgts Γ es is) : TG C Γ (.Tuple es x1 pos) (tTup is) := by
  refine ⟨.inr ⟨_, _, _, rfl⟩, ?_⟩
  intro A env κ m ρ ρ' G s v mv Q E hh I hv hT h
  unfold tTup at hT
  split at hT
  · split at hT
    · rename_i l hl
      cases hT
      obtain ⟨a, n, vs, rfl, ka, va⟩ := hv.tup_inv
      obtain ⟨e1, e2, e3⟩ := T.each env
      refine wpAny_assign_Tuple hh ⟨_, I.g.frz _ _ ka, rfl, n, rfl⟩ (by rw [e3, List.size_toArray, va.length, hl]) e2 fun h' he => ?_
      rw [e1]
      exact tgts_store hh (s := { s with heap := h' }) T va hl (I.ext (ext_new he)) h
    · exact ns9 hT
  · exact ns9 hT
noncomputable def pairIters : List String := ["enumerate", "zip", "dict_itemiterator", "dict_reverseitemiterator", "odict_iterator", "itertools.zip_longest", "itertools.pairwise"]
structure Iter (C : Ctx) (A : Around) (κ₀ : Gh) (I : Addr) (l : List MV) (St : Nat → Heap → Prop) (fp : List Addr) : Prop where
  walks : ∃ P, Walks C.prog C.w A I fp [I] l.length P St ∧ ∀ i v, P i v → ∃ mv, l[i]? = some mv ∧ VR C κ₀ v mv
  fp : ∀ b ∈ fp, b = I ∨ ∃ o, κ₀ b = .frz o
  base : C.h₀.get? I = none
  obj : ∀ i h, St i h → ∃ o n, h.get? I = some o ∧ o.cls = .type n ∧ pairIters.contains n = false ∧ ∀ v, o.data ≠ .cell v
section
variable {κ₀ κ : Gh} {env : Env} {m : Str → Option Value} {ab : Ab} {A : Around} {I : Addr} {l : List MV} {St : Nat → Heap → Prop} {fp : List Addr} {s : Shared} {i : Nat}
theorem Iter.stay (it : Iter C A κ₀ I l St fp) {κ' : Gh} {h h' : Heap} {G G' : Gst} {o : Obj} (st : St i h) (l₀ : LeB I κ₀ κ) (ki : κ I = .frn o) (le : Le κ κ') (I₁ : InvG C κ G h) (I₂ : InvG C κ' G' h') : St i h' := by
  obtain ⟨P, W, _⟩ := it.walks
  refine W.frame i h h' st fun b hb o' e => ?_
  rcases it.fp b hb with rfl | ⟨q, hq⟩
  · have : o' = o := Option.some.inj (e.symm.trans (I₁.frn _ _ ki))
    subst this
    exact I₂.frn _ _ (le.frn _ _ ki)
  · have k1 := l₀.frz _ _ hq
    have : o' = q := Option.some.inj (e.symm.trans (I₁.frz _ _ k1))
    subst this
    exact I₂.frz _ _ (le.frz _ _ k1)
theorem Iter.next (it : Iter C A κ₀ I l St fp) {mv : MV} {o : Obj} {Q : Option Value → Shared → Prop} {E : Value → Shared → Prop} (hi : l[i]? = some mv) (st : St i s.heap) (l₀ : LeB I κ₀ κ) (ki : κ I = .frn o) (J : Inv C Γ κ env m ab s.heap)
    (h : ∀ v h' t' κ' o', LeB I κ κ' → κ' I = .frn o' → St (i + 1) h' → VR C κ' v mv → Inv C Γ κ' env m ab h' → Q (some v) { s with heap := h', toks := t' }) : wpAny (model C.prog C.w) A (pyNext (.ref I)) Q E s := by
  obtain ⟨P, W, hP⟩ := it.walks
  have hlt : i < l.length := (List.getElem?_eq_some_iff.mp hi).1
  refine W.item i s Q E hlt st fun v h' t' hv st' hk => ?_
  obtain ⟨mv', e, hr⟩ := hP i v hv
  rw [hi] at e; cases e
  obtain ⟨o', n', ho', _, _, hc'⟩ := it.obj _ _ st'
  obtain ⟨o₁, _, ho₁, _, _, hc₁⟩ := it.obj _ _ st
  have : o₁ = o := Option.some.inj (ho₁.symm.trans (J.g.frn _ _ ki))
  subst this
  have hx : Heap.ExtBut I s.heap h' := fun b q hb e => hk b q (by simpa using hb) e
  have lb : LeB I κ (put κ I (.frn o')) := LeB.put _ ki
  exact h v h' t' _ o' lb (put_self ..) st' (hr.mono (l₀.trans lb).v) (J.remark ki it.base hc₁ hx ho')
theorem Iter.stop (it : Iter C A κ₀ I l St fp) {o : Obj} {Q : Option Value → Shared → Prop} {E : Value → Shared → Prop} (st : St l.length s.heap) (l₀ : LeB I κ₀ κ) (ki : κ I = .frn o) (J : Inv C Γ κ env m ab s.heap)
    (h : ∀ h' t' κ', LeB I κ κ' → Inv C Γ κ' env m ab h' → Q none { s with heap := h', toks := t' }) : wpAny (model C.prog C.w) A (pyNext (.ref I)) Q E s := by
  obtain ⟨P, W, hP⟩ := it.walks
  refine W.done s Q E st fun h' t' hk => ?_
  have hx : Heap.ExtBut I s.heap h' := fun b q hb e => hk b q (by simpa using hb) e
  obtain ⟨o₁, _, ho₁, _, _, hc₁⟩ := it.obj _ _ st
  have e₁ : o₁ = o := Option.some.inj (ho₁.symm.trans (J.g.frn _ _ ki))
  subst e₁
  have lb : LeB I κ (put κ I .no) := LeB.put _ ki
  have ne : ∀ {b : Addr} {k : Knd}, put κ I .no b = k → k ≠ .no → b ≠ I ∧ κ b = k := fun {b k} e n => by
    by_cases q : b = I
    · subst q; rw [put_self] at e; exact absurd e.symm n
    · rw [put_ne _ _ q] at e; exact ⟨q, e⟩
  refine h h' t' (put κ I .no) lb ⟨⟨fun b p e => ?_, fun b p e => ?_, fun b p e => ?_, fun b p e => ?_, fun b e => ?_, ⟨fun b b' i e e' => J.g.gi.1 b b' i (ne e (by simp)).2 (ne e' (by simp)).2, fun q hq => lb.glo _ _ (J.g.gi.2 q hq)⟩⟩, J.f.remark J.g ki hc₁ hx⟩
  · have : b ≠ I := by rintro rfl; rw [it.base] at e; cases e
    rw [put_ne _ _ this]; exact J.g.base b p e
  · obtain ⟨q, e⟩ := ne e (by simp); exact hx b p q (J.g.frz b p e)
  · obtain ⟨q, e⟩ := ne e (by simp); exact hx b p q (J.g.frn b p e)
  · obtain ⟨q, e⟩ := ne e (by simp)
    obtain ⟨o₂, gv, a1, a2, a3⟩ := J.g.glo b p e
    exact ⟨o₂, gv, hx b _ q a1, a2, a3.mono lb.v⟩
  · obtain ⟨q, e'⟩ := ne rfl e
    obtain ⟨o₂, ho₂⟩ := J.g.al b (e' ▸ e)
    exact ⟨o₂, hx b _ q ho₂⟩
theorem wpAny_if_neg' {M : Model} {A : Around} {α : Type} {c : Prop} [Decidable c] {x y : Sem α} {Q : α → Shared → Prop} {E : Value → Shared → Prop} {s : Shared} (h : ¬ c) (k : wpAny M A y Q E s) : wpAny M A (if c then x else y) Q E s := by
  rw [if_neg h]; exact k
theorem Iter.go (it : Iter C A κ₀ I l St fp) {t : Expr} (ht : Tg0 t) {v : Value} {Q : Unit → Shared → Prop} {E : Value → Shared → Prop} (st : St i s.heap) (h : Q () s) : wpAny (model C.prog C.w) A (letOwnedTupleGo t (.ref I) v) Q E s := by
  rcases ht with ⟨x, p, rfl⟩ | ⟨es, k, p, rfl⟩
  · exact wpAny_pure h
  obtain ⟨o, n, ho, hc, hn, _⟩ := it.obj _ _ st
  cases v <;> first | exact wpAny_pure h | skip
  refine wpAny_bind (wpAny_load ho ?_)
  rw [hc]
  cases o.data <;> first | exact wpAny_pure h | skip
  refine wpAny_if_neg' (fun z => ?_) (wpAny_pure h)
  have : pairIters.contains n = true := (Bool.and_eq_true_iff.mp z).1
  rw [hn] at this; cases this
end
noncomputable def SI (C : Ctx) (Γ : Frm) (d : Nat) (e : Expr) (f : Ab → Option (List MV × Ab)) : Prop :=
  ∀ ⦃A : Around⦄ ⦃env : Env⦄ ⦃κ : Gh⦄ ⦃m : Str → Option Value⦄ ⦃ab ab' : Ab⦄ ⦃s : Shared⦄ ⦃l : List MV⦄ ⦃Q : Value → Shared → Prop⦄ ⦃E : Value → Shared → Prop⦄,
    Room A d → Inv C Γ κ env m ab s.heap → f ab = some (l, ab') →
    (∀ I St fp o h' t' κ₀ κ', Le κ κ₀ → κ₀ I = .no → Le κ₀ κ' → κ' I = .frn o → Iter C A κ' I l St fp → St 0 h' → Inv C Γ κ' env m ab' h' → Q (.ref I) { s with heap := h', toks := t' }) →
    wpAny (model C.prog C.w) A (eval e env) (fun x s₁ => wpAny (model C.prog C.w) A (pyIter x) Q E s₁) E s
noncomputable def loopF (T : MV → List Slot → Option (List Slot)) (B : Ab → Option (Fl × Ab)) : List MV → Ab → Option (Fl × Ab)
  | [], ab => some (.nxt, ab)
  | x :: r, ab => match T x ab.1 with
    | none => none
    | some ρ => match B (ρ, ab.2) with
      | some (.nxt, ab) => loopF T B r ab
      | q => q
noncomputable def sFor (f : Ab → Option (List MV × Ab)) (T : MV → List Slot → Option (List Slot)) (B : Ab → Option (Fl × Ab)) (ab : Ab) : Option (Fl × Ab) := match f ab with
  | some (l, ab) => loopF T B l ab
  | none => none
inductive LpInv (C : Ctx) (Γ : Frm) (env : Env) (κ₁ : Gh) (I : Addr) (St : Nat → Heap → Prop) (len : Nat) (P : Nat → (Str → Option Value) → Ab → Prop) (s : Shared) : Nat → Shared → Prop
  | mk (i : Nat) (κ' : Gh) (o' : Obj) (m' : Str → Option Value) (ab₂ : Ab) (h' : Heap) (t' : Nat) : LeB I κ₁ κ' → κ' I = .frn o' → St i h' → Inv C Γ κ' env m' ab₂ h' → P i m' ab₂ → i ≤ len → LpInv C Γ env κ₁ I St len P s (len - i) { s with heap := h', toks := t' }
theorem ss_for {d : Nat} {target iter : Expr} {body : List Stmt} {pos : Pos} {f : Ab → Option (List MV × Ab)} {T : MV → List Slot → Option (List Slot)} {B : Ab → Option (Fl × Ab)} (hi : SI C Γ d iter f) (ht : TG C Γ target T) (hb : SSs C Γ d body B)
    (hs : ∀ env x, foldedSetIterable iter env x = pure x) : SS C Γ d (.For target iter body [] pos) (sFor f T B) := by
  intro A env κ m ab ab' s r Q E R J hq k
  unfold sFor at hq
  cases e1 : f ab with
  | none => rw [e1] at hq; exact ns9 hq
  | some p =>
    obtain ⟨l, ab₁⟩ := p
    rw [e1] at hq
    refine wpAny_For (hi R J e1 fun I St fp o h₁ t₁ κ₀ κ₁ l₀ kI l₁ ki it st J₁ => ?_) (hs env)
    refine codeAny_forLoop_any (LpInv C Γ env κ₁ I St l.length (fun i _ ab₂ => loopF T B (l.drop i) ab₂ = some (r, ab')) s) ?_ l.length
      (LpInv.mk 0 κ₁ o m ab₁ h₁ t₁ ((Le.refl κ₁).but I) ki st J₁ hq (Nat.zero_le _))
    intro n s' hI
    cases hI with
    | mk i κ' o' m' ab₂ h' t' l₂ ki₂ st₂ J₂ hq₂ hi₂ =>
      by_cases hlt : i < l.length
      · have hx : l[i]? = some l[i] := List.getElem?_eq_getElem hlt
        rw [List.drop_eq_getElem_cons hlt] at hq₂
        unfold loopF at hq₂
        cases e2 : T l[i] ab₂.1 with
        | none => rw [e2] at hq₂; exact ns9 hq₂
        | some ρ =>
          rw [e2] at hq₂
          dsimp only at hq₂
          refine it.next (s := { s with heap := h', toks := t' }) hx st₂ l₂ ki₂ J₂ fun v h₃ t₃ κ₃ o₃ l₃ ki₃ st₃ v₃ J₃ => ?_
          dsimp only
          refine it.go (s := { s with heap := h₃, toks := t₃ }) ht.1 st₃ ?_
          refine ht.2 (s := { s with heap := h₃, toks := t₃ }) R.hh J₃ v₃ e2 fun m₄ h₄ t₄ _ J₄ => ?_
          have st₄ : St (i + 1) h₄ := it.stay st₃ (l₂.trans l₃) ki₃ (Le.refl κ₃) J₃.g J₄.g
          cases e3 : B (ρ, ab₂.2) with
          | none => rw [e3] at hq₂; exact ns9 hq₂
          | some q =>
            obtain ⟨fl, ab₅⟩ := q
            rw [e3] at hq₂
            refine hb (s := { s with heap := h₄, toks := t₄ }) R J₄ e3 fun v₅ m₅ h₅ t₅ κ₅ l₅ f₅ J₅ => ?_
            cases fl with
            | nxt =>
              cases v₅ <;> first | exact f₅.elim | skip
              exact ⟨l.length - (i + 1), Nat.sub_lt_sub_left hlt (Nat.lt_succ_self i), .mk (i + 1) κ₅ o₃ m₅ ab₅ h₅ t₅ ((l₂.trans l₃).trans (l₅.but I)) (l₅.frn _ _ ki₃) (it.stay st₄ (l₂.trans l₃) ki₃ l₅ J₄.g J₅.g) J₅ hq₂ hlt⟩
            | ret mv =>
              cases hq₂
              cases v₅ <;> first | exact f₅.elim | skip
              exact k _ m₅ h₅ t₅ κ₅ (l₀.trans (((l₂.trans l₃).trans (l₅.but I)).le l₁ kI)) f₅ J₅
      · have hi₃ : i = l.length := Nat.le_antisymm hi₂ (Nat.le_of_not_lt hlt)
        subst hi₃
        rw [List.drop_length] at hq₂
        cases hq₂
        refine it.stop (s := { s with heap := h', toks := t' }) st₂ l₂ ki₂ J₂ fun h₃ t₃ κ₃ l₃ J₃ => ?_
        dsimp only
        refine wpAny_execs_nil ?_
        exact k .next m' h₃ t₃ κ₃ (l₀.trans ((l₂.trans l₃).le l₁ kI)) trivial J₃
noncomputable def sWhile (c : Ab → Option (Bool × Ab)) (B : Ab → Option (Fl × Ab)) : Nat → Ab → Option (Fl × Ab)
  | 0, _ => none
  | n + 1, ab => match c ab with
    | none => none
    | some (false, ab) => some (.nxt, ab)
    | some (true, ab) => match B ab with
      | some (.nxt, ab) => sWhile c B n ab
      | q => q
inductive WhInv (C : Ctx) (Γ : Frm) (env : Env) (κ : Gh) (P : Nat → Ab → Prop) (s : Shared) : Nat → Shared → Prop
  | mk {n : Nat} (κ' : Gh) (m' : Str → Option Value) (ab₂ : Ab) (h' : Heap) (t' : Nat) : Le κ κ' → Inv C Γ κ' env m' ab₂ h' → P n ab₂ → WhInv C Γ env κ P s n { s with heap := h', toks := t' }
theorem ss_while {d : Nat} {t : Expr} {body : List Stmt} {pos : Pos} {c : Ab → Option (Bool × Ab)} {B : Ab → Option (Fl × Ab)} (N : Nat) (hc : ST C Γ d t c) (hb : SSs C Γ d body B) : SS C Γ d (.While t body [] pos) (sWhile c B N) := by
  intro A env κ m ab ab' s r Q E R J hq k
  refine wpAny_While (codeAny_whileLoop (WhInv C Γ env κ (fun n ab₂ => sWhile c B n ab₂ = some (r, ab')) s) ?_ N (WhInv.mk κ m ab s.heap s.toks (Le.refl κ) J hq))
  intro n s' hI
  cases hI with
  | mk κ' m' ab₂ h' t' l₂ J₂ hq₂ =>
    cases n with
    | zero => cases hq₂
    | succ n =>
      unfold sWhile at hq₂
      cases e1 : c ab₂ with
      | none => rw [e1] at hq₂; exact ns9 hq₂
      | some p =>
        obtain ⟨b, ab₃⟩ := p
        rw [e1] at hq₂
        refine hc (s := { s with heap := h', toks := t' }) R J₂ e1 fun h₃ t₃ κ₃ l₃ J₃ => ?_
        cases b with
        | false =>
          cases hq₂
          rw [if_neg (by simp)]
          exact wpAny_execs_nil (k .next m' h₃ t₃ κ₃ (l₂.trans l₃) trivial J₃)
        | true =>
          dsimp only at hq₂
          rw [if_pos rfl]
          cases e3 : B ab₃ with
          | none => rw [e3] at hq₂; exact ns9 hq₂
          | some q =>
            obtain ⟨fl, ab₅⟩ := q
            rw [e3] at hq₂
            refine hb (s := { s with heap := h₃, toks := t₃ }) R J₃ e3 fun v₅ m₅ h₅ t₅ κ₅ l₅ f₅ J₅ => ?_
            cases fl with
            | nxt =>
              cases v₅ <;> first | exact f₅.elim | skip
              exact ⟨n, Nat.lt_succ_self n, .mk κ₅ m₅ ab₅ h₅ t₅ ((l₂.trans l₃).trans l₅) J₅ hq₂⟩
            | ret mv =>
              cases hq₂
              cases v₅ <;> first | exact f₅.elim | skip
              exact k _ m₅ h₅ t₅ κ₅ ((l₂.trans l₃).trans l₅) f₅ J₅
end
end Mine
end

section
namespace Mine
open PySem PySem.Calls PyProof.Rows PySem.W
section
variable {C : Ctx} {Γ : Frm} {d : Nat}
theorem iter_new {κ : Gh} {env : Env} {m : Str → Option Value} {ab : Ab} {h : Heap} (I : Inv C Γ κ env m ab h) (o : Obj) (hf : o.isFreed = false) :
    Le κ (put κ h.objs.size (.frn o)) ∧ κ h.objs.size = .no ∧ C.h₀.get? h.objs.size = none ∧ Inv C Γ (put κ h.objs.size (.frn o)) env m ab (h.push o) := by
  have f := I.g.free
  refine ⟨Le.put _ f, f, base_none I.g (fun o e => by rw [f] at e; cases e), ?_⟩
  exact I.keep (I.g.push hf ⟨fun _ e => (by cases e), fun _ e => (by cases e; rfl), fun _ e => (by cases e)⟩) (Le.put _ f) (Kept.put _ o f I.g.lt)
noncomputable def itMV : MV → Option (List MV)
  | .lst l => some l
  | .tup l => some l
  | .str x => some (x.cps.toList.map fun c => .str ⟨#[c]⟩)
  | _ => none
noncomputable def fIt (f : Ab → Option (MV × Ab)) (op : MV → Option (List MV)) (ab : Ab) : Option (List MV × Ab) := match f ab with
  | none => none
  | some (a, ab) => match op a with
    | some l => some (l, ab)
    | none => none
theorem VRs.get {C : Ctx} {κ : Gh} {vs : List Value} {ms : List MV} {i : Nat} {v : Value} (h : VRs C κ vs ms) (e : vs[i]? = some v) : ∃ m, ms[i]? = some m ∧ VR C κ v m := by
  revert i v
  refine h.ind (P := fun vs ms => ∀ {i v}, vs[i]? = some v → ∃ m, ms[i]? = some m ∧ VR C κ v m) (fun h => by simp at h) ?_
  intro v m' vs ms a _ ih i m h
  cases i with
  | zero => cases h; exact ⟨_, rfl, a⟩
  | succ i => exact ih (i := i) h
theorem si_val {e : Expr} {f : Ab → Option (MV × Ab)} (hf : SE C Γ d e f) : SI C Γ d e (fIt f itMV) := by
  intro A env κ m ab ab' s l Q E R I hq k
  unfold fIt at hq
  split at hq
  · exact ns9 hq
  rename_i a ab₁ e1
  split at hq
  case h_2 => exact ns9 hq
  rename_i l' e2
  cases hq
  refine hf R I e1 fun v h₁ t₁ κ₁ l₁ v₁ I₁ => ?_
  unfold itMV at e2
  split at e2
  · cases e2
    obtain ⟨al, n, vs, rfl, ka, va⟩ := v₁.lst_inv
    have hl : h₁.IsList al vs.toArray := ⟨_, I₁.g.frz _ _ ka, rfl, n, rfl⟩
    refine wpAny_pyIter_list (s := { s with heap := h₁, toks := t₁ }) hl ?_
    obtain ⟨l₂, f₂, b₂, I₂⟩ := iter_new I₁ { cls := .type "list_iterator", data := .fields #[.ref al, .int 0 0] } rfl
    have hne : @Ne Nat al h₁.objs.size := Nat.ne_of_lt (I₁.g.lt al (by rw [ka]; simp))
    have W := Walks.list (prog := C.prog) (w := C.w) R.hh h₁.objs.size al hne vs.toArray
    have e : vs.toArray.size = l.length := by rw [List.size_toArray, va.length]
    rw [e] at W
    refine k h₁.objs.size _ _ _ _ t₁ κ₁ _ l₁ f₂ l₂ (put_self ..) ⟨⟨_, W, fun i v hv => ?_⟩, fun b hb => ?_, b₂, fun i h st => ?_⟩ ⟨⟨_, Heap.get?_push_size _ rfl, rfl, rfl⟩, hl.at fun o e => Heap.get?_push_of_some _ e⟩ I₂
    · obtain ⟨mv, p, q⟩ := va.get (i := i) (v := v) (by simpa using hv)
      exact ⟨mv, p, q.mono l₂.v⟩
    · rcases List.mem_cons.mp hb with q | hb
      · exact .inl q
      · rw [List.mem_singleton.mp hb]
        exact .inr ⟨_, l₂.frz _ _ ka⟩
    · obtain ⟨⟨o, ho, hc, hd⟩, _⟩ := st
      exact ⟨o, _, ho, hc, by decide, by rw [hd]; simp⟩
  · cases e2
    obtain ⟨al, n, vs, rfl, ka, va⟩ := v₁.tup_inv
    have hl : h₁.IsTuple al vs.toArray := ⟨_, I₁.g.frz _ _ ka, rfl, n, rfl⟩
    refine wpAny_pyIter_tuple (s := { s with heap := h₁, toks := t₁ }) hl ?_
    obtain ⟨l₂, f₂, b₂, I₂⟩ := iter_new I₁ { cls := .type "tuple_iterator", data := .fields #[.ref al, .int 0 0] } rfl
    have hne : @Ne Nat al h₁.objs.size := Nat.ne_of_lt (I₁.g.lt al (by rw [ka]; simp))
    have W := Walks.tuple (prog := C.prog) (w := C.w) R.hh h₁.objs.size al hne vs.toArray
    have e : vs.toArray.size = l.length := by rw [List.size_toArray, va.length]
    rw [e] at W
    refine k h₁.objs.size _ _ _ _ t₁ κ₁ _ l₁ f₂ l₂ (put_self ..) ⟨⟨_, W, fun i v hv => ?_⟩, fun b hb => ?_, b₂, fun i h st => ?_⟩ ⟨⟨_, Heap.get?_push_size _ rfl, rfl, rfl⟩, hl.at fun o e => Heap.get?_push_of_some _ e⟩ I₂
    · obtain ⟨mv, p, q⟩ := va.get (i := i) (v := v) (by simpa using hv)
      exact ⟨mv, p, q.mono l₂.v⟩
    · rcases List.mem_cons.mp hb with q | hb
      · exact .inl q
      · rw [List.mem_singleton.mp hb]
        exact .inr ⟨_, l₂.frz _ _ ka⟩
    · obtain ⟨⟨o, ho, hc, hd⟩, _⟩ := st
      exact ⟨o, _, ho, hc, by decide, by rw [hd]; simp⟩
  · rename_i x
    cases e2
    obtain ⟨t, rfl⟩ := v₁.str_inv
    have key : ∀ (ty : String), (ty = "str_ascii_iterator" ∨ ty = "str_iterator") → Walks C.prog C.w A h₁.objs.size [h₁.objs.size] [h₁.objs.size] x.cps.size (SignAt x) (fun i h => h.IsStrIter h₁.objs.size ty x t i) →
        Q (.ref h₁.objs.size) { s with heap := h₁.push { cls := .type ty, data := .fields #[.str x t, .int 0 0] }, toks := t₁ } := fun ty hty W => by
      obtain ⟨l₂, f₂, b₂, I₂⟩ := iter_new I₁ { cls := .type ty, data := .fields #[.str x t, .int 0 0] } rfl
      have e : x.cps.size = (x.cps.toList.map fun c => MV.str ⟨#[c]⟩).length := by simp
      rw [e] at W
      refine k h₁.objs.size _ _ _ _ t₁ κ₁ _ l₁ f₂ l₂ (put_self ..) ⟨⟨_, W, fun i v hv => ?_⟩, fun b hb => .inl (List.mem_singleton.mp hb), b₂, fun i h st => ?_⟩ ⟨_, Heap.get?_push_size _ rfl, rfl, rfl⟩ I₂
      · obtain ⟨c, u, p, rfl⟩ := hv
        refine ⟨.str ⟨#[c]⟩, ?_, .str _ _⟩
        rw [List.getElem?_map, Array.getElem?_toList, p]; rfl
      · obtain ⟨o, ho, hc, hd⟩ := st
        exact ⟨o, _, ho, hc, by rcases hty with rfl | rfl <;> decide, by rw [hd]; simp⟩
    cases ha : x.cps.all (· < 128)
    · exact wpAny_pyIter_wide (s := { s with heap := h₁, toks := t₁ }) ha (key _ (.inr rfl) (Walks.strWide R.hh _ x t))
    · exact wpAny_pyIter_ascii (s := { s with heap := h₁, toks := t₁ }) ha (key _ (.inl rfl) (Walks.strAscii R.hh _ x t))
  · exact ns9 e2
noncomputable def itRange : MV → Option (List MV)
  | .int i => if 0 ≤ i ∧ i ≤ 100000 then some ((List.range i.toNat).map fun (k : Nat) => MV.int (k : Int)) else none
  | _ => none
theorem si_range (O : Ok C) {x : Str} {p pos : Pos} {e : Expr} {f : Ab → Option (MV × Ab)} (hx : Blt C Γ x (.type "range")) (hf : SE C Γ d e f)
    (hst : ∀ env, starEach [e] env = [(false, eval e env)]) : SI C Γ d (.Call (.Name x p) [e] [] pos) (fIt f itRange) := by
  intro A env κ m ab ab' s l Q E R I hq k
  unfold fIt at hq
  split at hq
  · exact ns9 hq
  rename_i a ab₁ e1
  split at hq
  case h_2 => exact ns9 hq
  rename_i l' e2
  cases hq
  unfold itRange at e2
  split at e2
  case h_2 => exact ns9 e2
  rename_i i
  split at e2
  case isFalse => exact ns9 e2
  rename_i hi
  cases e2
  show wpAny _ _ (eval (.Name x p) env >>= fun f => callWith pos f [] (backTo pos (starEach [e] env)) (backToKw pos (keywordEach [] env))) _ _ _
  have hst' := hst env
  refine wpAny_bind (blt_name O I hx (callee_t _ (by rw [any_backTo, hst']; rfl) (evalArgs_any (by rw [hst']; rfl) ?_)))
  refine wpAny_items_cons (hf R I e1 fun v h₁ t₁ κ₁ l₁ v₁ I₁ => wpAny_items_nil ?_) (by rw [hst']; rfl)
  obtain ⟨t, rfl⟩ := v₁.int_inv
  refine call_range_1 (s := { s with heap := h₁, toks := t₁ }) ?_
  have J := I₁.ext (h' := h₁.push { cls := .type "range", data := .fields #[.int 0 t₁, .int i t, .int 1 (t₁ + 1)] }) fun b o e => Heap.get?_push_of_some _ e
  have hr := IsRange.new h₁ 0 i 1 t₁ t (t₁ + 1)
  show wpAny (model C.prog C.w) A (pyIter (.ref h₁.objs.size)) Q E { s with heap := h₁.push { cls := .type "range", data := .fields #[.int 0 t₁, .int i t, .int 1 (t₁ + 1)] }, toks := t₁ + 1 + 1 }
  generalize h₁.push { cls := .type "range", data := .fields #[.int 0 t₁, .int i t, .int 1 (t₁ + 1)] } = h₂ at J hr ⊢
  obtain ⟨l₂, f₂, b₂, I₂⟩ := iter_new J { cls := .type "range_iterator", data := .fields #[rawInt 0, rawInt (Builtin.Range.rangeSize 0 i 1), rawInt 1] } rfl
  have hn : Builtin.Range.rangeSize 0 i 1 = ((i.toNat : Nat) : Int) := by rw [rangeSize_one]; split <;> lia
  refine wpAny_pyIter_range (s := { s with heap := h₂, toks := t₁ + 1 + 1 }) hr (small_one (by decide) (by decide) (by lia) (by lia)) ?_
  have W := Walks.range (prog := C.prog) (w := C.w) R.hh h₂.objs.size 0 1 i.toNat
  have e : i.toNat = ((List.range i.toNat).map fun (k : Nat) => MV.int (k : Int)).length := by simp
  rw [hn] at I₂ l₂ ⊢
  refine k h₂.objs.size (fun j h => IsRangeIter h h₂.objs.size (0 + (j : Nat) * 1) ((i.toNat : Int) - (j : Nat)) 1) [h₂.objs.size] _ _ _ κ₁ _ l₁ f₂ l₂ (put_self ..) ⟨⟨fun j v => j < i.toNat ∧ ∃ t, v = .int (0 + j * 1) t, e ▸ W.bound, fun j v hv => ?_⟩, fun b hb => .inl (List.mem_singleton.mp hb), b₂, fun j h st => ?_⟩ ?_ I₂
  · obtain ⟨hj, u, rfl⟩ := hv
    refine ⟨.int j, by simp [hj], ?_⟩
    have : (0 : Int) + j * 1 = j := by lia
    rw [this]
    exact .int _ _
  · exact ⟨_, _, st, rfl, by decide, by simp⟩
  · show IsRangeIter _ _ _ _ _
    simpa using Heap.get?_push_size h₂ rfl
noncomputable def itRev : MV → Option (List MV)
  | .lst l => some l.reverse
  | _ => none
theorem si_reversed (O : Ok C) {x : Str} {p pos : Pos} {e : Expr} {f : Ab → Option (MV × Ab)} (hx : Blt C Γ x (.type "reversed")) (hf : SE C Γ d e f)
    (hst : ∀ env, starEach [e] env = [(false, eval e env)]) : SI C Γ d (.Call (.Name x p) [e] [] pos) (fIt f itRev) := by
  intro A env κ m ab ab' s l Q E R I hq k
  unfold fIt at hq
  split at hq
  · exact ns9 hq
  rename_i a ab₁ e1
  split at hq
  case h_2 => exact ns9 hq
  rename_i l' e2
  cases hq
  unfold itRev at e2
  split at e2
  case h_2 => exact ns9 e2
  rename_i l
  cases e2
  show wpAny _ _ (eval (.Name x p) env >>= fun f => callWith pos f [] (backTo pos (starEach [e] env)) (backToKw pos (keywordEach [] env))) _ _ _
  have hst' := hst env
  refine wpAny_bind (blt_name O I hx (callee_t _ (by rw [any_backTo, hst']; rfl) (evalArgs_any (by rw [hst']; rfl) ?_)))
  refine wpAny_items_cons (hf R I e1 fun v h₁ t₁ κ₁ l₁ v₁ I₁ => wpAny_items_nil ?_) (by rw [hst']; rfl)
  obtain ⟨al, n, vs, rfl, ka, va⟩ := v₁.lst_inv
  have hl : h₁.IsList al vs.toArray := ⟨_, I₁.g.frz _ _ ka, rfl, n, rfl⟩
  refine call_reversed_list (s := { s with heap := h₁, toks := t₁ }) hl ?_
  obtain ⟨l₂, f₂, b₂, I₂⟩ := iter_new I₁ (revObj al ((vs.toArray.size : Int) - 1)) rfl
  have hne : @Ne Nat al h₁.objs.size := Nat.ne_of_lt (I₁.g.lt al (by rw [ka]; simp))
  have W := (Walks.listRev (prog := C.prog) (w := C.w) R.hh h₁.objs.size al hne vs.toArray).bound
  have e : vs.toArray.size = l.reverse.length := by rw [List.size_toArray, va.length, List.length_reverse]
  have hit : (h₁.push (revObj al ((vs.toArray.size : Int) - 1))).IsRevIter h₁.objs.size al ((vs.toArray.size : Int) - 1) := ⟨_, Heap.get?_push_size _ rfl, rfl, rfl⟩
  refine wpAny_pyIter_revIter (s := { s with heap := h₁.push (revObj al ((vs.toArray.size : Int) - 1)), toks := t₁ }) hit ?_
  refine k h₁.objs.size _ _ _ _ t₁ κ₁ _ l₁ f₂ l₂ (put_self ..) ⟨⟨_, e ▸ W, fun i v hv => ?_⟩, fun b hb => ?_, b₂, fun i h st => ?_⟩ ⟨Nat.zero_le _, (by have e' : vs.length = l.length := va.length; simpa [e'] using hit), hl.at fun o e => Heap.get?_push_of_some _ e⟩ I₂
  · have hv' : vs[vs.length - 1 - i]? = some v := by have := hv.2; rw [← e] at this; simpa using this
    obtain ⟨mv, p, q⟩ := va.get hv'
    have hi : i < l.length := by have := hv.1; rw [List.length_reverse] at this; exact this
    refine ⟨mv, ?_, q.mono l₂.v⟩
    rw [List.getElem?_reverse hi, ← va.length]; exact p
  · rcases List.mem_cons.mp hb with q | hb
    · exact .inl q
    · rw [List.mem_singleton.mp hb]
      exact .inr ⟨_, l₂.frz _ _ ka⟩
  · obtain ⟨_, ⟨o, ho, hc, hd⟩, _⟩ := st
    exact ⟨o, _, ho, hc, by decide, by rw [hd]; simp⟩
end
end Mine
end

section
namespace Mine
open PySem PySem.Calls PyProof.Rows PySem.W
noncomputable def SG (C : Ctx) (Γ : Frm) (d : Nat) (x : Str) (e : Expr) (f : Ab → Option (Slot × Ab)) : Prop :=
  ∀ ⦃A : Around⦄ ⦃env : Env⦄ ⦃κ : Gh⦄ ⦃m : Str → Option Value⦄ ⦃ab ab' : Ab⦄ ⦃s : Shared⦄ ⦃sl : Slot⦄ ⦃Q : Value → Shared → Prop⦄ ⦃E : Value → Shared → Prop⦄,
    Room A d → Inv C Γ κ env m ab s.heap → f ab = some (sl, ab') →
    (∀ v h' t' κ', Le κ κ' → SlotR C κ' h' (some v) x sl → Inv C Γ κ' env m ab' h' → Q v { s with heap := h', toks := t' }) →
    wpAny (model C.prog C.w) A (eval e env) Q E s
noncomputable def gVal (f : Ab → Option (MV × Ab)) (ab : Ab) : Option (Slot × Ab) := (f ab).map fun p => (.val p.1, p.2)
noncomputable def gLst (g : Ab → Option (List MV × Ab)) (ab : Ab) : Option (Slot × Ab) := match g ab with
  | some (l, ab) => if l.length ≤ room then some (.ownL l, ab) else none
  | none => none
noncomputable def gD0 (ab : Ab) : Option (Slot × Ab) := some (.ownD [], ab)
noncomputable def gDict (f : Ab → Option (MV × Ab)) (ab : Ab) : Option (Slot × Ab) := match f ab with
  | some (.dct l, ab) => if l.length ≤ room then some (.ownD l, ab) else none
  | _ => none
section
variable {C : Ctx} {Γ : Frm} {d : Nat} {x : Str}
theorem slot_new {κ : Gh} {env : Env} {m : Str → Option Value} {ab : Ab} {h : Heap} (I : Inv C Γ κ env m ab h) (o : Obj) (hf : o.isFreed = false) (x : Str) :
    Le κ (put κ h.objs.size (.slot x)) ∧ Kept κ (put κ h.objs.size (.slot x)) h (h.push o) ∧ Inv C Γ (put κ h.objs.size (.slot x)) env m ab (h.push o) := by
  have f := I.g.free
  have k : Kept κ (put κ h.objs.size (.slot x)) h (h.push o) := Kept.put _ o f I.g.lt
  refine ⟨Le.put _ f, k, ?_⟩
  exact I.keep (I.g.push hf ⟨fun _ e => (by cases e), fun _ e => (by cases e), fun _ e => (by cases e)⟩) (Le.put _ f) k
theorem sg_val {e : Expr} {f : Ab → Option (MV × Ab)} (hf : SE C Γ d e f) : SG C Γ d x e (gVal f) := by
  intro A env κ m ab ab' s sl Q E R I hq k
  unfold gVal at hq
  cases e1 : f ab with
  | none => rw [e1] at hq; exact ns9 hq
  | some p =>
    rw [e1] at hq; cases hq
    exact hf R I e1 fun v h' t' κ' l hv I' => k v h' t' κ' l ⟨v, rfl, hv⟩ I'
theorem sg_list {es : List Expr} {pos : Pos} {g : Ab → Option (List MV × Ab)} (hg : SL C Γ d es g) : SG C Γ d x (.List es pos) (gLst g) := by
  intro A env κ m ab ab' s sl Q E R I hq k
  unfold gLst at hq
  split at hq
  case h_2 => exact ns9 hq
  rename_i l ab₁ e1
  split at hq
  case isFalse => exact ns9 hq
  rename_i hl
  cases hq
  refine wpAny_List (hg R I e1 fun vs h₁ t₁ κ₁ l₁ v₁ I₁ => ⟨?_, ?_⟩)
  · rw [v₁.length]; exact Nat.le_trans hl room_line
  · obtain ⟨l₂, _, I₂⟩ := slot_new I₁ (lstOf vs 0) rfl x
    exact k _ _ t₁ _ (l₁.trans l₂) ⟨_, vs, 0, rfl, put_self .., Heap.get?_push_size _ rfl, v₁.mono l₂.v⟩ I₂
theorem sg_dict0 {pos : Pos} : SG C Γ d x (.Dict [] [] pos) gD0 := by
  intro A env κ m ab ab' s sl Q E R I hq k
  cases hq
  obtain ⟨l₂, _, I₂⟩ := slot_new I { cls := .type "dict", data := .dict #[] } rfl x
  refine wpAny_Dict_empty ?_
  obtain ⟨o, ho, hd⟩ := Heap.dictOf_iff.mp (Heap.DictOf.new (knd := strKind C.prog C.w) s.heap)
  exact k _ _ s.toks _ l₂ ⟨_, o, [], rfl, put_self .., ho, hd, .nil⟩ I₂
theorem Inv.ownUpd {κ : Gh} {env : Env} {m : Str → Option Value} {ab : Ab} {h h' : Heap} {a : Addr} (I : Inv C Γ κ env m ab h) (hk : κ a = .slot x) (hn : ∀ i : Nat, ∀ s, Γ.xs[i]? = some x → ab.1[i]? = some s → m x = some (.ref a) → ∀ l, s ≠ .ownL l ∧ ∀ l, s ≠ .ownD l) (hs : Heap.SameBut a h h') (ho : ∃ o, h'.get? a = some o) :
    Inv C Γ κ env m ab h' := by
  refine ⟨I.g.own (by rw [hk]; rfl) hs ho, ?_⟩
  have F := I.f
  refine ⟨F.scope, F.fn, F.gl, F.bi, F.nd, F.kloc, ?_, fun y hy => ?_, F.own, F.len, fun i y s e e' => ?_⟩
  · obtain ⟨ml, p, q⟩ := F.ns
    exact ⟨ml, ns_same p (hs.2 _ (by rintro rfl; rw [F.kloc] at hk; cases hk)), q⟩
  · obtain ⟨c, p, q, dd⟩ := F.cel y hy
    refine ⟨c, p, isCell_same q (hs.2 c ?_), dd⟩
    rintro rfl
    rcases dd with dd | ⟨o, dd | dd⟩ <;> rw [dd] at hk <;> cases hk
  · have z := F.slots i y s e e'
    cases s with
    | un => trivial
    | val mv => exact z
    | ownL ls =>
      obtain ⟨b, vs, n, a1, a2, a3, a4⟩ := z
      have : b ≠ a := by
        rintro rfl
        rw [hk] at a2; cases a2
        exact (hn i _ e e' a1 ls).1 rfl
      exact ⟨b, vs, n, a1, a2, (hs.2 b this).trans a3, a4⟩
    | ownD ls =>
      obtain ⟨b, o, kvs, a1, a2, a3, a4, a5⟩ := z
      have : b ≠ a := by
        rintro rfl
        rw [hk] at a2; cases a2
        exact (hn i _ e e' a1 []).2 ls rfl
      exact ⟨b, o, kvs, a1, a2, (hs.2 b this).trans a3, a4, a5⟩
theorem PRs.length {C : Ctx} {κ : Gh} {vs : List (Str × Value)} {ms : List (Str × MV)} (h : PRs C κ vs ms) : vs.length = ms.length :=
  h.ind (P := fun a b => a.length = b.length) rfl fun _ _ ih => congrArg Nat.succ ih
theorem sg_dict (O : Ok C) {y : Str} {p pos : Pos} {e : Expr} {f : Ab → Option (MV × Ab)} (hy : Blt C Γ y (.type "dict")) (hf : SE C Γ d e f)
    (hst : ∀ env, starEach [e] env = [(false, eval e env)]) : SG C Γ d x (.Call (.Name y p) [e] [] pos) (gDict f) := by
  intro A env κ m ab ab' s sl Q E R I hq k
  unfold gDict at hq
  split at hq
  case h_2 => exact ns9 hq
  rename_i l ab₁ e1
  split at hq
  case isFalse => exact ns9 hq
  rename_i hl
  cases hq
  show wpAny _ _ (eval (.Name y p) env >>= fun f => callWith pos f [] (backTo pos (starEach [e] env)) (backToKw pos (keywordEach [] env))) _ _ _
  have hst' := hst env
  refine wpAny_bind (blt_name O I hy (callee_t _ (by rw [any_backTo, hst']; rfl) (evalArgs_any (by rw [hst']; rfl) ?_)))
  refine wpAny_items_cons (hf R I e1 fun v h₁ t₁ κ₁ l₁ v₁ I₁ => wpAny_items_nil ?_) (by rw [hst']; rfl)
  obtain ⟨dd, kvs, rfl, hne, hd, hp⟩ := dict_at I₁.g v₁ rfl
  refine kt_call_dict (s := { s with heap := h₁, toks := t₁ }) (notSys O I₁.g hne) hd (by rw [hp.length]; exact Nat.le_trans hl room_line) fun h' hm hs => ?_
  obtain ⟨o, ho, hdd⟩ := Heap.dictOf_iff.mp hm
  obtain ⟨l₂, _, I₂⟩ := slot_new I₁ { cls := .type "dict", data := .dict #[] } rfl x
  have I₃ : Inv C Γ (put κ₁ h₁.objs.size (.slot x)) env m ab' h' := I₂.ownUpd (put_self ..) (fun i sl' e e' em => by
    intro l'
    have z := I₁.f.slots i x sl' e e'
    have key : ∀ b, m x = some (.ref b) → κ₁ b = .slot x → False := fun b e₁ e₂ => by
      rw [em] at e₁; cases e₁
      rw [I₁.g.free] at e₂; cases e₂
    cases sl' with
    | un => exact ⟨by simp, by simp⟩
    | val mv => exact ⟨by simp, by simp⟩
    | ownL ls => obtain ⟨b, vs, n, a1, a2, _⟩ := z; exact (key b a1 a2).elim
    | ownD ls => obtain ⟨b, vs, n, a1, a2, _⟩ := z; exact (key b a1 a2).elim) hs ⟨o, ho⟩
  exact k _ h' t₁ _ (l₁.trans l₂) ⟨_, o, kvs, rfl, put_self .., ho, hdd, hp.mono l₂.v⟩ I₃
noncomputable def sNew (i : Nat) (f : Ab → Option (Slot × Ab)) (ab : Ab) : Option (Fl × Ab) := match f ab with
  | some (sl, ab) => some (.nxt, ab.1.set i sl, ab.2)
  | none => none
theorem ss_new {e : Expr} {p pos : Pos} {i : Nat} {f : Ab → Option (Slot × Ab)} (hf : SG C Γ d x e f) (hi : Stores Γ i x) (hs : ∀ env, swapsWith e (some (.Name x p)) pos.line env = pure false) : SS C Γ d (.Assign [.Name x p] e pos) (sNew i f) := by
  intro A env κ m ab ab' s r Q E R I hq k
  unfold sNew at hq
  cases e1 : f ab with
  | none => rw [e1] at hq; exact ns9 hq
  | some q =>
    obtain ⟨sl, ab₁⟩ := q
    rw [e1] at hq; cases hq
    refine wpAny_Assign_Name (hf R I e1 fun v h' t' κ' l hv I' => ?_) (hs env)
    exact store_slot (s := { s with heap := h', toks := t' }) I' hi.1 hi.2 hv fun m' h₂ t₂ I₂ _ => k _ m' h₂ t₂ κ' l trivial I₂
noncomputable def SP (C : Ctx) (Γ : Frm) (d : Nat) (x y : Str) (es : List Expr) (f : Ab → Option ((Slot × Slot) × Ab)) : Prop :=
  ∀ ⦃A : Around⦄ ⦃env : Env⦄ ⦃κ : Gh⦄ ⦃m : Str → Option Value⦄ ⦃ab ab' : Ab⦄ ⦃s : Shared⦄ ⦃r : Slot × Slot⦄ ⦃pos : Pos⦄ ⦃Q : List Value → Shared → Prop⦄ ⦃E : Value → Shared → Prop⦄,
    Room A d → Inv C Γ κ env m ab s.heap → f ab = some (r, ab') →
    (∀ v w h' t' κ', Le κ κ' → SlotR C κ' h' (some v) x r.1 → SlotR C κ' h' (some w) y r.2 → Inv C Γ κ' env m ab' h' → Q [v, w] { s with heap := h', toks := t' }) →
    wpAny (model C.prog C.w) A (spliced (backTo pos (starEach es env))) Q E s
noncomputable def pVal (f : Ab → Option (MV × Ab)) (g : Ab → Option (Slot × Ab)) (ab : Ab) : Option ((Slot × Slot) × Ab) := match f ab with
  | none => none
  | some (m, ab) => match g ab with
    | none => none
    | some (sl, ab) => some ((.val m, sl), ab)
noncomputable def pNil (f : Ab → Option (Slot × Ab)) (ab : Ab) : Option ((Slot × Slot) × Ab) := match f ab with
  | none => none
  | some (sl, ab) => some ((sl, .ownL []), ab)
noncomputable def Star2 (e₁ e₂ : Expr) : Prop := ∀ env, starEach [e₁, e₂] env = (false, eval e₁ env) :: starEach [e₂] env ∧ starEach [e₂] env = (false, eval e₂ env) :: starEach [] env
theorem sp_val {y : Str} {e₁ e₂ : Expr} {f : Ab → Option (MV × Ab)} {g : Ab → Option (Slot × Ab)} (hf : SE C Γ d e₁ f) (hg : SG C Γ d y e₂ g) (hst : Star2 e₁ e₂) : SP C Γ d x y [e₁, e₂] (pVal f g) := by
  intro A env κ m ab ab' s r pos Q E R I hq k
  unfold pVal at hq
  split at hq
  · exact ns9 hq
  rename_i a ab₁ e1
  split at hq
  · exact ns9 hq
  rename_i sl ab₂ e2
  cases hq
  refine wpAny_items_cons (hf R I e1 fun v h₁ t₁ κ₁ l₁ v₁ I₁ => wpAny_items_cons (hg (s := { s with heap := h₁, toks := t₁ }) R I₁ e2 fun w h₂ t₂ κ₂ l₂ v₂ I₂ => wpAny_items_nil ?_) (hst env).2) (hst env).1
  exact k v w h₂ t₂ κ₂ (l₁.trans l₂) ⟨v, rfl, v₁.mono l₂.v⟩ v₂ I₂
theorem sp_nil {y : Str} {e₁ : Expr} {p : Pos} {f : Ab → Option (Slot × Ab)} (hf : SG C Γ d x e₁ f) (hst : Star2 e₁ (.List [] p)) : SP C Γ d x y [e₁, .List [] p] (pNil f) := by
  intro A env κ m ab ab' s r pos Q E R I hq k
  unfold pNil at hq
  split at hq
  · exact ns9 hq
  rename_i sl ab₁ e1
  cases hq
  refine wpAny_items_cons (hf R I e1 fun v h₁ t₁ κ₁ l₁ v₁ I₁ => wpAny_items_cons (wpAny_List (wpAny_items_nil ⟨Nat.zero_le _, wpAny_items_nil ?_⟩)) (hst env).2) (hst env).1
  obtain ⟨l₂, k₂, I₂⟩ := slot_new I₁ (lstOf [] 0) rfl y
  exact k _ _ _ t₁ _ (l₁.trans l₂) (v₁.keep l₂.v k₂) ⟨_, [], 0, rfl, put_self .., Heap.get?_push_size _ rfl, .nil⟩ I₂
noncomputable def sPair (i j : Nat) (f : Ab → Option ((Slot × Slot) × Ab)) (ab : Ab) : Option (Fl × Ab) := match f ab with
  | some ((a, b), ab) => some (.nxt, (ab.1.set j b).set i a, ab.2)
  | none => none
theorem store_slotK {κ : Gh} {env : Env} {m : Str → Option Value} {ρ : List Slot} {G : Gst} {A : Around} {s : Shared} {x : Str} {v : Value} {i : Nat} {a : Slot} {Q : Unit → Shared → Prop} {E : Value → Shared → Prop}
    (I : Inv C Γ κ env m (ρ, G) s.heap) (hi : Γ.xs[i]? = some x) (ki : Γ.scope.names.lookup x = some .local) (hv : SlotR C κ s.heap (some v) x a)
    (k : ∀ m' h' t', Inv C Γ κ env m' (ρ.set i a, G) h' → (∀ w y b, SlotR C κ s.heap w y b → SlotR C κ h' w y b) → Q () { s with heap := h', toks := t' }) :
    wpAny (model C.prog C.w) A (storeName env x v) Q E s := by
  have F := I.f
  have ek : ∀ k, Γ.scope.names.lookup x = some k → env.kindOf x = some k := fun k e => by unfold Env.kindOf; rw [F.scope]; exact e
  have hfn : env.scope.kind = .function := by rw [F.scope]; exact F.fn
  obtain ⟨ml, e1, e2⟩ := F.ns
  refine wpAny_storeName_local (ek _ ki) e1 (fun h' hn hs => ?_) (by rw [hfn]; rfl)
  refine k (fun y => if y = x then some v else m y) h' _ ?_ fun w y b hb => hb.but hs (by rw [F.kloc]; simp)
  refine ⟨I.g.own (by rw [F.kloc]; rfl) hs (let ⟨_, _, _, ho, _⟩ := hn; ⟨_, ho⟩), ?_⟩
  refine ⟨F.scope, F.fn, F.gl, F.bi, F.nd, F.kloc, ⟨_, hn, fun y hy => ?_⟩, fun y hy => ?_, F.own, by rw [List.length_set]; exact F.len, slots_set F hs (by rw [F.kloc]; simp) hi hv⟩
  · by_cases q : y = x
    · simp [q]
    · simp only [if_neg q]; exact e2 y hy
  · obtain ⟨c, p, q, dd⟩ := F.cel y hy
    have yx : y ≠ x := by rintro rfl; rw [ek _ ki] at hy; rcases hy with hy | hy <;> cases hy
    refine ⟨c, p, ?_, dd⟩
    rw [if_neg yx]
    refine isCell_same q (hs.2 c ?_)
    rintro rfl
    rw [F.kloc] at dd
    rcases dd with dd | ⟨o, dd | dd⟩ <;> cases dd
theorem ss_pair {y : Str} {es : List Expr} {k₁ k₂ : Nat} {p p₁ p₂ tp pos : Pos} {i j : Nat} {f : Ab → Option ((Slot × Slot) × Ab)} (hf : SP C Γ d x y es f) (hi : Γ.xs[i]? = some x) (hj : Γ.xs[j]? = some y) (ki : Γ.scope.names.lookup x = some .local) (kj : Γ.scope.names.lookup y = some .local)
    (hs : ∀ env, swapsWithSole [.Tuple [.Name x p₁, .Name y p₂] k₁ p] (.Tuple es k₂ tp) pos.line env = pure false)
    (hw : ∀ env, env.scope = Γ.scope → swappedStores [.Tuple [.Name x p₁, .Name y p₂] k₁ p] (.Tuple es k₂ tp) env = pure (some [x, y])) :
    SS C Γ d (.Assign [.Tuple [.Name x p₁, .Name y p₂] k₁ p] (.Tuple es k₂ tp) pos) (sPair i j f) := by
  intro A env κ m ab ab' s r Q E R I hq k
  unfold sPair at hq
  split at hq
  case h_2 => exact ns9 hq
  rename_i a b ab₁ e1
  cases hq
  refine Assign_Tuple_swapped (names := [x, y]) (wpAny_Tuple (hf R I e1 fun v w h₁ t₁ κ₁ l₁ v₁ w₁ I₁ => ⟨Nat.le_trans (show 2 ≤ room by decide) room_line, ?_⟩)) (hs env) (hw env I.f.scope)
  obtain ⟨l₂, k₂, I₂⟩ := made I₁.g (tupOf [v, w] 0) rfl
  have J := I₁.keep I₂ l₂ k₂
  refine unpackItems_tuple (s := { s with heap := h₁.push (tupOf [v, w] 0), toks := t₁ }) (items := #[v, w]) R.hh ⟨_, Heap.get?_push_size _ rfl, rfl, 0, rfl⟩ fun h₃ he => ?_
  have J₃ := J.ext (ext_new he)
  have K₃ := Kept.ext J.g (ext_new he)
  have v₃ := (v₁.keep l₂.v k₂).keep (Le.refl _).v K₃
  have w₃ := (w₁.keep l₂.v k₂).keep (Le.refl _).v K₃
  show wpAny _ A (assignInOrder [bindName env y, bindName env x] [w, v]) _ E _
  refine assignInOrder_cons (bindName_ ?_)
  refine store_slotK (s := { s with heap := h₃, toks := t₁ }) J₃ hj kj w₃ fun m₄ h₄ t₄ I₄ k₄ => ?_
  refine assignInOrder_cons (bindName_ ?_)
  refine store_slotK (s := { s with heap := h₄, toks := t₄ }) I₄ hi ki (k₄ _ _ _ v₃) fun m₅ h₅ t₅ I₅ _ => ?_
  exact assignInOrder_nil (k .next m₅ h₅ t₅ _ (l₁.trans l₂) trivial I₅)
end
end Mine
end

section
namespace Mine
open PySem PySem.Calls PyProof.Rows PySem.W
section
variable {C : Ctx} {Γ : Frm} {d : Nat} {x : Str}
theorem Inv.ownSet {κ : Gh} {env : Env} {m : Str → Option Value} {ρ : List Slot} {G : Gst} {h h' : Heap} {a : Addr} {i : Nat} {sl : Slot} (I : Inv C Γ κ env m (ρ, G) h) (hx : Γ.xs[i]? = some x) (hk : κ a = .slot x) (hs : Heap.SameBut a h h') (ho : ∃ o, h'.get? a = some o) (hr : SlotR C κ h' (m x) x sl) :
    Inv C Γ κ env m (ρ.set i sl, G) h' := by
  refine ⟨I.g.own (by rw [hk]; rfl) hs ho, ?_⟩
  have F := I.f
  refine ⟨F.scope, F.fn, F.gl, F.bi, F.nd, F.kloc, ?_, fun y hy => ?_, F.own, by rw [List.length_set]; exact F.len, fun j y s e e' => ?_⟩
  · obtain ⟨ml, p, q⟩ := F.ns
    exact ⟨ml, ns_same p (hs.2 _ (by rintro rfl; rw [F.kloc] at hk; cases hk)), q⟩
  · obtain ⟨c, p, q, dd⟩ := F.cel y hy
    refine ⟨c, p, isCell_same q (hs.2 c ?_), dd⟩
    rintro rfl
    rcases dd with dd | ⟨o, dd | dd⟩ <;> rw [dd] at hk <;> cases hk
  · by_cases q : i = j
    · subst q
      rw [hx] at e; cases e
      rw [List.getElem?_set_self'] at e'
      cases hq : ρ[i]? with
      | none => rw [hq] at e'; exact ns9 e'
      | some s₀ => rw [hq] at e'; cases e'; exact hr
    · rw [List.getElem?_set_ne q] at e'
      have xy : y ≠ x := by
        rintro rfl
        exact q ((List.getElem?_inj (List.getElem?_eq_some_iff.mp hx).1 F.nd).mp (hx.trans e.symm))
      have z := F.slots j y s e e'
      have ne : ∀ b, κ b = .slot y → b ≠ a := fun b e => by rintro rfl; rw [hk] at e; cases e; exact xy rfl
      cases s with
      | un => trivial
      | val mv => exact z
      | ownL ls => obtain ⟨b, vs, n, a1, a2, a3, a4⟩ := z; exact ⟨b, vs, n, a1, a2, (hs.2 b (ne b a2)).trans a3, a4⟩
      | ownD ls => obtain ⟨b, o, kvs, a1, a2, a3, a4, a5⟩ := z; exact ⟨b, o, kvs, a1, a2, (hs.2 b (ne b a2)).trans a3, a4, a5⟩
structure Reads' (Γ : Frm) (i : Nat) (x : Str) : Prop where
  at_ : Γ.xs[i]? = some x
  kind : Γ.scope.names.lookup x = some .local ∨ Γ.scope.names.lookup x = some .cell ∨ Γ.scope.names.lookup x = some .free
  nd : (x == ("__debug__" : Str)) = false
  nc : (x == ("__classdict__" : Str)) = false
noncomputable def ownAt (i : Nat) (ab : Ab) : Option (List MV) := match ab.1[i]? with
  | some (.ownL l) => some l
  | _ => none
theorem ownAt_eq {i : Nat} {ab : Ab} {l : List MV} (h : ownAt i ab = some l) : ab.1[i]? = some (.ownL l) := by
  unfold ownAt at h
  split at h
  · cases h; assumption
  · exact ns9 h
noncomputable def ownDAt (i : Nat) (ab : Ab) : Option (List (Str × MV)) := match ab.1[i]? with
  | some (.ownD l) => some l
  | _ => none
theorem ownDAt_eq {i : Nat} {ab : Ab} {l : List (Str × MV)} (h : ownDAt i ab = some l) : ab.1[i]? = some (.ownD l) := by
  unfold ownDAt at h
  split at h
  · cases h; assumption
  · exact ns9 h
theorem own_name {i : Nat} {A : Around} {env : Env} {κ : Gh} {m : Str → Option Value} {ab : Ab} {s : Shared} {p : Pos} {v : Value} {Q : Value → Shared → Prop} {E : Value → Shared → Prop}
    (I : Inv C Γ κ env m ab s.heap) (hx : Reads' Γ i x) (hm : m x = some v) (h : Q v s) : wpAny (model C.prog C.w) A (eval (.Name x p) env) Q E s :=
  wpAny_Name (load_slot I hx.kind hm h hx.nc) hx.nd
noncomputable def tOwn (i : Nat) (ab : Ab) : Option (Bool × Ab) := match ownAt i ab with
  | some l => if l.length ≤ room then some (!l.isEmpty, ab) else none
  | none => none
theorem st_own {i : Nat} {p : Pos} (hx : Reads' Γ i x) : ST C Γ d (.Name x p) (tOwn i) := by
  intro A env κ m ab ab' s r Q E R I hq k
  unfold tOwn at hq
  split at hq
  case h_2 => exact ns9 hq
  rename_i l e1
  split at hq
  case isFalse => exact ns9 hq
  rename_i hl
  cases hq
  obtain ⟨a, vs, n, hm, hk, ho, hv⟩ := I.f.slots i x _ hx.at_ (ownAt_eq e1)
  refine wpAny_isTrue_value (own_name I hx hm (wpAny_truthy_list ⟨_, ho, rfl, n, rfl⟩ ?_ ?_)) rfl
  · rw [List.size_toArray, hv.length]; have : room = 100000 := rfl; lia
  · have e : (!vs.toArray.isEmpty) = !l.isEmpty := by
      have := hv.length
      cases vs <;> cases l <;> simp_all
    rw [e]
    exact k s.heap _ κ (Le.refl κ) I
noncomputable def fLenOwn (i : Nat) (ab : Ab) : Option (MV × Ab) := match ownAt i ab with
  | some l => if l.length ≤ room then some (.int l.length, ab) else none
  | none => none
theorem se_lenOwn (O : Ok C) {i : Nat} {y : Str} {p p' pos : Pos} (hy : Blt C Γ y (.builtin "len")) (hx : Reads' Γ i x)
    (hst : ∀ env, starEach [.Name x p'] env = (false, eval (.Name x p') env) :: starEach [] env) : SE C Γ d (.Call (.Name y p) [.Name x p'] [] pos) (fLenOwn i) := by
  intro A env κ m ab ab' s r Q E R I hq k
  unfold fLenOwn at hq
  split at hq
  case h_2 => exact ns9 hq
  rename_i l e1
  split at hq
  case isFalse => exact ns9 hq
  rename_i hl
  cases hq
  obtain ⟨a, vs, n, hm, hk, ho, hv⟩ := I.f.slots i x _ hx.at_ (ownAt_eq e1)
  have hst' := hst env
  show wpAny _ _ (eval (.Name y p) env >>= fun f => callWith pos f [] (backTo pos (starEach [.Name x p'] env)) (backToKw pos (keywordEach [] env))) _ _ _
  refine wpAny_bind (blt_name O I hy (callee_b _ (by rw [any_backTo, hst']; rfl) (evalArgs_any (by rw [hst']; rfl) ?_)))
  refine wpAny_items_cons (own_name I hx hm (wpAny_items_nil ?_)) hst'
  refine call_len_list ⟨_, ho, rfl, n, rfl⟩ ?_ ?_
  · rw [List.size_toArray, hv.length]; have : room = 100000 := rfl; lia
  · rw [List.size_toArray, hv.length]
    exact k _ s.heap _ κ (Le.refl κ) (.int _ _) I
theorem any_bt {pos : Pos} {e : Expr} {env : Env} (h : starEach [e] env = [(false, eval e env)]) : (backTo pos (starEach [e] env)).any (·.1) = false := by rw [any_backTo, h]; rfl
noncomputable def sApp (i : Nat) (f : Ab → Option (MV × Ab)) (ab : Ab) : Option (Fl × Ab) := match ownAt i ab with
  | none => none
  | some _ => match f ab with
    | none => none
    | some (v, ab) => match ownAt i ab with
      | none => none
      | some l => if l.length ≤ room then some (.nxt, ab.1.set i (.ownL (l ++ [v])), ab.2) else none
theorem VRs.snoc {C : Ctx} {κ : Gh} {vs : List Value} {ms : List MV} {v : Value} {m : MV} (h : VRs C κ vs ms) (k : VR C κ v m) : VRs C κ (vs ++ [v]) (ms ++ [m]) := h.append (.cons k .nil)
theorem ss_append (O : Ok C) {i : Nat} {e : Expr} {p apos pos pos' : Pos} {f : Ab → Option (MV × Ab)} (hx : Reads' Γ i x) (hf : SE C Γ d e f)
    (hst : ∀ env, starEach [e] env = [(false, eval e env)]) (hsw : ∀ env, swapsWith (.Call (.Attribute (.Name x p) "append" apos) [e] [] pos) none pos'.line env = pure false)
    (pl : Env → Sem Bool) (he : ∀ env, eval (.Call (.Attribute (.Name x p) "append" apos) [e] [] pos) env = (do
      let ov ← eval (.Name x p) env
      standAt apos.atName
      let (f, first) ← holding [ov] (getMethod ov "append" (pl env))
      callWith pos f first (backTo pos (starEach [e] env)) (backToKw pos (keywordEach [] env)))) :
    SS C Γ d (.Expr (.Call (.Attribute (.Name x p) "append" apos) [e] [] pos) pos') (sApp i f) := by
  intro A env κ m ab ab' s r Q E R I hq k
  unfold sApp at hq
  split at hq
  · exact ns9 hq
  rename_i l₀ e0
  split at hq
  · exact ns9 hq
  rename_i v ab₁ e1
  split at hq
  · exact ns9 hq
  rename_i l e2
  split at hq
  case isFalse => exact ns9 hq
  rename_i hl
  cases hq
  obtain ⟨a, vs, n, hm, hk, ho, hv⟩ := I.f.slots i x _ hx.at_ (ownAt_eq e0)
  refine wpAny_Expr_any (methodCall_KW (pl := pl env) (own_name I hx hm ?_) (he env)) ?_ (hsw env)
  · refine Calls.getMethod_list_append ho rfl rfl ?_
    refine callee_b "list.append" (any_bt (hst env)) (evalArgs_any (by rw [hst env]; rfl) ?_)
    refine wpAny_items_cons (hf R I e1 fun w h₁ t₁ κ₁ l₁ w₁ I₁ => wpAny_items_nil ?_) (by rw [hst env]; rfl)
    obtain ⟨a', vs', n', hm', hk', ho', hv'⟩ := I₁.f.slots i x _ hx.at_ (ownAt_eq e2)
    rw [hm] at hm'; cases hm'
    refine append_at (s := { s with heap := h₁, toks := t₁ }) (its := vs'.toArray) (n := n') ho' (fun h' hs ho₂ => ?_) ?_
    · have e : vs'.toArray.push w = (vs' ++ [w]).toArray := by simp
      rw [e] at ho₂
      refine k .next m h' t₁ κ₁ l₁ trivial ?_
      exact Inv.ownSet (ρ := ab₁.1) (G := ab₁.2) I₁ hx.at_ hk' hs ⟨_, ho₂⟩ ⟨a, _, _, hm, hk', ho₂, hv'.snoc w₁⟩
    · rw [List.size_toArray, hv'.length]; exact Nat.le_trans hl room_line
  · unfold interactive
    rw [I.f.scope, I.f.fn]; rfl
noncomputable def lastOf : List MV → Option (List MV × MV)
  | [] => none
  | [x] => some ([], x)
  | x :: y :: r => match lastOf (y :: r) with
    | some (p, z) => some (x :: p, z)
    | none => none
theorem lastOf_eq : ∀ {l p : List MV} {z : MV}, lastOf l = some (p, z) → l = p ++ [z]
  | [], _, _, h => by cases h
  | [x], _, _, h => by cases h; rfl
  | x :: y :: r, p, z, h => by
    unfold lastOf at h
    cases e : lastOf (y :: r) with
    | none => rw [e] at h; exact ns9 h
    | some q => rw [e] at h; cases h; rw [lastOf_eq e]; rfl
theorem VRs.unsnoc {C : Ctx} {κ : Gh} {ms : List MV} {m : MV} {vs : List Value} (h : VRs C κ vs (ms ++ [m])) : ∃ ws w, vs = ws ++ [w] ∧ VRs C κ ws ms ∧ VR C κ w m := by
  induction ms generalizing vs with
  | nil => obtain ⟨v, ws, rfl, a, b⟩ := h.cons_inv; exact ⟨[], v, by rw [b.nil_inv]; rfl, .nil, a⟩
  | cons x ms ih =>
    obtain ⟨v, ws, rfl, a, b⟩ := VRs.cons_inv (ms := ms ++ [m]) h
    obtain ⟨ws', w, e, p, q⟩ := ih b
    exact ⟨v :: ws', w, congrArg (v :: ·) e, .cons a p, q⟩
noncomputable def fPop (i : Nat) (ab : Ab) : Option (MV × Ab) := match ownAt i ab with
  | none => none
  | some l => match lastOf l with
    | none => none
    | some (p, z) => if l.length ≤ room then some (z, ab.1.set i (.ownL p), ab.2) else none
theorem se_pop (O : Ok C) {i : Nat} {p apos pos : Pos} (hx : Reads' Γ i x) (hst : ∀ env, starEach [] env = [])
    (pl : Env → Sem Bool) (he : ∀ env, eval (.Call (.Attribute (.Name x p) "pop" apos) [] [] pos) env = (do
      let ov ← eval (.Name x p) env
      standAt apos.atName
      let (f, first) ← holding [ov] (getMethod ov "pop" (pl env))
      callWith pos f first (backTo pos (starEach [] env)) (backToKw pos (keywordEach [] env)))) :
    SE C Γ d (.Call (.Attribute (.Name x p) "pop" apos) [] [] pos) (fPop i) := by
  intro A env κ m ab ab' s r Q E R I hq k
  unfold fPop at hq
  split at hq
  · exact ns9 hq
  rename_i l e0
  split at hq
  · exact ns9 hq
  rename_i pr z e1
  split at hq
  case isFalse => exact ns9 hq
  rename_i hl
  cases hq
  obtain ⟨a, vs, n, hm, hk, ho, hv⟩ := I.f.slots i x _ hx.at_ (ownAt_eq e0)
  have hT : s.TypeIs (.ref a) "list" := ⟨_, ho, rfl⟩
  refine methodCall_KW (pl := pl env) (own_name I hx hm ?_) (he env)
  refine getMethod_builtin hT PySem.F.plainAttrs_list PySem.F.slot_list_pop PySem.F.type_list_pop (fun b e => by cases e; exact ⟨_, ho, rfl⟩) ?_
  refine callee_b "list.pop" (by rw [any_backTo]; rfl) (evalArgs_any rfl (wpAny_items_nil ?_))
  have hlen := hv.length
  rw [lastOf_eq e1] at hv hl
  obtain ⟨ws, w, e, hws, hw⟩ := hv.unsnoc
  subst e
  have hy : (ws ++ [w]).toArray[(ws ++ [w]).toArray.size - 1]? = some w := by simp
  have hfin := MeetsSeq.list_pop_last a (ws ++ [w]).toArray n w hy (by
    rw [List.size_toArray, List.length_append, hws.length]
    rw [List.length_append] at hl
    exact Nat.le_trans hl room_line)
  refine call_meets PySem.F.slot_list_pop hT PySem.F.entry_list_pop (PySem.F.args_list_pop_1 _) hfin ⟨ho, ?_⟩
  have hsb : Heap.SameBut a s.heap (s.heap.update a (Obj.mapSeq fun xs => xs.eraseIdxIfInBounds ((ws ++ [w]).toArray.size - 1))) := Heap.SameBut.update ..
  have ho₂ : (s.heap.update a (Obj.mapSeq fun xs => xs.eraseIdxIfInBounds ((ws ++ [w]).toArray.size - 1))).get? a = some (lstOf ws (n + 1)) := by
    have z := IsL.update (n := n) ho (fun xs => xs.eraseIdxIfInBounds ((ws ++ [w]).toArray.size - 1))
    have e2 : (ws ++ [w]).toArray.eraseIdxIfInBounds ((ws ++ [w]).toArray.size - 1) = ws.toArray := by
      apply Array.toList_inj.mp
      simp [Array.eraseIdxIfInBounds]
      rw [List.eraseIdx_append_of_length_le (Nat.le_refl _)]; simp
    rw [e2] at z
    rw [z]
    have : ((ws.toArray.size == (ws ++ [w]).toArray.size)) = false := by simp
    rw [this]; rfl
  exact k w _ s.toks κ (Le.refl κ) hw (Inv.ownSet (ρ := ab.1) (G := ab.2) I hx.at_ hk hsb ⟨_, ho₂⟩ ⟨a, _, _, hm, hk, ho₂, hws⟩)
end
end Mine
end

section
namespace Mine
open PySem PySem.Calls PyProof.Rows PySem.W
section
variable {C : Ctx} {Γ : Frm} {d : Nat} {x : Str}
theorem VRs.drop' {C : Ctx} {κ : Gh} (n : Nat) : ∀ {vs : List Value} {ms : List MV}, VRs C κ vs ms → VRs C κ (vs.drop n) (ms.drop n) := fun h => h.drop n
noncomputable def fDrop (i : Nat) (f : Ab → Option (MV × Ab)) (ab : Ab) : Option (MV × Ab) := match ownAt i ab with
  | none => none
  | some _ => match f ab with
    | some (.int a, ab) => (match ownAt i ab with
      | none => none
      | some l => if 0 ≤ a ∧ l.length ≤ room then some (.lst (l.drop a.toNat), ab) else none)
    | _ => none
theorem se_dropOwn {i : Nat} {e : Expr} {p p' pos : Pos} {f : Ab → Option (MV × Ab)} (hx : Reads' Γ i x) (hf : SE C Γ d e f) :
    SE C Γ d (.Subscript (.Name x p) (.Slice (some e) none none p') pos) (fDrop i f) := by
  intro A env κ m ab ab' s r Q E R I hq k
  unfold fDrop at hq
  split at hq
  · exact ns9 hq
  rename_i l₀ e0
  split at hq
  case h_2 => exact ns9 hq
  rename_i n ab₁ e1
  split at hq
  · exact ns9 hq
  rename_i l e2
  split at hq
  case isFalse => exact ns9 hq
  rename_i hb
  cases hq
  obtain ⟨a, vs₀, n₀, hm, hk₀, ho₀, hv₀⟩ := I.f.slots i x _ hx.at_ (ownAt_eq e0)
  refine Subscript_ (own_name I hx hm ?_)
  refine wpAny_Slice ?_
  rw [evalPart_none, evalPart_some]
  refine hf R I e1 fun y h₂ t₂ κ₂ l₂ v₂ I₂ => wpAny_pure (wpAny_pure ?_)
  obtain ⟨a', vs, nn, hm', hk, ho, hv⟩ := I₂.f.slots i x _ hx.at_ (ownAt_eq e2)
  rw [hm] at hm'; cases hm'
  obtain ⟨t, rfl⟩ := v₂.int_inv
  obtain ⟨l₃, k₃, I₃⟩ := dropped I₂.g { cls := .type "slice", data := .fields #[.int n t, .none, .none] } rfl
  have J := I₂.keep I₃ l₃ k₃
  have hL : (h₂.push { cls := .type "slice", data := .fields #[.int n t, .none, .none] }).IsList a vs.toArray := ⟨_, Heap.get?_push_of_some _ ho, rfl, nn, rfl⟩
  have hi : n = ((n.toNat : Nat) : Int) := by lia
  refine tail_any (s := { s with heap := h₂.push { cls := .type "slice", data := .fields #[.int n t, .none, .none] }, toks := t₂ }) hL.typeIs slot_list_getitem.lookup
    (wpAny_getItem_list_slice (lo := some n) (hi := none) (st := none) hL (Heap.IsSliceOf.new ..) (.int n t) .none .none (by simp) ?_ ?_) (ops := [.ref h₂.objs.size, .ref a]) rfl
  · obtain ⟨l₄, k₄, I₄⟩ := made I₃ (lstOf (vs.drop n.toNat) 0) rfl
    have e : slicePick vs.toArray (some n) none none = (vs.drop n.toNat).toArray := by
      have z := slicePick_from' vs.toArray n.toNat
      rw [← hi] at z
      simpa using z
    rw [e]
    exact k _ _ t₂ _ (l₂.trans (l₃.trans l₄)) (.lst (put_self ..) ((hv.drop' _).mono (l₃.trans l₄).v)) (J.keep I₄ l₄ k₄)
  · rw [List.size_toArray, hv.length]; exact Nat.le_trans hb.2 room_line
theorem slice_subscript {M : Model} {A : Around} {E : Value → Shared → Prop} {s : Shared} {sl : Addr} {Q : Option Int → Shared → Prop} (hT : s.TypeIs (.ref sl) "slice") (h : Q none s) : wpAny M A (Builtin.List.listSubscript? (.ref sl)) Q E s := by
  unfold Builtin.List.listSubscript?
  refine wpAny_bind (wpAny_specialOf hT slice_no_index ?_)
  simp only [Option.isNone_none, if_true]
  exact wpAny_pure h
theorem letGo_any {M : Model} {A : Around} {E : Value → Shared → Prop} {s : Shared} {Q : Unit → Shared → Prop} : ∀ (l : List Value), Q () s → wpAny M A (letGo l) Q E s
  | [], h => wpAny_pure h
  | x :: r, h => by
    unfold letGo
    exact wpAny_bind (wpAny_holding (wpAny_point (letGo_any r h)))
noncomputable def sel (start stop step : Int) (i : Nat) : Bool :=
  if step > 0 then start ≤ i && i < stop && (i - start) % step == 0
  else stop < i && i ≤ start && (start - i) % (-step) == 0
noncomputable def cutOut (start stop step : Int) (xs : Array Value) : Array Value := (xs.toList.zipIdx.filterMap fun (x, k) => if sel start stop step k then none else some x).toArray
theorem cut_from (a : Nat) : ∀ (l : List Value) (b n : Nat), b + l.length = n → (l.zipIdx b).filterMap (fun (x, k) => if sel (a : Int) (n : Int) 1 k then none else some x) = l.take (a - b)
  | [], b, n, h => by simp
  | x :: r, b, n, h => by
    have ih := cut_from a r (b + 1) n (by simp at h; lia)
    rw [List.zipIdx_cons, List.filterMap_cons]
    dsimp only
    by_cases hb : a ≤ b
    · have : sel (a : Int) (n : Int) 1 b = true := by
        unfold sel
        simp at h ⊢
        lia
      rw [this]
      have e1 : a - b = 0 := by lia
      have e2 : a - (b + 1) = 0 := by lia
      rw [e1]; rw [e2] at ih
      simpa using ih
    · have : sel (a : Int) (n : Int) 1 b = false := by
        unfold sel
        simp at h ⊢
        lia
      rw [this]
      have e1 : a - b = (a - (b + 1)) + 1 := by lia
      rw [e1, List.take_succ_cons]
      simpa using ih
theorem delItem_slice {prog : Program} {w : World} {A : Around} {E : Value → Shared → Prop} {s : Shared} {l sl : Addr} {vs : List Value} {n : Nat} {i : Int} {t : Tok} {Q : Unit → Shared → Prop} (hl : s.heap.get? l = some (lstOf vs n))
    (hs : s.heap.IsSliceOf sl (.int i t) .none .none) (hi : 0 ≤ i) (hle : i.toNat ≤ vs.length) (hsz : vs.length ≤ sizeLine)
    (h : ∀ h' n', Heap.SameBut l s.heap h' → h'.get? l = some (lstOf (vs.take i.toNat) n') → Q () { s with heap := h' }) : wpAny (model prog w) A (delItem (.ref l) (.ref sl)) Q E s := by
  have hT : s.TypeIs (.ref l) "list" := ⟨_, hl, rfl⟩
  obtain ⟨os, hos, hcs, hds⟩ := id hs
  have hTs : s.TypeIs (.ref sl) "slice" := ⟨os, hos, hcs⟩
  refine wpAny_delItem_slot hT (by decide) PySem.F.slot_list_delitem (wpAny_call_entry PySem.F.slot_list_delitem hT PySem.F.entry_list_delitem ?_ (PySem.F.args_list_delitem_2 _ _))
  show wpAny _ _ (Builtin.List.listSubscript? (.ref sl) >>= _) _ _ s
  refine wpAny_bind (slice_subscript hTs ?_)
  show wpAny _ _ (typeOf (.ref sl) >>= _) _ _ s
  refine wpAny_bind (wpAny_typeOf hTs ?_)
  rw [if_neg (by decide)]
  refine wpAny_bind (m := Builtin.List.listSliceParts (.ref sl)) ?_
  rw [listSliceParts_eq]
  refine wpAny_bind (wpAny_field hos hds (x := .none) rfl (wpAny_bind (wpAny_listPart .none ?_)))
  rw [if_neg (by simp [rawPart, rawInt])]
  refine wpAny_bind (wpAny_field hos hds (x := .int i t) rfl (wpAny_bind (wpAny_listPart (.int i t) ?_)))
  refine wpAny_bind (wpAny_field hos hds (x := .none) rfl (wpAny_bind (wpAny_listPart .none (wpAny_pure ?_))))
  refine wpAny_bind (m := Builtin.List.listItems (.ref l)) ?_
  unfold Builtin.List.listItems
  refine wpAny_bind (wpAny_seqItems hl rfl (wpAny_pure ?_))
  refine wpAny_bind (wpAny_of_eq (sliceIndices_raw (some i) none none vs.toArray.size (by simp)) ?_)
  have e : sliceBounds (some i) none none vs.toArray.size = (((i.toNat : Nat) : Int), ((vs.length : Nat) : Int), 1) := by
    simp [sliceBounds]
    lia
  rw [e]
  refine wpAny_bind (wpAny_rule ?_)
  show wpAny _ _ (updateSeq l (cutOut ((i.toNat : Nat) : Int) ((vs.length : Nat) : Int) 1) >>= _) _ _ s
  have hcut : cutOut ((i.toNat : Nat) : Int) ((vs.length : Nat) : Int) 1 vs.toArray = (vs.take i.toNat).toArray := by
    unfold cutOut
    have := cut_from i.toNat vs 0 vs.length (by simp)
    simp only [Nat.sub_zero] at this
    rw [this]
  have hup : (s.heap.update l (Obj.mapSeq (cutOut ((i.toNat : Nat) : Int) ((vs.length : Nat) : Int) 1))).get? l = some (lstOf (vs.take i.toNat) (if (vs.take i.toNat).toArray.size == vs.toArray.size then n else n + 1)) := by
    have z := IsL.update (n := n) hl (cutOut ((i.toNat : Nat) : Int) ((vs.length : Nat) : Int) 1)
    rw [hcut] at z
    exact z
  refine wpAny_bind (wpAny_updateSeq hl rfl ?_ (by simpa using hsz) (by rw [hcut]; simp; lia))
  refine wpAny_bind (m := letGo _) (letGo_any _ ?_)
  exact wpAny_pure ⟨_, rfl, h _ _ (Heap.SameBut.update ..) hup⟩
end
end Mine
end

section
namespace Mine
open PySem PySem.Calls PyProof.Rows PySem.W
noncomputable def mSet (l : List (Str × MV)) (k : Str) (v : MV) : List (Str × MV) := if l.any (fun kv => kv.1 = k) then l.map (fun kv => if kv.1 = k then (kv.1, v) else kv) else l ++ [(k, v)]
theorem PRs.any {C : Ctx} {κ : Gh} {k : Str} {kvs : List (Str × Value)} {ms : List (Str × MV)} (h : PRs C κ kvs ms) : kvs.any (fun kv => kv.1 = k) = ms.any (fun kv => kv.1 = k) :=
  h.ind (P := fun a b => a.any (fun kv => kv.1 = k) = b.any (fun kv => kv.1 = k)) rfl fun _ _ ih => by rw [List.any_cons, List.any_cons, ih]
theorem PRs.mapSet {C : Ctx} {κ : Gh} {k : Str} {v : Value} {m : MV} (h : VR C κ v m) {kvs : List (Str × Value)} {ms : List (Str × MV)} (r : PRs C κ kvs ms) : PRs C κ (kvs.map (fun kv => if kv.1 = k then (kv.1, v) else kv)) (ms.map (fun kv => if kv.1 = k then (kv.1, m) else kv)) := by
  refine r.ind (P := fun kvs ms => PRs C κ (kvs.map (fun kv => if kv.1 = k then (kv.1, v) else kv)) (ms.map (fun kv => if kv.1 = k then (kv.1, m) else kv))) .nil ?_
  intro x v' m' es ms a _ ih
  rw [List.map_cons, List.map_cons]
  by_cases e : x = k
  · simp only [e, if_true]; exact .cons h ih
  · simp only [e, if_false]; exact .cons a ih
theorem PRs.snoc {C : Ctx} {κ : Gh} {k : Str} {v : Value} {m : MV} (h : VR C κ v m) {kvs : List (Str × Value)} {ms : List (Str × MV)} (r : PRs C κ kvs ms) : PRs C κ (kvs ++ [(k, v)]) (ms ++ [(k, m)]) :=
  r.ind (P := fun a b => PRs C κ (a ++ [(k, v)]) (b ++ [(k, m)])) (.cons h .nil) fun a _ ih => .cons a ih
theorem PRs.stored {C : Ctx} {κ : Gh} {k : Str} {v : Value} {m : MV} (h : VR C κ v m) {kvs : List (Str × Value)} {ms : List (Str × MV)} (r : PRs C κ kvs ms) : PRs C κ (stored kvs k v) (mSet ms k m) := by
  unfold PySem.stored mSet
  rw [r.any]
  split
  · exact r.mapSet h
  · exact r.snoc h
section
variable {C : Ctx} {Γ : Frm} {d : Nat} {x : Str}
noncomputable def sDel (i : Nat) (f : Ab → Option (MV × Ab)) (ab : Ab) : Option (Fl × Ab) := match ownAt i ab with
  | none => none
  | some _ => match f ab with
    | some (.int a, ab) => (match ownAt i ab with
      | none => none
      | some l => if 0 ≤ a ∧ a.toNat ≤ l.length ∧ l.length ≤ room then some (.nxt, ab.1.set i (.ownL (l.take a.toNat)), ab.2) else none)
    | _ => none
theorem ss_del {i : Nat} {e : Expr} {p p' pos pos' : Pos} {f : Ab → Option (MV × Ab)} (hx : Reads' Γ i x) (hf : SE C Γ d e f) :
    SS C Γ d (.Delete [.Subscript (.Name x p) (.Slice (some e) none none p') pos] pos') (sDel i f) := by
  intro A env κ m ab ab' s r Q E R I hq k
  unfold sDel at hq
  split at hq
  · exact ns9 hq
  rename_i l₀ e0
  split at hq
  case h_2 => exact ns9 hq
  rename_i n ab₁ e1
  split at hq
  · exact ns9 hq
  rename_i l e2
  split at hq
  case isFalse => exact ns9 hq
  rename_i hb
  cases hq
  obtain ⟨a, vs₀, n₀, hm, hk₀, ho₀, hv₀⟩ := I.f.slots i x _ hx.at_ (ownAt_eq e0)
  refine wpAny_Delete (wpAny_deleteEach_cons (wpAny_delete_Subscript (own_name I hx hm ?_)))
  refine wpAny_Slice ?_
  rw [evalPart_none, evalPart_some]
  refine hf R I e1 fun y h₂ t₂ κ₂ l₂ v₂ I₂ => wpAny_pure (wpAny_pure ?_)
  obtain ⟨a', vs, nn, hm', hk, ho, hv⟩ := I₂.f.slots i x _ hx.at_ (ownAt_eq e2)
  rw [hm] at hm'; cases hm'
  obtain ⟨t, rfl⟩ := v₂.int_inv
  have J := I₂.ext (h' := h₂.push { cls := .type "slice", data := .fields #[.int n t, .none, .none] }) fun b o e => Heap.get?_push_of_some _ e
  refine delItem_slice (s := { s with heap := h₂.push { cls := .type "slice", data := .fields #[.int n t, .none, .none] }, toks := t₂ }) (Heap.get?_push_of_some _ ho) (Heap.IsSliceOf.new ..) hb.1 (by rw [hv.length]; exact hb.2.1) (by rw [hv.length]; exact Nat.le_trans hb.2.2 room_line) fun h' n' hs ho' => ?_
  refine wpAny_deleteEach_nil ?_
  exact k .next m h' t₂ κ₂ l₂ trivial (Inv.ownSet (ρ := ab₁.1) (G := ab₁.2) J hx.at_ hk hs ⟨_, ho'⟩ ⟨a, _, _, hm, hk, ho', hv.take _⟩)
noncomputable def sSetD (i : Nat) (f g : Ab → Option (MV × Ab)) (ab : Ab) : Option (Fl × Ab) := match f ab with
  | none => none
  | some (v, ab) => match ownDAt i ab with
    | none => none
    | some _ => match g ab with
      | some (.str k, ab) => (match ownDAt i ab with
        | none => none
        | some l => if l.length ≤ room then some (.nxt, ab.1.set i (.ownD (mSet l k v)), ab.2) else none)
      | _ => none
theorem ss_setD {i : Nat} {e ek : Expr} {p p' pos : Pos} {f g : Ab → Option (MV × Ab)} (hx : Reads' Γ i x) (hf : SE C Γ d e f) (hg : SE C Γ d ek g)
    (hs : ∀ env, swapsWith e (some (.Subscript (.Name x p) ek p')) pos.line env = pure false) : SS C Γ d (.Assign [.Subscript (.Name x p) ek p'] e pos) (sSetD i f g) := by
  intro A env κ m ab ab' s r Q E R I hq k
  unfold sSetD at hq
  split at hq
  · exact ns9 hq
  rename_i v ab₁ e1
  split at hq
  · exact ns9 hq
  rename_i l₀ e0
  split at hq
  case h_2 => exact ns9 hq
  rename_i kk ab₂ e3
  split at hq
  · exact ns9 hq
  rename_i l e2
  split at hq
  case isFalse => exact ns9 hq
  rename_i hb
  cases hq
  refine wpAny_Assign_Subscript (hf R I e1 fun w h₁ t₁ κ₁ l₁ w₁ I₁ => ?_) (hs env)
  obtain ⟨a, o₀, kvs₀, hm, hk₀, ho₀, hd₀, hv₀⟩ := I₁.f.slots i x _ hx.at_ (ownDAt_eq e0)
  refine own_name I₁ hx hm (hg (s := { s with heap := h₁, toks := t₁ }) R I₁ e3 fun y h₂ t₂ κ₂ l₂ v₂ I₂ => ?_)
  obtain ⟨a', o, kvs, hm', hk, ho, hd, hv⟩ := I₂.f.slots i x _ hx.at_ (ownDAt_eq e2)
  rw [hm] at hm'; cases hm'
  obtain ⟨t, rfl⟩ := v₂.str_inv
  refine wpAny_setItem_pairs (s := { s with heap := h₂, toks := t₂ }) (strKind_is C.prog C.w kk t) (Heap.dictOf_iff.mpr ⟨o, ho, hd⟩) (fun h' hm₂ hs₂ => ?_) (by rw [hv.length]; exact Nat.le_trans hb room_line)
  obtain ⟨o₂, ho₂, hd₂⟩ := Heap.dictOf_iff.mp hm₂
  exact k .next m h' _ κ₂ (l₁.trans l₂) trivial (Inv.ownSet (ρ := ab₂.1) (G := ab₂.2) I₂ hx.at_ hk hs₂ ⟨_, ho₂⟩ ⟨a, o₂, _, hm, hk, ho₂, hd₂, hv.stored (w₁.mono l₂.v)⟩)
theorem InvG.gloSet {κ : Gh} {G : Gst} {h h' : Heap} {a : Addr} {j : Nat} {gv gv₀ : GV} {o : Obj} (I : InvG C κ G h) (hk : κ a = .glo j) (hs : Heap.SameBut a h h') (ho : h'.get? a = some o) (hd : GloR C κ o gv) (hj : G[j]? = some gv₀) : InvG C κ (G.set j gv) h' := by
  have ne : ∀ {b : Addr} {k : Knd}, κ b = k → (∀ i, k ≠ .glo i) → b ≠ a := fun {b k} e n => by
    rintro rfl; exact n j (e.symm.trans hk)
  refine ⟨I.base, fun b q e => (hs.2 b (ne e (by simp))).trans (I.frz b q e), fun b q e => (hs.2 b (ne e (by simp))).trans (I.frn b q e), fun b i e => ?_, fun b e => ?_, I.gi⟩
  · by_cases q : b = a
    · subst q
      rw [hk] at e; cases e
      exact ⟨o, gv, ho, by rw [List.getElem?_set_self']; rw [hj]; rfl, hd⟩
    · obtain ⟨o₁, gv₁, a1, a3, a4⟩ := I.glo b i e
      have ij : j ≠ i := by rintro rfl; exact q (I.gi.1 b a j e hk)
      exact ⟨o₁, gv₁, (hs.2 b q).trans a1, by rw [List.getElem?_set_ne ij]; exact a3, a4⟩
  · by_cases q : b = a
    · subst q; exact ⟨o, ho⟩
    · rw [hs.2 b q]; exact I.al b e
theorem Inv.gloSet {κ : Gh} {env : Env} {m : Str → Option Value} {ρ : List Slot} {G : Gst} {h h' : Heap} {a : Addr} {j : Nat} {gv gv₀ : GV} {o : Obj} (I : Inv C Γ κ env m (ρ, G) h) (hk : κ a = .glo j) (hs : Heap.SameBut a h h') (ho : h'.get? a = some o) (hd : GloR C κ o gv) (hj : G[j]? = some gv₀) : Inv C Γ κ env m (ρ, G.set j gv) h' :=
  I.keep (I.g.gloSet hk hs ho hd hj) (Le.refl κ) fun b e => ⟨rfl, hs.2 b (by rintro rfl; rw [hk] at e; cases e)⟩
noncomputable def sSetG (fo f g : Ab → Option (MV × Ab)) (ab : Ab) : Option (Fl × Ab) := match f ab with
  | none => none
  | some (v, ab) => match fo ab with
    | some (.glo j, ab) => (match g ab with
      | some (.str k, ab) => (match ab.2[j]? with
        | some (.d l) => if l.length ≤ room then some (.nxt, ab.1, ab.2.set j (.d (mSet l k v))) else none
        | _ => none)
      | _ => none)
    | _ => none
theorem ss_setG {o e ek : Expr} {p' pos : Pos} {fo f g : Ab → Option (MV × Ab)} (hfo : SE C Γ d o fo) (hf : SE C Γ d e f) (hg : SE C Γ d ek g)
    (hs : ∀ env, swapsWith e (some (.Subscript o ek p')) pos.line env = pure false) : SS C Γ d (.Assign [.Subscript o ek p'] e pos) (sSetG fo f g) := by
  intro A env κ m ab ab' s r Q E R I hq k
  unfold sSetG at hq
  split at hq
  · exact ns9 hq
  rename_i v ab₁ e1
  split at hq
  case h_2 => exact ns9 hq
  rename_i j ab₂ e2
  split at hq
  case h_2 => exact ns9 hq
  rename_i kk ab₃ e3
  split at hq
  case h_2 => exact ns9 hq
  rename_i l e4
  split at hq
  case isFalse => exact ns9 hq
  rename_i hb
  cases hq
  refine wpAny_Assign_Subscript (hf R I e1 fun w h₁ t₁ κ₁ l₁ w₁ I₁ => ?_) (hs env)
  refine hfo (s := { s with heap := h₁, toks := t₁ }) R I₁ e2 fun ov h₂ t₂ κ₂ l₂ ov₂ I₂ => ?_
  refine hg (s := { s with heap := h₂, toks := t₂ }) R I₂ e3 fun y h₃ t₃ κ₃ l₃ v₃ I₃ => ?_
  obtain ⟨a, rfl, ka⟩ := ov₂.glo_inv
  have ka₃ := l₃.glo _ _ ka
  obtain ⟨o₁, gv, a1, a3, a4⟩ := I₃.g.glo _ _ ka₃
  rw [e4] at a3; cases a3
  obtain ⟨kvs, a2, a4⟩ := a4
  obtain ⟨t, rfl⟩ := v₃.str_inv
  refine wpAny_setItem_pairs (s := { s with heap := h₃, toks := t₃ }) (strKind_is C.prog C.w kk t) (Heap.dictOf_iff.mpr ⟨_, a1, a2⟩) (fun h' hm₂ hs₂ => ?_) (by rw [a4.length]; exact Nat.le_trans hb room_line)
  obtain ⟨o₂, ho₂, hd₂⟩ := Heap.dictOf_iff.mp hm₂
  exact k .next m h' _ κ₃ (l₁.trans (l₂.trans l₃)) trivial (Inv.gloSet (ρ := ab₃.1) (G := ab₃.2) I₃ ka₃ hs₂ ho₂ (gv := .d _) ⟨_, hd₂, a4.stored (w₁.mono (l₂.trans l₃).v)⟩ e4)
noncomputable def sAug (i : Nat) (f : Ab → Option (MV × Ab)) (ab : Ab) : Option (Fl × Ab) := match gv9 i ab with
  | some (.int a, ab) => (match f ab with
    | some (.int b, ab) => some (.nxt, ab.1.set i (.val (.int (a + b))), ab.2)
    | _ => none)
  | _ => none
theorem ss_aug {i : Nat} {e : Expr} {p pos : Pos} {f : Ab → Option (MV × Ab)} (hx : Reads' Γ i x) (hst : Stores Γ i x) (hf : SE C Γ d e f) : SS C Γ d (.AugAssign (.Name x p) .Add e pos) (sAug i f) := by
  intro A env κ m ab ab' s r Q E R I hq k
  unfold sAug at hq
  split at hq
  case h_2 => exact ns9 hq
  rename_i a ab₁ e1
  split at hq
  case h_2 => exact ns9 hq
  rename_i b ab₂ e2
  cases hq
  obtain ⟨ρ, G⟩ := ab
  unfold gv9 at e1
  split at e1 <;> cases e1
  rename_i e0
  obtain ⟨v, hm, hv⟩ := I.f.slots i x _ hx.at_ e0
  refine wpAny_AugAssign_Name (load_slot I hx.kind hm ?_ hx.nc)
  refine hf R I e2 fun w h₁ t₁ κ₁ l₁ w₁ I₁ => ?_
  cases hv; cases w₁
  refine PySem.AutoIntOps.iadd_0 ?_
  exact store_slot (s := { s with heap := h₁, toks := t₁ + 1 }) I₁ hst.1 hst.2 (sl := .val (.int (a + b))) ⟨_, rfl, .int _ _⟩ fun m' h₂ t₂ I₂ _ => k .next m' h₂ t₂ κ₁ l₁ trivial I₂
noncomputable def sUnp (f : Ab → Option (MV × Ab)) (T : MV → List Slot → Option (List Slot)) (ab : Ab) : Option (Fl × Ab) := match f ab with
  | none => none
  | some (v, ab) => match T v ab.1 with
    | none => none
    | some ρ => some (.nxt, ρ, ab.2)
theorem ss_unp {elts : List Expr} {k₁ : Nat} {tp pos : Pos} {value : Expr} {f : Ab → Option (MV × Ab)} {T : MV → List Slot → Option (List Slot)} (hf : SE C Γ d value f) (hT : TG C Γ (.Tuple elts k₁ tp) T)
    (hs : ∀ env, swapsWithSole [.Tuple elts k₁ tp] value pos.line env = pure false)
    (hw : ∀ env, env.scope = Γ.scope → swappedStores [.Tuple elts k₁ tp] value env = pure none) : SS C Γ d (.Assign [.Tuple elts k₁ tp] value pos) (sUnp f T) := by
  intro A env κ m ab ab' s r Q E R I hq k
  unfold sUnp at hq
  split at hq
  · exact ns9 hq
  rename_i v ab₁ e1
  split at hq
  · exact ns9 hq
  rename_i ρ e2
  cases hq
  refine Assign_Tuple (hf R I e1 fun w h₁ t₁ κ₁ l₁ w₁ I₁ => ?_) (hs env) (hw env I.f.scope)
  exact hT.2 (s := { s with heap := h₁, toks := t₁ }) R.hh I₁ w₁ e2 fun m' h₂ t₂ _ I₂ => k .next m' h₂ t₂ κ₁ l₁ trivial I₂
inductive Locs (Γ : Frm) : List Str → List Nat → Prop
  | nil : Locs Γ [] []
  | cons {x : Str} {i : Nat} {xs : List Str} {is : List Nat} : Γ.xs[i]? = some x → Γ.scope.names.lookup x = some .local → Locs Γ xs is → Locs Γ (x :: xs) (i :: is)
theorem locs_store {κ : Gh} {env : Env} {G : Gst} {A : Around} {E : Value → Shared → Prop} {xs : List Str} {is : List Nat} {vs : List Value} {ms : List MV} {m : Str → Option Value} {ρ : List Slot} {s : Shared} {Q : Unit → Shared → Prop} (T : Locs Γ xs is) (hv : VRs C κ vs ms) (hl : ms.length = is.length) (I : Inv C Γ κ env m (ρ, G) s.heap)
    (h : ∀ m' h' t', Inv C Γ κ env m' (setAll is ms ρ, G) h' → Q () { s with heap := h', toks := t' }) : wpAny (model C.prog C.w) A (assignInOrder (xs.map fun n => bindName env n) vs) Q E s := by
  induction T generalizing vs ms m ρ s Q with
  | nil =>
    obtain rfl := List.length_eq_zero_iff.mp hl
    rw [hv.nil_inv]; exact assignInOrder_nil (h m s.heap s.toks I)
  | cons hi hk T ih =>
    cases ms with
    | nil => cases hl
    | cons x ms =>
      obtain ⟨v, ws, rfl, a, r⟩ := hv.cons_inv
      refine assignInOrder_cons (bindName_ (store_slot I hi (.inl hk) (sl := .val x) ⟨_, rfl, a⟩ fun m' h' t' I' _ => ?_))
      exact ih (s := { s with heap := h', toks := t' }) r (Nat.succ.inj hl) I' h
theorem VRs.reverse {C : Ctx} {κ : Gh} {vs : List Value} {ms : List MV} (h : VRs C κ vs ms) : VRs C κ vs.reverse ms.reverse :=
  h.ind (P := fun a b => VRs C κ a.reverse b.reverse) .nil fun a _ ih => by rw [List.reverse_cons, List.reverse_cons]; exact ih.append (.cons a .nil)
noncomputable def tRev (is : List Nat) (m : MV) (ρ : List Slot) : Option (List Slot) := match m with
  | .tup l => if l.length = is.length then some (setAll is l.reverse ρ) else none
  | _ => none
theorem ss_unpR {elts : List Expr} {k₁ : Nat} {tp pos : Pos} {value : Expr} {xs : List Str} {is : List Nat} {f : Ab → Option (MV × Ab)} (hf : SE C Γ d value f) (hL : Locs Γ xs.reverse is) (hl : xs.length = is.length)
    (hs : ∀ env, swapsWithSole [.Tuple elts k₁ tp] value pos.line env = pure false)
    (hw : ∀ env, env.scope = Γ.scope → swappedStores [.Tuple elts k₁ tp] value env = pure (some xs)) : SS C Γ d (.Assign [.Tuple elts k₁ tp] value pos) (sUnp f (tRev is)) := by
  intro A env κ m ab ab' s r Q E R I hq k
  unfold sUnp at hq
  split at hq
  · exact ns9 hq
  rename_i v ab₁ e1
  split at hq
  · exact ns9 hq
  rename_i ρ e2
  cases hq
  unfold tRev at e2
  split at e2
  case h_2 => exact ns9 e2
  rename_i l
  split at e2
  case isFalse => exact ns9 e2
  rename_i hlen
  cases e2
  refine Assign_Tuple_swapped (names := xs) (hf R I e1 fun w h₁ t₁ κ₁ l₁ w₁ I₁ => ?_) (hs env) (hw env I.f.scope)
  obtain ⟨a, n, vs, rfl, ka, va⟩ := w₁.tup_inv
  have e : xs.length = vs.toArray.size := by rw [List.size_toArray, va.length, hlen, hl]
  rw [e]
  refine unpackItems_tuple (s := { s with heap := h₁, toks := t₁ }) R.hh ⟨_, I₁.g.frz _ _ ka, rfl, n, rfl⟩ fun h₂ he => ?_
  exact locs_store (s := { s with heap := h₂, toks := t₁ }) hL va.reverse (by simpa using hlen) (I₁.ext (ext_new he)) fun m' h₃ t₃ I₃ => k .next m' h₃ t₃ κ₁ l₁ trivial I₃
noncomputable def sExpr (f : Ab → Option (MV × Ab)) (ab : Ab) : Option (Fl × Ab) := match f ab with
  | none => none
  | some (_, ab) => some (.nxt, ab)
theorem ss_expr {e : Expr} {pos : Pos} {f : Ab → Option (MV × Ab)} (hf : SE C Γ d e f) (hsw : ∀ env, swapsWith e none pos.line env = pure false) : SS C Γ d (.Expr e pos) (sExpr f) := by
  intro A env κ m ab ab' s r Q E R I hq k
  unfold sExpr at hq
  split at hq
  · exact ns9 hq
  rename_i v ab₁ e1
  cases hq
  refine wpAny_Expr_any (hf R I e1 fun w h₁ t₁ κ₁ l₁ w₁ I₁ => k .next m h₁ t₁ κ₁ l₁ trivial I₁) ?_ (hsw env)
  unfold interactive
  rw [I.f.scope, I.f.fn]; rfl
end
end Mine
end

section
namespace Mine
open PySem PySem.Calls PyProof.Rows PySem.W
section
variable {C : Ctx} {Γ : Frm} {κ : Gh} {env : Env} {m : Str → Option Value} {ab : Ab} {G : Gst} {h h' : Heap} {a : Addr}
theorem InvG.mark (I : InvG C κ G h) (hk : κ a = .no) (ho : ∃ o, h.get? a = some o) {k : Knd} (h1 : ∀ o, k = .frz o → h.get? a = some o) (h2 : ∀ o, k = .frn o → h.get? a = some o) (h3 : ∀ i, k ≠ .glo i) : InvG C (put κ a k) G h ∧ Le κ (put κ a k) := by
  have l : Le κ (put κ a k) := Le.put _ hk
  refine ⟨⟨fun b o e => l.frn b o (I.base b o e), fun b o e => ?_, fun b o e => ?_, fun b i e => ?_, fun b e => ?_, fun b b' i e e' => ?_, fun q hq => l.glo _ _ (I.gi.2 q hq)⟩, l⟩
  · by_cases q : b = a
    · subst q; rw [put_self] at e; exact h1 o e
    · rw [put_ne _ _ q] at e; exact I.frz b o e
  · by_cases q : b = a
    · subst q; rw [put_self] at e; exact h2 o e
    · rw [put_ne _ _ q] at e; exact I.frn b o e
  · by_cases q : b = a
    · subst q; rw [put_self] at e; exact absurd e (h3 i)
    · rw [put_ne _ _ q] at e
      obtain ⟨o₁, gv, a1, a2, a3⟩ := I.glo b i e
      exact ⟨o₁, gv, a1, a2, a3.mono l.v⟩
  · by_cases q : b = a
    · subst q; exact ho
    · rw [put_ne _ _ q] at e; exact I.al b e
  · have na : b ≠ a := by rintro rfl; rw [put_self] at e; exact h3 i e
    have nb : b' ≠ a := by rintro rfl; rw [put_self] at e'; exact h3 i e'
    rw [put_ne _ _ na] at e; rw [put_ne _ _ nb] at e'
    exact I.gi.1 b b' i e e'
theorem Inv.mark (I : Inv C Γ κ env m ab h) (hk : κ a = .no) (ho : ∃ o, h.get? a = some o) {k : Knd} (h1 : ∀ o, k = .frz o → h.get? a = some o) (h2 : ∀ o, k = .frn o → h.get? a = some o) (h3 : ∀ i, k ≠ .glo i) : Inv C Γ (put κ a k) env m ab h ∧ Le κ (put κ a k) := by
  obtain ⟨J, l⟩ := I.g.mark hk ho h1 h2 h3
  refine ⟨I.keep J l fun b e => ⟨?_, rfl⟩, l⟩
  have : b ≠ a := by rintro rfl; rw [hk] at e; cases e
  exact put_ne _ _ this
theorem Inv.forget {o : Obj} (I : Inv C Γ κ env m ab h) (hk : κ a = .frn o) (hb : C.h₀.get? a = none) (hc : ∀ v, o.data ≠ .cell v) : Inv C Γ (put κ a .no) env m ab h ∧ LeB a κ (put κ a .no) := by
  have lb : LeB a κ (put κ a .no) := LeB.put _ hk
  have ne : ∀ {b : Addr} {k : Knd}, put κ a .no b = k → k ≠ .no → b ≠ a ∧ κ b = k := fun {b k} e n => by
    by_cases q : b = a
    · subst q; rw [put_self] at e; exact absurd e.symm n
    · rw [put_ne _ _ q] at e; exact ⟨q, e⟩
  refine ⟨⟨⟨fun b p e => ?_, fun b p e => ?_, fun b p e => ?_, fun b p e => ?_, fun b e => ?_, ⟨fun b b' i e e' => I.g.gi.1 b b' i (ne e (by simp)).2 (ne e' (by simp)).2, fun q hq => lb.glo _ _ (I.g.gi.2 q hq)⟩⟩, I.f.remark I.g hk hc (Heap.ExtBut.refl _ _)⟩, lb⟩
  · have : b ≠ a := by rintro rfl; rw [hb] at e; cases e
    rw [put_ne _ _ this]; exact I.g.base b p e
  · obtain ⟨_, e⟩ := ne e (by simp); exact I.g.frz b p e
  · obtain ⟨_, e⟩ := ne e (by simp); exact I.g.frn b p e
  · obtain ⟨q, e⟩ := ne e (by simp)
    obtain ⟨o₂, gv, a1, a2, a3⟩ := I.g.glo b p e
    exact ⟨o₂, gv, a1, a2, a3.mono lb.v⟩
  · obtain ⟨q, e'⟩ := ne rfl e
    exact I.g.al b (e' ▸ e)
theorem Inv.off (I : Inv C Γ κ env m ab h) (hk : κ a = .no) (hs : Heap.SameBut a h h') : Inv C Γ κ env m ab h' := by
  have ne : ∀ {b : Addr}, κ b ≠ .no → b ≠ a := fun {b} e => by rintro rfl; exact e hk
  refine I.keep ⟨I.g.base, fun b o e => (hs.2 b (ne (by rw [e]; simp))).trans (I.g.frz b o e), fun b o e => (hs.2 b (ne (by rw [e]; simp))).trans (I.g.frn b o e), fun b i e => ?_, fun b e => ?_, I.g.gi⟩ (Le.refl κ) fun b e => ⟨rfl, hs.2 b (ne (by intro z; rw [z] at e; cases e))⟩
  · obtain ⟨o₂, gv, a1, r⟩ := I.g.glo b i e
    exact ⟨o₂, gv, (hs.2 b (ne (by rw [e]; simp))).trans a1, r⟩
  · rw [hs.2 b (ne e)]; exact I.g.al b e
end
noncomputable def relab (scope outer : Scope) : Scope :=
  { scope with names := scope.names.map fun (n, k) => if (k == .free && outer.kind == .function && outer.names.lookup n == some .cell) then (n, .cell) else (n, k) }
theorem relab_eq {scope : Scope} {env : Env} : relabel scope env = relab scope env.scope := rfl
noncomputable def accName : Str := ""
structure CompOk (Γ : Frm) (scope : Scope) (tg caps : List Str) (cis : List Nat) : Prop where
  kind : scope.kind = .function
  nocell : scope.names.all (fun p => p.2 != .cell) = true
  locs : scope.names.all (fun p => p.2 != .local || scope.names.lookup p.1 == some .local) = true
  frees : scope.names.all (fun p => p.2 != .free || Γ.scope.names.lookup p.1 == some .cell || Γ.scope.names.lookup p.1 == some .free) = true
  capF : caps.all (fun x => scope.names.lookup x == some .free) = true
  cis : cis.map (fun i => Γ.xs[i]?) = caps.map some
  nd : (accName :: (tg ++ caps)).Nodup
  acc : scope.names.lookup accName = none
  okind : Γ.scope.kind = .function
noncomputable def compFrm (Γ : Frm) (scope : Scope) (tg caps : List Str) : Frm := ⟨relab scope Γ.scope, accName :: (tg ++ caps), false, .none⟩
noncomputable def capSlot (ρ : List Slot) (i : Nat) : Slot := match ρ[i]? with
  | some (.val m) => .val m
  | _ => .un
noncomputable def compStart (n : Nat) (cis : List Nat) (ys : List MV) (ρ : List Slot) : List Slot := .ownL ys :: (List.replicate n .un ++ cis.map (capSlot ρ))
noncomputable def compL (T : MV → List Slot → Option (List Slot)) (g : Ab → Option (MV × Ab)) : List MV → Ab → Option (Ab)
  | [], ab => some ab
  | x :: r, ab => match T x ab.1 with
    | none => none
    | some ρ => match g (ρ, ab.2) with
      | none => none
      | some (y, ab) => match ownAt 0 ab with
        | none => none
        | some ys => if ys.length ≤ room then compL T g r (ab.1.set 0 (.ownL (ys ++ [y])), ab.2) else none
noncomputable def fComp (n : Nat) (cis : List Nat) (f : Ab → Option (List MV × Ab)) (T : MV → List Slot → Option (List Slot)) (g : Ab → Option (MV × Ab)) (ab : Ab) : Option (MV × Ab) := match f ab with
  | none => none
  | some (l, ab) => match compL T g l (compStart n cis [] ab.1, ab.2) with
    | none => none
    | some ab' => match ownAt 0 ab' with
      | some ys => some (.lst ys, ab.1, ab'.2)
      | none => none
theorem relab_lookup {scope outer : Scope} {x : Str} : ∀ {names : List (Str × NameKind)}, (names.map fun (n, k) => if (k == NameKind.free && outer.kind == .function && outer.names.lookup n == some .cell) then (n, NameKind.cell) else (n, k)).lookup x =
    (names.lookup x).map fun k => if (k == NameKind.free && outer.kind == .function && outer.names.lookup x == some .cell) then .cell else k
  | [] => rfl
  | (n, k) :: r => by
    have ih := @relab_lookup scope outer x r
    show List.lookup x ((if (k == NameKind.free && outer.kind == .function && outer.names.lookup n == some .cell) = true then (n, NameKind.cell) else (n, k)) :: _) = _
    cases hx : x == n with
    | true =>
      have hx' : x = n := by simpa using hx
      subst hx'
      by_cases hc : (k == NameKind.free && outer.kind == .function && outer.names.lookup x == some .cell) = true
      · rw [if_pos hc]; simp only [List.lookup_cons, hx, Option.map_some]; rw [if_pos hc]
      · rw [if_neg hc]; simp only [List.lookup_cons, hx, Option.map_some]; rw [if_neg hc]
    | false =>
      by_cases hc : (k == NameKind.free && outer.kind == .function && outer.names.lookup n == some .cell) = true
      · rw [if_pos hc]; simp only [List.lookup_cons, hx]; exact ih
      · rw [if_neg hc]; simp only [List.lookup_cons, hx]; exact ih
theorem closure_ok {env : Env} : ∀ (names : List (Str × NameKind)) (acc : List (Str × Addr)), (∀ p ∈ names, p.2 = .free → ∃ c, env.cells.lookup p.1 = some c) → (∀ x c, acc.lookup x = some c → env.cells.lookup x = some c) →
    ∃ cl : List (Str × Addr), (forIn names acc fun (p : Str × NameKind) (cs : List (Str × Addr)) => (do
      if p.2 == .free then
        let c ← cellOf env p.1
        pure (ForInStep.yield ((p.1, c) :: cs))
      else pure (ForInStep.yield cs) : Sem (ForInStep (List (Str × Addr))))) = pure cl ∧ (∀ x c, cl.lookup x = some c → env.cells.lookup x = some c) ∧ (∀ x, ((x, NameKind.free) ∈ names ∨ (∃ c, acc.lookup x = some c)) → ∃ c, cl.lookup x = some c)
  | [], acc, _, h2 => ⟨acc, rfl, h2, fun x h => by
    rcases h with h | h
    · cases h
    · exact h⟩
  | (n, k) :: r, acc, h1, h2 => by
    by_cases hk : k = .free
    · subst hk
      obtain ⟨c, hc⟩ := h1 (n, .free) (.head _) rfl
      obtain ⟨cl, e, p, q⟩ := closure_ok (env := env) r ((n, c) :: acc) (fun p hp => h1 p (.tail _ hp)) (fun x c' hx => by
        rw [List.lookup_cons] at hx
        by_cases hxn : x = n
        · subst hxn; simp at hx; subst hx; exact hc
        · have : (x == n) = false := by simpa using hxn
          rw [this] at hx; exact h2 x c' hx)
      refine ⟨cl, ?_, p, fun x hx => q x ?_⟩
      · rw [List.forIn_cons]
        have e1 : cellOf env n = pure c := by unfold cellOf; rw [hc]
        simp only [beq_self_eq_true, if_true, e1, pure_bind]
        exact e
      · rcases hx with hx | ⟨c', hx⟩
        · rcases List.mem_cons.mp hx with hx | hx
          · cases hx; right; exact ⟨c, by simp⟩
          · exact .inl hx
        · right
          by_cases hxn : x = n
          · subst hxn; exact ⟨c, by simp⟩
          · have : (x == n) = false := by simpa using hxn
            exact ⟨c', by rw [List.lookup_cons, this]; exact hx⟩
    · have hkb : (k == NameKind.free) = false := by simpa using hk
      obtain ⟨cl, e, p, q⟩ := closure_ok (env := env) r acc (fun p hp => h1 p (.tail _ hp)) h2
      refine ⟨cl, ?_, p, fun x hx => q x ?_⟩
      · rw [List.forIn_cons]
        simp only [hkb, Bool.false_eq_true, if_false, pure_bind]
        exact e
      · rcases hx with hx | hx
        · rcases List.mem_cons.mp hx with hx | hx
          · cases hx; exact absurd rfl hk
          · exact .inl hx
        · exact .inr hx
theorem closureFor_ok {env : Env} {scope : Scope} (h : ∀ p ∈ scope.names, p.2 = .free → ∃ c, env.cells.lookup p.1 = some c) :
    ∃ cl : List (Str × Addr), closureFor scope env = pure cl ∧ (∀ x c, cl.lookup x = some c → env.cells.lookup x = some c) ∧ (∀ x, (x, NameKind.free) ∈ scope.names → ∃ c, cl.lookup x = some c) := by
  obtain ⟨cl, e, p, q⟩ := closure_ok (env := env) scope.names [] h (fun x c hx => by cases hx)
  refine ⟨cl, ?_, p, fun x hx => q x (.inl hx)⟩
  unfold closureFor
  show (forIn scope.names [] _ >>= fun cs => pure cs) = _
  rw [show (forIn scope.names ([] : List (Str × Addr)) _ : Sem (List (Str × Addr))) = pure cl from e]
  rfl
end Mine
end

section
namespace Mine
open PySem PySem.Calls PyProof.Rows PySem.W
theorem mem_lookup {α : Type} {x : Str} {k : α} : ∀ {l : List (Str × α)}, l.lookup x = some k → (x, k) ∈ l := fun h => mem_of_lookup h
section
variable {C : Ctx} {Γ : Frm} {d : Nat}
theorem comp_frame {scope : Scope} {tg caps : List Str} {cis : List Nat} (K : CompOk Γ scope tg caps cis) {κ₁ κ : Gh} {env : Env} {m : Str → Option Value} {ρ : List Slot} {h h₁ : Heap} {G : Gst} {Cc D : Addr} {cl : List (Str × Addr)}
    (J : Inv C Γ κ₁ env m (ρ, G) h) (l : Le κ₁ κ) (hC : κ Cc = .loc) (hD : κ D = .slot accName) (ho : h₁.get? D = some (lstOf [] 0)) (hn : h₁.Ns Cc (fun x => ([] : List (Str × Value)).reverse.lookup x))
    (hold : ∀ b o, h.get? b = some o → h₁.get? b = some o) (hfr : ∀ b, (κ₁ b).own = true → ∃ o, κ b = .frn o)
    (c1 : ∀ x c, cl.lookup x = some c → env.cells.lookup x = some c) (c2 : ∀ x, (x, NameKind.free) ∈ scope.names → ∃ c, cl.lookup x = some c) :
    ∃ mC : Str → Option Value, mC accName = some (.ref D) ∧ InvF C (compFrm Γ scope tg caps) κ (compEnvC scope cl Cc env) mC (compStart tg.length cis [] ρ) h₁ := by
  have F := J.f
  have es : (compEnvC scope cl Cc env).scope = relab scope Γ.scope := by
    show relabel scope env = _
    rw [relab_eq, F.scope]
  have ek : ∀ x, (compEnvC scope cl Cc env).kindOf x = (scope.names.lookup x).map fun k => if (k == NameKind.free && Γ.scope.kind == .function && Γ.scope.names.lookup x == some .cell) then .cell else k := fun x => by
    unfold Env.kindOf
    rw [es]
    exact relab_lookup (scope := scope)
  have kOf : ∀ x, env.kindOf x = Γ.scope.names.lookup x := fun x => by unfold Env.kindOf; rw [F.scope]
  have kacc : (compEnvC scope cl Cc env).kindOf accName = none := by rw [ek, K.acc]; rfl
  have nocell := List.all_eq_true.mp K.nocell
  have frees := List.all_eq_true.mp K.frees
  have capF := List.all_eq_true.mp K.capF
  have kfree : ∀ x, ((compEnvC scope cl Cc env).kindOf x = some .cell ∨ (compEnvC scope cl Cc env).kindOf x = some .free) → scope.names.lookup x = some .free := fun x hx => by
    rw [ek] at hx
    cases e : scope.names.lookup x with
    | none => rw [e] at hx; rcases hx with hx | hx <;> cases hx
    | some k =>
      rw [e] at hx
      have hc := nocell _ (mem_lookup e)
      simp only [bne_iff_ne, ne_eq] at hc
      rw [Option.map_some] at hx
      by_cases hk : k = .free
      · rw [hk]
      · have : (k == NameKind.free) = false := by simpa using hk
        rw [this] at hx
        simp only [Bool.false_and, Bool.false_eq_true, if_false] at hx
        rcases hx with hx | hx
        · cases hx; exact absurd rfl hc
        · cases hx; exact absurd rfl hk
  let mC : Str → Option Value := fun x => if x = accName then some (.ref D) else if (compEnvC scope cl Cc env).kindOf x = some .local then none else m x
  have macc : ∀ x, (compEnvC scope cl Cc env).kindOf x ≠ none → x ≠ accName := fun x hx => by rintro rfl; exact hx kacc
  refine ⟨mC, if_pos rfl, ⟨es, K.kind, ⟨F.gl.1, .inl rfl⟩, F.bi, K.nd, hC, ⟨_, hn, fun x hx => ?_⟩, fun x hx => ?_, fun z => (by cases z), ?_, fun i x sl e e' => ?_⟩⟩
  · show ([] : List (Str × Value)).reverse.lookup x = _
    simp only [mC]
    rw [if_neg (macc x (by rw [hx]; simp)), if_pos hx]; rfl
  · have hfree := kfree x hx
    obtain ⟨c, hc⟩ := c2 x (mem_lookup hfree)
    have hec := c1 x c hc
    have hko : env.kindOf x = some .cell ∨ env.kindOf x = some .free := by
      have := frees _ (mem_lookup hfree)
      rw [kOf]
      simpa using this
    obtain ⟨c', p, q, dd⟩ := F.cel x hko
    rw [hec] at p; cases p
    refine ⟨c, hc, ?_, .inr ?_⟩
    · have e : mC x = m x := by
        simp only [mC]
        rw [if_neg (macc x (by rcases hx with z | z <;> rw [z] <;> simp)), if_neg (by rcases hx with z | z <;> rw [z] <;> simp)]
      rw [e]
      obtain ⟨oc, ho, hd⟩ := q
      exact ⟨oc, hold _ _ ho, hd⟩
    · rcases dd with dd | ⟨o, dd | dd⟩
      · obtain ⟨o, z⟩ := hfr c (by rw [dd]; rfl)
        exact ⟨o, .inl z⟩
      · exact ⟨o, .inl (l.frn _ _ dd)⟩
      · exact ⟨o, .inr (l.frz _ _ dd)⟩
  · have h2 : cis.length = caps.length := by have := congrArg List.length K.cis; simpa using this
    show (compStart tg.length cis [] ρ).length = (accName :: (tg ++ caps)).length
    unfold compStart
    simp [h2]
  · cases i with
    | zero =>
      have e1 : x = accName := by
        have : (accName :: (tg ++ caps))[0]? = some x := e
        simpa using this.symm
      have e2 : sl = .ownL [] := by
        have : (compStart tg.length cis [] ρ)[0]? = some sl := e'
        unfold compStart at this
        simpa using this.symm
      subst e1 e2
      exact ⟨D, [], 0, by simp only [mC, if_true], hD, ho, .nil⟩
    | succ i =>
      have e1 : (tg ++ caps)[i]? = some x := by
        have : (accName :: (tg ++ caps))[i + 1]? = some x := e
        simpa using this
      have e2 : (List.replicate tg.length Slot.un ++ cis.map (capSlot ρ))[i]? = some sl := by
        have : (compStart tg.length cis [] ρ)[i + 1]? = some sl := e'
        unfold compStart at this
        simpa using this
      by_cases hi : i < tg.length
      · rw [List.getElem?_append_left (by simpa using hi)] at e2
        rw [List.getElem?_replicate] at e2
        rw [if_pos hi] at e2
        cases e2; exact True.intro
      · rw [List.getElem?_append_right (by simpa using hi)] at e2
        rw [List.getElem?_append_right (by lia)] at e1
        rw [List.length_replicate] at e2
        rw [List.getElem?_map] at e2
        cases e3 : cis[i - tg.length]? with
        | none => rw [e3] at e2; exact ns9 e2
        | some j =>
          rw [e3] at e2
          cases e2
          have hx : Γ.xs[j]? = some x := by
            have := congrArg (fun l => l[i - tg.length]?) K.cis
            simp only [List.getElem?_map, e3, e1, Option.map_some] at this
            exact Option.some.inj this
          have hxf : scope.names.lookup x = some .free := by
            have := capF x (List.mem_of_getElem? e1)
            simpa using this
          have hxa : x ≠ accName := by
            rintro rfl
            rw [K.acc] at hxf; cases hxf
          have hloc : (compEnvC scope cl Cc env).kindOf x ≠ some .local := by
            rw [ek, hxf, Option.map_some]
            split <;> simp
          unfold capSlot
          split
          · rename_i mv e4
            obtain ⟨v, a1, a2⟩ := F.slots j x _ hx e4
            refine ⟨v, ?_, a2.mono l.v⟩
            simp only [mC]
            rw [if_neg hxa, if_neg hloc]; exact a1
          · exact True.intro
end
end Mine
end

section
namespace Mine
open PySem PySem.Calls PyProof.Rows PySem.W
section
variable {C : Ctx} {Γ : Frm} {d : Nat}
theorem enter_at {κ : Gh} {h : Heap} {L b : Addr} (hb : b ≠ L) : enter κ h L [] b = if (κ b).own then (match h.get? b with | some o => .frn o | none => .no) else κ b := by
  unfold enter
  rw [if_neg hb]
  rfl
theorem comp_run {scope : Scope} {tg caps : List Str} {cis : List Nat} (K : CompOk Γ scope tg caps cis) {κ₀ κ₁ : Gh} {env : Env} {m : Str → Option Value} {ab ab' : Ab} {A : Around} {s : Shared} {I : Addr} {l ys : List MV} {St : Nat → Heap → Prop} {fp : List Addr} {o : Obj} {cl : List (Str × Addr)}
    {elt target iter : Expr} {pos : Pos} {T : MV → List Slot → Option (List Slot)} {g : Ab → Option (MV × Ab)} {RR : Value → Addr → Result → Shared → Prop} {E : Value → Shared → Prop}
    (R : Room A d) (kI : κ₀ I = .no) (l₁ : Le κ₀ κ₁) (ki : κ₁ I = .frn o) (it : Iter C A κ₁ I l St fp) (st : St 0 s.heap) (J : Inv C Γ κ₁ env m ab s.heap)
    (c1 : ∀ x c, cl.lookup x = some c → env.cells.lookup x = some c) (c2 : ∀ x, (x, NameKind.free) ∈ scope.names → ∃ c, cl.lookup x = some c)
    (hT : TG C (compFrm Γ scope tg caps) target T) (he : SE C (compFrm Γ scope tg caps) d elt g) (hq : compL T g l (compStart tg.length cis [] ab.1, ab.2) = some ab') (hys : ownAt 0 ab' = some ys)
    (hRR : ∀ D Cc h' t' lam oC mC, Le κ₀ lam → VR C lam (.ref D) (.lst ys) → Inv C Γ lam env m (ab.1, ab'.2) h' → lam Cc = .no → h'.get? Cc = some oC → (∀ v, oC.data ≠ .cell v) → h'.Ns Cc mC → RR (.ref D) Cc (.ok .next) { s with heap := h', toks := t' }) :
    wpAny (model C.prog C.w) A (newList []) (fun acc s₃ => wpAny (model C.prog C.w) A (newFunctionEnv scope env.globals cl [] env.qual none .none (some env)) (fun cenv s₄ =>
      codeAny (model C.prog C.w) A (.compStart (.ListComp elt [⟨target, iter, [], 0⟩] scope pos) 0 (.ref I) acc { cenv with scope := relabel scope env }) (RR acc cenv.locals) s₄) E s₃) E s := by
  have hcell : ∀ y ∈ scope.names, y.2 ≠ .cell := fun y hy => by
    have := List.all_eq_true.mp K.nocell y hy
    simpa using this
  obtain ⟨o₁, _, ho₁, _, _, hc₁⟩ := it.obj _ _ st
  have eo : o₁ = o := Option.some.inj (ho₁.symm.trans (J.g.frn _ _ ki))
  subst eo
  obtain ⟨Jm, lbm⟩ := J.forget ki it.base hc₁
  have lm : Le κ₀ (put κ₁ I .no) := lbm.le l₁ kI
  refine wpAny_newObj_type (wpAny_newFunctionEnv hcell (by intro y hy; simp at hy) (fun h₁ hns₁ hsb₁ => ?_) K.kind)
  dsimp only at hns₁ hsb₁ ⊢
  generalize hH2 : s.heap.push { cls := .type "list", dict := none, data := .seq ([] : List Value).toArray } = H2 at hns₁ hsb₁ ⊢
  have hC : H2.objs.size = s.heap.objs.size + 1 := by rw [← hH2, Heap.size_push]
  generalize hD : s.heap.objs.size = D at *
  generalize hCc : H2.objs.size = Cc at *
  have hDC : D ≠ Cc := by rw [hC]; exact Nat.ne_of_lt (Nat.lt_succ_self _)
  have below : ∀ b, b < D → b ≠ Cc ∧ b ≠ D := fun b hb => ⟨by rw [hC]; exact Nat.ne_of_lt (Nat.lt_succ_of_lt hb), Nat.ne_of_lt hb⟩
  have old : ∀ b o, s.heap.get? b = some o → h₁.get? b = some o := fun b o e => hsb₁.extBut b o (below b (hD ▸ Heap.lt_size e)).1 (Heap.get?_push_of_some _ (hH2 ▸ Heap.get?_push_of_some _ e))
  have hoD : h₁.get? D = some (lstOf [] 0) := hsb₁.extBut _ _ hDC (Heap.get?_push_of_some _ (by rw [← hH2, ← hD]; exact Heap.get?_push_size _ rfl))
  have alC : ∃ o, h₁.get? Cc = some o := let ⟨o, _, _, e, _⟩ := hns₁; ⟨o, e⟩
  have I2 : InvG C (enter κ₁ s.heap Cc []) ab.2 h₁ := enter_inv J.g (by rw [hD, hC]; exact Nat.le_succ _) (fun _ _ e => by cases e) old alC (fun _ _ e => by cases e)
  have l2 : Le κ₁ (enter κ₁ s.heap Cc []) := enter_le J.g (by rw [hD, hC]; exact Nat.le_succ _) (fun _ _ e => by cases e)
  have kD : κ₁ D = .no := hD ▸ J.g.free
  have kC : κ₁ Cc = .no := by
    cases q : κ₁ Cc with
    | no => rfl
    | _ => exact absurd (J.g.lt Cc (by rw [q]; simp)) (by rw [hD, hC]; exact Nat.not_lt.mpr (Nat.le_succ _))
  have kD2 : enter κ₁ s.heap Cc [] D = .no := by rw [enter_at hDC, kD]; rfl
  obtain ⟨I3, l3⟩ := I2.mark (k := .slot accName) kD2 ⟨_, hoD⟩ (fun _ e => by cases e) (fun _ e => by cases e) (fun _ e => by cases e)
  generalize hκ3 : put (enter κ₁ s.heap Cc []) D (.slot accName) = κ3 at *
  have k3C : κ3 Cc = .loc := by
    rw [← hκ3, put_ne _ _ (Ne.symm hDC)]
    unfold enter; rw [if_pos rfl]
  have k3D : κ3 D = .slot accName := by rw [← hκ3]; exact put_self ..
  have own3 : ∀ b, (κ₁ b).own = true → ∃ o, s.heap.get? b = some o ∧ κ3 b = .frn o := fun b hb => by
    obtain ⟨o, ho⟩ := J.g.al b (by intro z; rw [z] at hb; cases hb)
    obtain ⟨n1, n2⟩ := below b (hD ▸ Heap.lt_size ho)
    refine ⟨o, ho, ?_⟩
    rw [← hκ3, put_ne _ _ n2, enter_at n1, if_pos hb, ho]
  have l13 : Le κ₁ κ3 := l2.trans l3
  obtain ⟨mC, hacc, F3⟩ := comp_frame (ρ := ab.1) (G := ab.2) K J l13 k3C k3D hoD hns₁ old (fun b hb => let ⟨o, _, z⟩ := own3 b hb; ⟨o, z⟩) c1 c2
  have k3I : κ3 I = .frn o₁ := l13.frn _ _ ki
  have st₁ : St 0 h₁ := it.stay st ((Le.refl κ₁).but I) ki l13 J.g I3
  have loop : ∀ s₃ : Shared, s₃ = { s with heap := h₁, toks := s.toks + ([] : List (Str × Value)).length } →
      codeAny (model C.prog C.w) A (.compLoop (.ListComp elt [⟨target, iter, [], 0⟩] scope pos) 0 (.ref I) (.ref D) (compEnvC scope cl Cc env)) (RR (.ref D) Cc) s₃ := by
    rintro s₃ rfl
    refine kcp_loop (LpInv C (compFrm Γ scope tg caps) (compEnvC scope cl Cc env) κ3 I St l.length (fun i m' ab₂ => m' accName = some (.ref D) ∧ compL T g (l.drop i) ab₂ = some ab') s) ?_ l.length
      (LpInv.mk 0 κ3 o₁ mC (compStart tg.length cis [] ab.1, ab.2) h₁ _ ((Le.refl κ3).but I) k3I st₁ ⟨I3, F3⟩ ⟨hacc, hq⟩ (Nat.zero_le _))
    intro n s' hI
    cases hI with
    | mk i κ' o' m' ab₂ h' t' l₂ ki₂ st₂ J₂ hP hi₂ =>
    have ha₂ := hP.1
    have hq₂ := hP.2
    clear hP
    have l₂' : LeB I κ₁ κ' := (l13.but I).trans l₂
    by_cases hlt : i < l.length
    · have hx : l[i]? = some l[i] := List.getElem?_eq_getElem hlt
      rw [List.drop_eq_getElem_cons hlt] at hq₂
      unfold compL at hq₂
      cases e2 : T l[i] ab₂.1 with
      | none => rw [e2] at hq₂; exact ns9 hq₂
      | some ρ =>
        rw [e2] at hq₂
        dsimp only at hq₂
        refine it.next (s := { s with heap := h', toks := t' }) hx st₂ l₂' ki₂ J₂ fun v h₃ t₃ κ₃ o₃ l₃ ki₃ st₃ v₃ J₃ => ?_
        dsimp only
        refine it.go (s := { s with heap := h₃, toks := t₃ }) hT.1 st₃ ?_
        refine hT.2 (s := { s with heap := h₃, toks := t₃ }) R.hh J₃ v₃ e2 fun m₄ h₄ t₄ hm₄ J₄ => ?_
        have ha₄ : m₄ accName = some (.ref D) := by
          rw [hm₄ accName (by
            show (relab scope Γ.scope).names.lookup accName = none
            show List.lookup accName (scope.names.map _) = none
            rw [relab_lookup (scope := scope), K.acc]; rfl)]
          exact ha₂
        have st₄ : St (i + 1) h₄ := it.stay st₃ (l₂'.trans l₃) ki₃ (Le.refl κ₃) J₃.g J₄.g
        cases e3 : g (ρ, ab₂.2) with
        | none => rw [e3] at hq₂; exact ns9 hq₂
        | some q =>
          obtain ⟨y, ab₅⟩ := q
          rw [e3] at hq₂
          dsimp only at hq₂
          cases e4 : ownAt 0 ab₅ with
          | none => rw [e4] at hq₂; exact ns9 hq₂
          | some zs =>
            rw [e4] at hq₂
            dsimp only at hq₂
            split at hq₂
            case isFalse => exact ns9 hq₂
            rename_i hzs
            refine he (s := { s with heap := h₄, toks := t₄ }) R J₄ e3 fun w h₅ t₅ κ₅ l₅ w₅ J₅ => ?_
            have st₅ : St (i + 1) h₅ := it.stay st₄ (l₂'.trans l₃) ki₃ l₅ J₄.g J₅.g
            obtain ⟨a, vs, nn, hm₅, hk₅, ho₅, hv₅⟩ := J₅.f.slots 0 accName _ rfl (ownAt_eq e4)
            rw [ha₄] at hm₅; cases hm₅
            refine append_at (s := { s with heap := h₅, toks := t₅ }) (its := vs.toArray) (n := nn) ho₅ (fun h₆ hs₆ ho₆ => ?_) ?_
            · have e : vs.toArray.push w = (vs ++ [w]).toArray := by simp
              rw [e] at ho₆
              have J₆ := Inv.ownSet (ρ := ab₅.1) (G := ab₅.2) (i := 0) (sl := .ownL (zs ++ [y])) J₅ rfl hk₅ hs₆ ⟨_, ho₆⟩ ⟨D, _, _, ha₄, hk₅, ho₆, hv₅.snoc w₅⟩
              exact ⟨l.length - (i + 1), Nat.sub_lt_sub_left hlt (Nat.lt_succ_self i), .mk (i + 1) κ₅ o₃ m₄ _ h₆ t₅ ((l₂.trans l₃).trans (l₅.but I)) (l₅.frn _ _ ki₃) (it.stay st₅ ((l₂'.trans l₃).trans (l₅.but I)) (l₅.frn _ _ ki₃) (Le.refl κ₅) J₅.g J₆.g) J₆ ⟨ha₄, hq₂⟩ hlt⟩
            · rw [List.size_toArray, hv₅.length]; exact Nat.le_trans hzs room_line
    · have hi₃ : i = l.length := Nat.le_antisymm hi₂ (Nat.le_of_not_lt hlt)
      subst hi₃
      rw [List.drop_length] at hq₂
      cases hq₂
      refine it.stop (s := { s with heap := h', toks := t' }) st₂ l₂' ki₂ J₂ fun h₆ t₆ κ₆ l₆ J₆ => ?_
      dsimp only
      obtain ⟨a, vs, nn, hm₆, hk₆, ho₆, hv₆⟩ := J₆.f.slots 0 accName _ rfl (ownAt_eq hys)
      rw [ha₂] at hm₆; cases hm₆
      have hvD : VR C (put κ₆ D (.frz (lstOf vs nn))) (.ref D) (.lst ys) := .lst (put_self ..) (hv₆.mono ⟨fun b o e => by
        have : b ≠ D := by rintro rfl; rw [hk₆] at e; cases e
        rw [put_ne _ _ this]; exact e, fun b o e => by
        have : b ≠ D := by rintro rfl; rw [hk₆] at e; cases e
        rw [put_ne _ _ this]; exact e⟩)
      obtain ⟨l₇, J₇⟩ := freeze (ρ := ab'.1) (G := ab'.2) (i := 0) (x := accName) (s := .val (.lst ys)) J₆ rfl hk₆ ho₆ ha₂ ⟨_, ha₂, hvD⟩
      generalize hκ7 : put κ₆ D (.frz (lstOf vs nn)) = κ₇ at *
      have lb37 : LeB I κ3 κ₇ := (l₂.trans l₆).trans (l₇.but I)
      have neI : ∀ {b : Addr}, put κ₁ I .no b ≠ .no → b ≠ I ∧ put κ₁ I .no b = κ₁ b := fun {b} e => by
        have : b ≠ I := by rintro rfl; exact e (put_self ..)
        exact ⟨this, put_ne _ _ this⟩
      have lm7 : Le (put κ₁ I .no) κ₇ := by
        refine ⟨fun b o e => ?_, fun b o e => ?_, fun b o e => ?_⟩
        · obtain ⟨_, q⟩ := neI (b := b) (by rw [e]; simp)
          exact lb37.frz _ _ (l13.frz _ _ (q ▸ e))
        · obtain ⟨n, q⟩ := neI (b := b) (by rw [e]; simp)
          exact lb37.frn _ _ n (l13.frn _ _ (q ▸ e))
        · obtain ⟨_, q⟩ := neI (b := b) (by rw [e]; simp)
          exact lb37.glo _ _ (l13.glo _ _ (q ▸ e))
      obtain ⟨g1, g2, g3, g4⟩ := leave_core Jm.g lm7 (fun b hb => by
        obtain ⟨n, q⟩ := neI (b := b) (by intro z; rw [z] at hb; cases hb)
        rw [q] at hb
        obtain ⟨o, ho, z⟩ := own3 b hb
        exact ⟨o, ho, lb37.frn _ _ n z⟩) J₇.g
      obtain ⟨mN, hN, _⟩ := J₇.f.ns
      obtain ⟨oC, es, ep, hoC, hcls, hdat⟩ := id hN
      have kC7 : κ₇ Cc = .loc := J₇.f.kloc
      have kmC : put κ₁ I .no Cc = .no := by
        by_cases q : Cc = I
        · rw [q]; exact put_self ..
        · rw [put_ne _ _ q]; exact kC
      refine hRR D Cc h₆ t₆ (leave (put κ₁ I .no) κ₇) oC mN (lm.trans g1) (hvD.mono g3) (Jm.keep (ρ := ab.1) (G := ab.2) g4 g1 g2) ?_ hoC ?_ hN
      · unfold leave
        rw [kmC, kC7]; rfl
      · intro v z
        rw [hcls] at z
        cases z
  obtain ⟨P, W, _⟩ := it.walks
  exact codeAny_compStart_list (loop _ rfl) (W.self 0 _ _ _ st₁ (loop _ rfl))
end
end Mine
end

section
namespace Mine
open PySem PySem.Calls PyProof.Rows PySem.W
section
variable {C : Ctx} {Γ : Frm} {d : Nat}
theorem comp_hn {scope : Scope} {tg caps : List Str} {cis : List Nat} (K : CompOk Γ scope tg caps cis) : ∀ x ∈ scope.names, x.2 = .local → scope.names.lookup x.1 = some .local := fun x hx e => by
  have := List.all_eq_true.mp K.locs x hx
  rw [e] at this
  simpa using this
theorem comp_cl {scope : Scope} {tg caps : List Str} {cis : List Nat} (K : CompOk Γ scope tg caps cis) {κ : Gh} {env : Env} {m : Str → Option Value} {ρ : List Slot} {h : Heap} (F : InvF C Γ κ env m ρ h) :
    ∃ cl : List (Str × Addr), closureFor scope env = pure cl ∧ (∀ x c, cl.lookup x = some c → env.cells.lookup x = some c) ∧ (∀ x, (x, NameKind.free) ∈ scope.names → ∃ c, cl.lookup x = some c) := by
  refine closureFor_ok fun p hp e => ?_
  have := List.all_eq_true.mp K.frees p hp
  rw [e] at this
  have hk : env.kindOf p.1 = some .cell ∨ env.kindOf p.1 = some .free := by
    unfold Env.kindOf; rw [F.scope]; simpa using this
  obtain ⟨c, hc, _⟩ := F.cel p.1 hk
  exact ⟨c, hc⟩
theorem se_comp {scope : Scope} {tg caps : List Str} {cis : List Nat} (K : CompOk Γ scope tg caps cis) {elt target iter : Expr} {pos : Pos} {f : Ab → Option (List MV × Ab)} {T : MV → List Slot → Option (List Slot)} {g : Ab → Option (MV × Ab)}
    (hi : SI C Γ d iter f) (hT : TG C (compFrm Γ scope tg caps) target T) (he : SE C (compFrm Γ scope tg caps) d elt g) (hs : ∀ env x, foldedSetIterable iter env x = pure x) :
    SE C Γ d (.ListComp elt [⟨target, iter, [], 0⟩] scope pos) (fComp tg.length cis f T g) := by
  intro A env κ m ab ab' s r Q E R J hq k
  unfold fComp at hq
  split at hq
  · exact ns9 hq
  rename_i l ab₁ e1
  split at hq
  · exact ns9 hq
  rename_i ab₂ e2
  split at hq
  case h_2 => exact ns9 hq
  rename_i ys e3
  cases hq
  obtain ⟨cl, h1, h2, h3⟩ := comp_cl K J.f
  rw [eval_ListComp]
  refine wpAny_comprehension_free (use := none) rfl (hs env) h1 K.kind (comp_hn K) (hi R J e1 fun I St fp o h₁ t₁ κ₀ κ₁ l₀ kI l₁ ki it st J₁ => ?_)
  refine comp_run K (s := { s with heap := h₁, toks := t₁ }) (RR := fun acc Cc => compPost (model C.prog C.w) A E none Q acc Cc) R kI l₁ ki it st J₁ h2 h3 hT he e2 e3 fun D Cc h' t' lam oC mC l₂ hv J₂ kC ho hc hN => ?_
  exact ⟨mC, hN, fun h'' hs'' => k _ h'' t' lam (l₀.trans l₂) hv (J₂.off kC hs'')⟩
theorem ss_setComp {scope : Scope} {tg caps : List Str} {cis : List Nat} (K : CompOk Γ scope tg caps cis) {elt target iter : Expr} {pos p spos : Pos} {x : Str} {i : Nat} {f : Ab → Option (List MV × Ab)} {T : MV → List Slot → Option (List Slot)} {g : Ab → Option (MV × Ab)}
    (hi : SI C Γ d iter f) (hT : TG C (compFrm Γ scope tg caps) target T) (he : SE C (compFrm Γ scope tg caps) d elt g) (hs : ∀ env x, foldedSetIterable iter env x = pure x) (hx : Stores Γ i x)
    (hsw : ∀ env, env.scope = Γ.scope → swapsWith (.ListComp elt [⟨target, iter, [], 0⟩] scope pos) (some (.Name x p)) spos.line env = pure true) :
    SS C Γ d (.Assign [.Name x p] (.ListComp elt [⟨target, iter, [], 0⟩] scope pos) spos) (sSet i (fComp tg.length cis f T g)) := by
  intro A env κ m ab ab' s r Q E R J hq k
  unfold sSet at hq
  split at hq
  case h_2 => exact ns9 hq
  rename_i r' ab₃ e0
  cases hq
  unfold fComp at e0
  split at e0
  · exact ns9 e0
  rename_i l ab₁ e1
  split at e0
  · exact ns9 e0
  rename_i ab₂ e2
  split at e0
  case h_2 => exact ns9 e0
  rename_i ys e3
  cases e0
  obtain ⟨cl, h1, h2, h3⟩ := comp_cl K J.f
  rw [exec_Assign_Name_used _ _ _ _ (hsw env J.f.scope)]
  refine wpAny_bind (wpAny_standAt (wpAny_bind ?_))
  show wpAny _ A (do let _ ← comprehension (.ListComp elt [⟨target, iter, [], 0⟩] scope pos) scope env _ (newList []) false (eval iter env) (some (assign (.Name x p) env))) _ _ s
  refine wpAny_bind (wpAny_mono (wpAny_comprehension_free (use := some (assign (.Name x p) env)) (Q := fun _ s' => Q .next s') rfl (hs env) h1 K.kind (comp_hn K)
    (hi R J e1 fun I St fp o h₁ t₁ κ₀ κ₁ l₀ kI l₁ ki it st J₁ => ?_)) (fun _ s' hq => wpAny_pure (wpAny_pure hq)) fun _ _ e => e)
  refine comp_run K (s := { s with heap := h₁, toks := t₁ }) (RR := fun acc Cc => compPost (model C.prog C.w) A E (some (assign (.Name x p) env)) (fun _ s' => Q .next s') acc Cc) R kI l₁ ki it st J₁ h2 h3 hT he e2 e3 fun D Cc h' t' lam oC mC l₂ hv J₂ kC ho hc hN => ?_
  show wpAny _ A (assign (.Name x p) env (.ref D)) _ _ _
  have bC : C.h₀.get? Cc = none := base_none J₂.g (fun o e => by rw [kC] at e; cases e)
  obtain ⟨J₃, l₃⟩ := J₂.mark (k := .frn oC) kC ⟨_, ho⟩ (fun _ e => by cases e) (fun _ e => by cases e; exact ho) (fun _ e => by cases e)
  refine wpAny_assign_Name (store_slot (s := { s with heap := h', toks := t' }) J₃ hx.1 hx.2 (sl := .val (.lst ys)) ⟨_, rfl, hv.mono l₃.v⟩ fun m₄ h₄ t₄ J₄ _ => ?_)
  have kC4 : put lam Cc (.frn oC) Cc = .frn oC := put_self ..
  have ho4 := J₄.g.frn _ _ kC4
  refine ⟨mC, ?_, fun h'' hs'' => ?_⟩
  · obtain ⟨o', es, ep, a1, a2⟩ := hN
    rw [ho] at a1; cases a1
    exact ⟨oC, es, ep, ho4, a2⟩
  · obtain ⟨J₅, lb⟩ := J₄.forget kC4 bC hc
    have J₆ := J₅.off (put_self ..) hs''
    refine k .next m₄ h'' t₄ _ (l₀.trans (l₂.trans (lb.le l₃ kC))) trivial J₆
end
end Mine
end

section
namespace Mine
open PySem PySem.Calls PyProof.Rows PySem.W
section
variable {C : Ctx} {Γ : Frm} {d : Nat}
noncomputable def nvr {α : Type} (_ : Ab) : Option (α × Ab) := none
theorem se_never {e : Expr} : SE C Γ d e nvr := by intro A env κ m ab ab' s r Q E R I hq; cases hq
theorem st_never {e : Expr} : ST C Γ d e nvr := by intro A env κ m ab ab' s r Q E R I hq; cases hq
theorem ss_never {e : Stmt} : SS C Γ d e nvr := by intro A env κ m ab ab' s r Q E R I hq; cases hq
theorem sss_never {e : List Stmt} : SSs C Γ d e nvr := by intro A env κ m ab ab' s r Q E R I hq; cases hq
noncomputable def opIn (G : Gst) (a b : MV) : Option (MV × Gst) := match a with
  | .str k => match dictOfMV G b with
    | some l => some (.bool (mAt l k).isSome, G)
    | none => none
  | _ => none
theorem so_in (O : Ok C) {A : Around} {κ : Gh} {s : Shared} {G G' : Gst} {x y : Value} {a b r : MV} (_R : Room A d) (I : InvG C κ G s.heap) (hx : VR C κ x a) (hy : VR C κ y b)
    (h : opIn G a b = some (r, G')) : SO C A κ G s (compareOp .In x y) r G' := by
  unfold opIn at h
  split at h
  case h_2 => exact ns9 h
  rename_i k
  split at h
  case h_2 => exact ns9 h
  rename_i l e
  cases h
  obtain ⟨t, rfl⟩ := hx.str_inv
  obtain ⟨dd, kvs, rfl, hne, hd, hp⟩ := dict_at I hy e
  refine @SO.val C A κ G s _ _ I (fun {Q E} q => ?_)
  refine wpAny_in_of (strKind_is C.prog C.w k t) (notSys O I hne) hd.mapOf ?_
  have : (valueAt kvs k).isSome = (mAt l k).isSome := by
    rcases hp.at (k := k) with ⟨p, q⟩ | ⟨v, m, p, q, _⟩ <;> rw [p, q] <;> rfl
  rw [this]
  exact q _ _ (.bool _)
theorem st_in (O : Ok C) {e₁ e₂ : Expr} {pos : Pos} {f g : Ab → Option (MV × Ab)} (hf : SE C Γ d e₁ f) (hg : SE C Γ d e₂ g) (hm : behindInMarks .In e₂ = false) :
    ST C Γ d (.Compare e₁ [.In] [e₂] pos) (asBool (f2 f g opIn)) := by
  intro A env κ m ab ab' s r Q E R I hq h
  refine wpAny_isTrue_Compare1 (two hf hg (T := compareOp .In) (so_in O) R I (asBool_eq hq) fun v h' t' κ' l hv I' => ?_) hm
  cases hv
  exact wpAny_truthy_bool (h h' t' κ' l I')
noncomputable def BaseD (C : Ctx) (a : Addr) (ms : List (Str × MV)) : Prop := ∃ o kvs, C.h₀.get? a = some o ∧ o.IsDictOf (strKind C.prog C.w) kvs ∧ ∀ κ, PRs C κ kvs ms
noncomputable def fBase (ms : List (Str × MV)) (f : Ab → Option (MV × Ab)) (ab : Ab) : Option (MV × Ab) := match f ab with
  | some (.str k, ab) => (match mAt ms k with
    | some r => some (r, ab)
    | none => none)
  | _ => none
theorem se_base (O : Ok C) {x : Str} {a : Addr} {ms : List (Str × MV)} {p pos : Pos} {i : Expr} {f : Ab → Option (MV × Ab)} (hx : Glob C Γ x (.ref a)) (hb : BaseD C a ms) (hf : SE C Γ d i f)
    (hsl : ∀ o k, subscripted i false o k = operate [o, k] (getItem o k)) : SE C Γ d (.Subscript (.Name x p) i pos) (fBase ms f) := by
  intro A env κ m ab ab' s r Q E R I hq k
  unfold fBase at hq
  split at hq
  case h_2 => exact ns9 hq
  rename_i kk ab₁ e1
  split at hq
  case h_2 => exact ns9 hq
  rename_i r' e2
  cases hq
  refine Subscript_ (glob_name O I hx (hf R I e1 fun v h₁ t₁ κ₁ l₁ v₁ I₁ => ?_))
  obtain ⟨o, kvs, ho, hd, hp⟩ := hb
  obtain ⟨t, rfl⟩ := v₁.str_inv
  have hm := (Heap.dictOf_iff.mpr ⟨_, I₁.g.keep _ _ ho, hd⟩).mapOf
  rcases (hp κ₁).at (k := kk) with ⟨p, q⟩ | ⟨v, m, p, q, hr⟩
  · rw [q] at e2; exact ns9 e2
  · rw [q] at e2; cases e2
    exact tail_any (s := { s with heap := h₁, toks := t₁ }) hm.typeIs slot_dict_getitem.lookup (wpAny_getItem_of (s := { s with heap := h₁, toks := t₁ }) (strKind_is C.prog C.w kk _) hm p (k v h₁ _ κ₁ l₁ hr I₁)) (hsl _ _)
theorem Inv.share {κ₀ κ : Gh} {env : Env} {m : Str → Option Value} {ρ : List Slot} {G : Gst} {h h' : Heap} {a : Addr} {o o' : Obj} {kvs : List (Str × Value)} {ms : List (Str × MV)} (I : Inv C Γ κ env m (ρ, G) h) (hk : κ a = .frn o) (hb : C.h₀.get? a = none) (hc : ∀ v, o.data ≠ .cell v) (hs : Heap.SameBut a h h') (ho : h'.get? a = some o') (hd : o'.IsDictOf (strKind C.prog C.w) kvs) (hp : PRs C κ kvs ms) (l : Le κ₀ κ) (h0 : κ₀ a = .no) :
    Inv C Γ (put κ a (.glo G.length)) env m (ρ, G ++ [.d ms]) h' ∧ Le κ₀ (put κ a (.glo G.length)) ∧ LeB a κ (put κ a (.glo G.length)) := by
  have lb : LeB a κ (put κ a (.glo G.length)) := LeB.put _ hk
  have I₁ := I.remark hk hb hc hs.extBut ho
  have up : ∀ {b : Addr} {i : Nat}, κ b = .glo i → i < G.length := fun {b i} e => by
    obtain ⟨_, _, _, a3, _⟩ := I.g.glo b i e
    exact (List.getElem?_eq_some_iff.mp a3).1
  have ne : ∀ {b : Addr} {k : Knd}, put κ a (.glo G.length) b = k → (∀ i, k ≠ .glo i) → b ≠ a ∧ κ b = k := fun {b k} e n => by
    by_cases q : b = a
    · subst q; rw [put_self] at e; exact absurd e.symm (n _)
    · rw [put_ne _ _ q] at e; exact ⟨q, e⟩
  refine ⟨⟨⟨fun b p e => ?_, fun b p e => ?_, fun b p e => ?_, fun b i e => ?_, fun b e => ?_, fun b b' i e e' => ?_, fun q hq => lb.glo _ _ (I.g.gi.2 q hq)⟩, I.f.remark I.g hk hc hs.extBut⟩, lb.le l h0, lb⟩
  · have : b ≠ a := by rintro rfl; rw [hb] at e; cases e
    rw [put_ne _ _ this]; exact I.g.base b p e
  · obtain ⟨q, e⟩ := ne e (by simp); exact (hs.2 b q).trans (I.g.frz b p e)
  · obtain ⟨q, e⟩ := ne e (by simp); exact (hs.2 b q).trans (I.g.frn b p e)
  · by_cases q : b = a
    · subst q
      rw [put_self] at e; cases e
      exact ⟨o', .d ms, ho, by simp, kvs, hd, hp.mono lb.v⟩
    · rw [put_ne _ _ q] at e
      obtain ⟨o₁, gv₁, a1, a3, a4⟩ := I.g.glo b i e
      exact ⟨o₁, gv₁, (hs.2 b q).trans a1, by rw [List.getElem?_append_left (up e)]; exact a3, a4.mono lb.v⟩
  · by_cases q : b = a
    · subst q; exact ⟨o', ho⟩
    · rw [put_ne _ _ q] at e; rw [hs.2 b q]; exact I.g.al b e
  · by_cases q : b = a
    · by_cases q' : b' = a
      · rw [q, q']
      · subst q
        rw [put_self] at e; cases e
        rw [put_ne _ _ q'] at e'
        exact absurd (up e') (Nat.lt_irrefl _)
    · rw [put_ne _ _ q] at e
      by_cases q' : b' = a
      · subst q'
        rw [put_self] at e'; cases e'
        exact absurd (up e) (Nat.lt_irrefl _)
      · rw [put_ne _ _ q'] at e'
        exact I.g.gi.1 b b' i e e'
noncomputable def fD2 (k₁ k₂ : Str) (f g : Ab → Option (MV × Ab)) (ab : Ab) : Option (MV × Ab) := match f ab with
  | none => none
  | some (v, ab) => match g ab with
    | none => none
    | some (w, ab) => some (.glo ab.2.length, ab.1, ab.2 ++ [.d [(k₁, v), (k₂, w)]])
theorem se_dict2 {k₁ k₂ : Str} {n₁ n₂ : Nat} {p₁ p₂ pos : Pos} {e₁ e₂ : Expr} {f g : Ab → Option (MV × Ab)} (hne : k₁ ≠ k₂) (hf : SE C Γ d e₁ f) (hg : SE C Γ d e₂ g) :
    SE C Γ d (.Dict [some (.Constant (.str k₁) n₁ p₁), some (.Constant (.str k₂) n₂ p₂)] [e₁, e₂] pos) (fD2 k₁ k₂ f g) := by
  intro A env κ m ab ab' s r Q E R I hq k
  unfold fD2 at hq
  split at hq
  · exact ns9 hq
  rename_i v ab₁ e1
  split at hq
  · exact ns9 hq
  rename_i w ab₂ e2
  cases hq
  refine wpAny_Dict_pairs (knd := strKind C.prog C.w) (pairs := [(eval (.Constant (.str k₁) n₁ p₁) env, do let x ← eval e₁ env; standAt pos; pure x), (eval (.Constant (.str k₂) n₂ p₂) env, do let x ← eval e₂ env; standAt pos; pure x)]) rfl (by simp) (by simp) ?_
  obtain ⟨l₀, f₀, b₀, I₀⟩ := iter_new I { cls := .type "dict", data := .dict #[] } rfl
  obtain ⟨oE, hoE, hdE⟩ := Heap.dictOf_iff.mp (Heap.DictOf.new (knd := strKind C.prog C.w) s.heap)
  have eE : oE = { cls := .type "dict", data := .dict #[] } := Option.some.inj (hoE.symm.trans (Heap.get?_push_size s.heap (o := { cls := .type "dict", data := .dict #[] }) rfl))
  subst eE
  generalize hd : s.heap.objs.size = D at *
  unfold evalPairs
  refine wpAny_bind (wpAny_Constant_str ?_)
  refine wpAny_bind (wpAny_holding (wpAny_bind (hf (s := { s with heap := s.heap.push { cls := .type "dict", data := .dict #[] }, toks := _ }) R I₀ e1 fun x₁ h₁ t₁ κ₁ l₁ v₁ I₁ => wpAny_bind (wpAny_standAt (wpAny_pure ?_)))))
  unfold evalPairs
  refine wpAny_bind (wpAny_holding (wpAny_bind (wpAny_Constant_str ?_)))
  refine wpAny_bind (wpAny_holding (wpAny_bind (hg (s := { s with heap := h₁, toks := _ }) R I₁ e2 fun x₂ h₂ t₂ κ₂ l₂ v₂ I₂ => wpAny_bind (wpAny_standAt (wpAny_pure ?_)))))
  unfold evalPairs
  refine wpAny_bind (wpAny_holding (wpAny_pure (wpAny_pure (wpAny_pure ?_))))
  have kD : κ₂ D = .frn { cls := .type "dict", data := .dict #[] } := (l₁.trans l₂).frn _ _ (put_self ..)
  refine ⟨[(k₁, x₁), (k₂, x₂)], ⟨strKind_is _ _ _ _, rfl, strKind_is _ _ _ _, rfl, True.intro⟩, Heap.dictOf_iff.mpr ⟨_, I₂.g.frn _ _ kD, hdE⟩, fun h' hm hs => ?_⟩
  have em : merged [] [(k₁, x₁), (k₂, x₂)] = [(k₁, x₁), (k₂, x₂)] := by simp [merged, PySem.stored, hne]
  rw [em] at hm
  obtain ⟨o', ho', hd'⟩ := Heap.dictOf_iff.mp hm
  obtain ⟨I₃, l₃, _⟩ := Inv.share (ρ := ab₂.1) (G := ab₂.2) I₂ kD b₀ (by intro v z; cases z) hs ho' hd' (.cons (v₁.mono l₂.v) (.cons v₂ .nil)) (l₀.trans (l₁.trans l₂)) f₀
  exact k _ h' _ _ l₃ (.glo (put_self ..)) I₃
end
end Mine
end

section
namespace Mine
open PySem PySem.Calls PyProof.Rows PySem.W
noncomputable def SX (C : Ctx) (Γ : Frm) (d : Nat) (e : List Stmt) (f : Ab → Option (Fl × Ab)) : Prop :=
  ∀ ⦃A : Around⦄ ⦃env : Env⦄ ⦃κ : Gh⦄ ⦃m : Str → Option Value⦄ ⦃ab ab' : Ab⦄ ⦃s : Shared⦄ ⦃r : Fl⦄ ⦃Q : Flow → Shared → Prop⦄ ⦃E : Value → Shared → Prop⦄,
    Room A d → Inv C Γ κ env m ab s.heap → f ab = some (r, ab') →
    (∀ v h' t' κ', Le κ κ' → FlR C κ' v r → InvG C κ' ab'.2 h' → Q v { s with heap := h', toks := t' }) →
    wpAny (model C.prog C.w) A (execs e env) Q E s
section
variable {C : Ctx} {Γ Γ' : Frm} {d : Nat}
theorem sx_of {e : List Stmt} {f : Ab → Option (Fl × Ab)} (h : SSs C Γ d e f) : SX C Γ d e f := by
  intro A env κ m ab ab' s r Q E R I hq k
  exact h R I hq fun v m' h' t' κ' l hv I' => k v h' t' κ' l hv I'.g
theorem sx_cons {st : Stmt} {rest : List Stmt} {f g : Ab → Option (Fl × Ab)} (hf : SS C Γ d st f) (hg : SX C Γ d rest g) : SX C Γ d (st :: rest) (sSeq f g) := by
  intro A env κ m ab ab' s r Q E R I hq h
  unfold sSeq at hq
  show wpAny _ _ (execs (st :: rest) env) _ _ _
  rw [execs_cons]
  cases e : f ab with
  | none => rw [e] at hq; exact ns9 hq
  | some p =>
    obtain ⟨fl, ab₁⟩ := p
    rw [e] at hq
    refine wpAny_bind (hf R I e fun v m' h' t' κ' l hv I' => ?_)
    cases fl with
    | nxt =>
      cases v <;> first | exact hv.elim | skip
      exact hg R I' hq fun v₂ h₂ t₂ κ₂ l₂ hv₂ I₂ => h v₂ h₂ t₂ κ₂ (l.trans l₂) hv₂ I₂
    | ret mv =>
      cases hq
      cases v <;> first | exact hv.elim | skip
      exact wpAny_pure (h _ h' t' κ' l hv I'.g)
theorem sc_fnX (O : Ok C) {a : Addr} {ps others : List Str} {body : List Stmt} {scope : Scope} {cd : Value} {F : Ab → Option (Fl × Ab)} (hfn : FnAt C a ps body scope cd) (hs : ScopeOk scope ps others)
    (hF : SX C ⟨scope, ps ++ others, true, cd⟩ d body F) : SC C (d + 1) (.ref a) (fun ms G => if ms.length = ps.length then finish (F (start ms others.length, G)) else none) := by
  intro A κ G G' s xs ms r R hR I hx hq k
  dsimp only at hq
  split at hq
  case isFalse => exact ns9 hq
  rename_i hlen
  have hvl := hx.length
  refine fn_call O hfn hs (ss := ms.map .val) hR I (hvl.trans hlen) (by simpa using hlen) (fun κ' h' i x v sl l e1 e2 e3 => ?_) fun env m h₁ t₁ L cs E hL hab I₁ _ hk₁ R₁ => ?_
  · rw [List.getElem?_map] at e3
    cases hm : ms[i]? with
    | none => rw [hm] at e3; exact ns9 e3
    | some mv =>
      rw [hm] at e3; cases e3
      obtain ⟨v', hv, hr⟩ := hx.at hm
      rw [e2] at hv; cases hv
      exact ⟨v, rfl, hr.mono l.v⟩
  · cases hf : F (start ms others.length, G) with
    | none => rw [hf] at hq; exact ns9 hq
    | some p =>
      obtain ⟨fl, ρ', G₂⟩ := p
      rw [hf] at hq
      refine hF (ab := (start ms others.length, G)) (s := { s with heap := h₁, toks := t₁ }) R₁ I₁ hf fun v h' t' κ' l hv I' => ?_
      obtain ⟨e1, e2, e3, e4⟩ := leave_all I hL hab l I'
      cases fl with
      | nxt =>
        cases hq
        cases v <;> first | exact hv.elim | skip
        exact k _ h' t' _ e1 e2 .none e4
      | ret mv =>
        cases hq
        cases v <;> first | exact hv.elim | skip
        exact k _ h' t' _ e1 e2 (VR.mono e3 hv) e4
end
structure CloDef where
  name : Str
  params : Arguments
  body : List Stmt
  scope : Scope
  ps : List Str
  caps : List Str
  others : List Str
noncomputable def IsCloOf (D : CloDef) (o : Obj) (cl : List (Str × Addr)) (c : Addr) (oc : Obj) : Prop :=
  ∃ fd, o.data = .func fd ∧ fd.body = .stmts D.body ∧ fd.closure = cl ∧ fd.scope = D.scope ∧ fd.globals = mainGlobals ∧ fd.builtins = builtinsNs ∧ fd.code = .ref c ∧ (∃ vs t, oc.data = .fields vs ∧ vs[1]? = some (.str fd.qualname t)) ∧
    cl.map (·.1) = D.caps ∧ ∀ (s : Shared) (vs : List Value), vs.length = D.ps.length → BindsTo s fd ⟨vs, []⟩ (D.ps.zip vs)
structure CloOk (D : CloDef) : Prop where
  kind : D.scope.kind = .function
  co : D.scope.isCoroutine = false
  gen : D.scope.isGenerator = false
  nocell : D.scope.names.all (fun p => p.2 != .cell) = true
  pars : D.ps.all (fun x => D.scope.names.lookup x == some .local) = true
  frees : D.scope.names.all (fun p => p.2 != .free || D.caps.contains p.1) = true
  capF : D.caps.all (fun x => D.scope.names.lookup x == some .free) = true
  nd : (D.ps ++ D.others ++ D.caps).Nodup
noncomputable def cloFrm (D : CloDef) : Frm := ⟨D.scope, D.ps ++ D.others ++ D.caps, false, .none⟩
noncomputable def cloStart (D : CloDef) (ms cs : List MV) : List Slot := ms.map .val ++ List.replicate D.others.length .un ++ cs.map .val
section
variable {C : Ctx} {d : Nat}
theorem CRs.at {κ : Gh} {cl : List (Str × Addr)} {cs : List MV} {i : Nat} {x : Str} {mv : MV} (h : CRs C κ cl cs) (e : (cl.map (·.1))[i]? = some x) (e' : cs[i]? = some mv) : ∃ c o v, (x, c) ∈ cl ∧ κ c = .frz o ∧ o.data = .cell (some v) ∧ VR C κ v mv := by
  revert i
  refine h.ind (P := fun cl cs => ∀ {i}, (cl.map (·.1))[i]? = some x → cs[i]? = some mv → ∃ c o v, (x, c) ∈ cl ∧ κ c = .frz o ∧ o.data = .cell (some v) ∧ VR C κ v mv) (fun h => by simp at h) ?_
  intro y c o v m cl ms hc hd hv _ ih i h h'
  cases i with
  | zero => cases h; cases h'; exact ⟨_, _, _, .head _, hc, hd, hv⟩
  | succ i =>
    obtain ⟨c, o, v, p, q⟩ := ih (i := i) h h'
    exact ⟨c, o, v, .tail _ p, q⟩
theorem CRs.length {κ : Gh} {cl : List (Str × Addr)} {cs : List MV} (h : CRs C κ cl cs) : cl.length = cs.length :=
  h.ind (P := fun a b => a.length = b.length) rfl fun _ _ _ _ ih => congrArg Nat.succ ih
theorem lookup_nd {α : Type} {x : Str} {c : α} : ∀ {cl : List (Str × α)}, (cl.map (·.1)).Nodup → (x, c) ∈ cl → cl.lookup x = some c
  | [], _, h => by cases h
  | (y, b) :: r, hn, h => by
    rw [List.map_cons, List.nodup_cons] at hn
    rcases List.mem_cons.mp h with e | h'
    · cases e; simp
    · have ne : x ≠ y := by rintro rfl; exact hn.1 (List.mem_map.mpr ⟨(x, c), h', rfl⟩)
      have : (x == y) = false := by simpa using ne
      rw [List.lookup_cons, this]
      exact lookup_nd hn.2 h'
noncomputable def capVal (cl : List (Str × Addr)) (h : Heap) (x : Str) : Option Value := match cl.lookup x with
  | none => none
  | some c => match h.get? c with
    | some o => (match o.data with | .cell v => v | _ => none)
    | none => none
theorem clo_call (O : Ok C) {D : CloDef} (K : CloOk D) {F : Ab → Option (Fl × Ab)} (hF : SX C (cloFrm D) d D.body F) {k : Nat} (hC : ∀ o cl c oc, C.isClo k o cl c oc → IsCloOf D o cl c oc)
    {A : Around} {κ : Gh} {G G' : Gst} {s : Shared} {xs : List Value} {ms cs : List MV} {r : MV} {R : Result → Shared → Prop} {a : Addr}
    (hR : Room A (d + 1)) (I : InvG C κ G s.heap) (hx : VRs C κ xs ms) (hv : VR C κ (.ref a) (.clo k cs)) (hlen : ms.length = D.ps.length) (hq : finish (F (cloStart D ms cs, G)) = some (r, G'))
    (k' : ∀ v h' t' κ', Le κ κ' → Kept κ κ' s.heap h' → VR C κ' v r → InvG C κ' G' h' → R (.ok (.ret v)) { s with heap := h', toks := t' }) :
    codeAny (model C.prog C.w) A (.call (.ref a) ⟨xs, []⟩) R s := by
  cases hv with
  | @clo _ c _ o oc cl _ ka kc hi hcr =>
    obtain ⟨fd, hd, hb, hcl, hsc, hg, hbi, hcode, ⟨vs, t, hvs, hq1⟩, hnames, hbind⟩ := hC _ _ _ _ hi
    have hcd : s.heap.CodeRec fd.code fd.qualname := ⟨c, oc, vs, t, hcode, I.frz _ _ kc, hvs, hq1⟩
    have hdep := hR.depth
    have hxl : xs.length = D.ps.length := hx.length.trans hlen
    refine codeAny_call_function (by lia) (I.frz _ _ ka) hd (by rw [hsc]; exact K.co) (by rw [hsc]; exact K.gen) hb hcd (hbind s xs hxl _ _ _ _ ?_)
    have nocell := List.all_eq_true.mp K.nocell
    have pars := List.all_eq_true.mp K.pars
    have frees := List.all_eq_true.mp K.frees
    have capF := List.all_eq_true.mp K.capF
    refine wpAny_newFunctionEnv (by rw [hsc]; exact fun y hy => by simpa using nocell y hy) (fun p hp => ?_) (fun h₁ hns hsb => ?_) (by rw [hsc]; exact K.kind)
    · obtain ⟨x, v⟩ := p
      have := pars x (List.of_mem_zip hp).1
      rw [hsc]; simpa using this
    generalize hLe : s.heap.objs.size = L at *
    have hold : ∀ b o, s.heap.get? b = some o → h₁.get? b = some o := fun b o e => hsb.extBut b o (by have := Heap.lt_size e; rw [hLe] at this; exact Nat.ne_of_lt this) (Heap.get?_push_of_some _ e)
    refine ⟨O.nolim.keeps fun b o e => hold b o (I.keep b o e), codeAny_func ?_⟩
    generalize henv : newEnv fd.scope L fd.globals fd.closure (fd.qualname ++ ".<locals>.") (some a) fd.code none fd.builtins = env at *
    have eL : env.locals = L := by rw [← henv]; rfl
    have eC : env.cells = cl := by rw [← henv, ← hcl]; rfl
    have eS : env.scope = D.scope := by rw [← henv, ← hsc]; rfl
    have eG : env.globals = mainGlobals := by rw [← henv, ← hg]; rfl
    have eB : env.builtins = builtinsNs := by rw [← henv, ← hbi]; rfl
    have eK : ∀ x, env.kindOf x = D.scope.names.lookup x := fun x => by unfold Env.kindOf; rw [eS]
    have alL : ∃ o, h₁.get? L = some o := let ⟨o, _, _, e, _⟩ := hns; ⟨o, e⟩
    have I₁ : InvG C (enter κ s.heap L []) G h₁ := enter_inv I (by rw [hLe]; exact Nat.le_refl _) (fun _ _ e => by cases e) hold alL (fun _ _ e => by cases e)
    have l₁ : Le κ (enter κ s.heap L []) := enter_le I (by rw [hLe]; exact Nat.le_refl _) (fun _ _ e => by cases e)
    let m : Str → Option Value := fun x => if env.kindOf x = some .local then (D.ps.zip xs).reverse.lookup x else capVal cl h₁ x
    have hnd := List.nodup_append.mp K.nd
    have hndc : (cl.map (·.1)).Nodup := by rw [hnames]; exact hnd.2.1
    have mcap : ∀ (j : Nat) (x : Str) (mv : MV), D.caps[j]? = some x → cs[j]? = some mv → ∃ c o v, cl.lookup x = some c ∧ κ c = .frz o ∧ o.data = .cell (some v) ∧ VR C κ v mv ∧ m x = some v := fun j x mv e e' => by
      obtain ⟨c, o, v, p1, p2, p3, p4⟩ := hcr.at (by rw [hnames]; exact e) e'
      have hl := lookup_nd hndc p1
      have hk : env.kindOf x ≠ some .local := by
        have := capF x (List.mem_of_getElem? e)
        rw [eK, beq_iff_eq.mp this]; simp
      refine ⟨c, o, v, hl, p2, p3, p4, ?_⟩
      simp only [m]
      rw [if_neg hk]
      unfold capVal
      rw [hl]
      dsimp only
      rw [hold _ _ (I.frz _ _ p2)]
      dsimp only
      rw [p3]
    have F₁ : InvF C (cloFrm D) (enter κ s.heap L []) env m (cloStart D ms cs) h₁ := by
      refine ⟨eS, K.kind, ⟨eG, .inl rfl⟩, eB, K.nd, by rw [eL]; unfold enter; rw [if_pos rfl], ⟨_, eL ▸ hns, fun x hx => ?_⟩, fun x hx => ?_, fun z => (by cases z), ?_, fun i x sl e e' => ?_⟩
      · show _ = m x
        simp only [m, if_pos hx]
      · rw [eK] at hx
        have hfr : D.scope.names.lookup x = some .free := by
          rcases hx with hx | hx
          · have := nocell _ (mem_lookup hx)
            simp at this
          · exact hx
        have hmem : x ∈ D.caps := by
          have := frees _ (mem_lookup hfr)
          simpa using this
        obtain ⟨j, hj⟩ := List.getElem?_of_mem hmem
        have hjl : j < cs.length := by
          have h1 := hcr.length
          have h2 : cl.length = D.caps.length := by rw [← hnames, List.length_map]
          have h3 : j < D.caps.length := (List.getElem?_eq_some_iff.mp hj).1
          lia
        obtain ⟨c, o, v, p1, p2, p3, p4, p5⟩ := mcap j x _ hj (List.getElem?_eq_getElem hjl)
        refine ⟨c, by rw [eC]; exact p1, ⟨o, hold _ _ (I.frz _ _ p2), by rw [p5]; exact p3⟩, .inr ⟨o, .inr (l₁.frz _ _ p2)⟩⟩
      · have h1 := hcr.length
        have h2 : cl.length = D.caps.length := by rw [← hnames, List.length_map]
        show (cloStart D ms cs).length = (D.ps ++ D.others ++ D.caps).length
        unfold cloStart
        simp [hlen]; lia
      · have e0 : (D.ps ++ D.others ++ D.caps)[i]? = some x := e
        have e0' : (ms.map Slot.val ++ List.replicate D.others.length Slot.un ++ cs.map Slot.val)[i]? = some sl := e'
        by_cases h1 : i < D.ps.length
        · rw [List.append_assoc, List.getElem?_append_left h1] at e0
          rw [List.append_assoc, List.getElem?_append_left (by simpa [hlen] using h1), List.getElem?_map] at e0'
          cases hm : ms[i]? with
          | none => rw [hm] at e0'; exact ns9 e0'
          | some mv =>
            rw [hm] at e0'; cases e0'
            obtain ⟨v, hv1, hr⟩ := hx.at hm
            refine ⟨v, ?_, hr.mono l₁.v⟩
            have hk : env.kindOf x = some .local := by
              have := pars x (List.mem_of_getElem? e0)
              rw [eK]; exact beq_iff_eq.mp this
            simp only [m, if_pos hk]
            have hz : (x, v) ∈ D.ps.zip xs := zip_mem e0 hv1
            refine lookup_nd ?_ (List.mem_reverse.mpr hz)
            rw [List.map_reverse, (List.reverse_perm _).nodup_iff, List.map_fst_zip (by rw [hxl]; exact Nat.le_refl _)]
            exact (List.nodup_append.mp hnd.1).1
        · by_cases h2 : i < (D.ps ++ D.others).length
          · rw [List.getElem?_append_left (by simpa [hlen] using h2)] at e0'
            rw [List.getElem?_append_right (by simpa [hlen] using h1), List.getElem?_replicate] at e0'
            split at e0'
            · cases e0'; exact True.intro
            · exact ns9 e0'
          · rw [List.getElem?_append_right (by lia)] at e0
            rw [List.getElem?_append_right (by simpa [hlen] using h2), List.getElem?_map] at e0'
            have elen : (ms.map Slot.val ++ List.replicate D.others.length Slot.un).length = (D.ps ++ D.others).length := by simp [hlen]
            rw [elen] at e0'
            cases hm : cs[i - (D.ps ++ D.others).length]? with
            | none => rw [hm] at e0'; exact ns9 e0'
            | some mv =>
              rw [hm] at e0'; cases e0'
              obtain ⟨c, o, v, p1, p2, p3, p4, p5⟩ := mcap _ x mv e0 hm
              exact ⟨v, p5, p4.mono l₁.v⟩
    have Room₁ : Room (A.deeper env) d := ⟨by have e : (A.deeper env).depth = A.depth + 1 := rfl; rw [e]; lia, by have e : (A.deeper env).units = A.units + 3 := rfl; have := hR.units; rw [e]; lia, hR.hh⟩
    cases hf : F (cloStart D ms cs, G) with
    | none => rw [hf] at hq; exact ns9 hq
    | some p =>
      obtain ⟨fl, ρ', G₂⟩ := p
      rw [hf] at hq
      refine hF (ab := (cloStart D ms cs, G)) (s := { s with heap := h₁, toks := _ }) Room₁ ⟨I₁, F₁⟩ hf fun v h' t' κ' l hv I' => ?_
      obtain ⟨e1, e2, e3, e4⟩ := leave_all I (by rw [hLe]; exact Nat.le_refl _) (fun _ _ e => by cases e) l I'
      cases fl with
      | nxt =>
        cases hq
        cases v <;> first | exact hv.elim | skip
        exact k' _ h' t' _ e1 e2 .none e4
      | ret mv =>
        cases hq
        cases v <;> first | exact hv.elim | skip
        exact k' _ h' t' _ e1 e2 (VR.mono e3 hv) e4
noncomputable def SCC (C : Ctx) (d : Nat) (spec : Nat → List MV → List MV → Gst → Option (MV × Gst)) : Prop :=
  ∀ ⦃A : Around⦄ ⦃κ : Gh⦄ ⦃G G' : Gst⦄ ⦃s : Shared⦄ ⦃xs : List Value⦄ ⦃k : Nat⦄ ⦃ms cs : List MV⦄ ⦃r : MV⦄ ⦃R : Result → Shared → Prop⦄ ⦃a : Addr⦄,
    Room A d → InvG C κ G s.heap → VRs C κ xs ms → VR C κ (.ref a) (.clo k cs) → spec k cs ms G = some (r, G') →
    (∀ v h' t' κ', Le κ κ' → Kept κ κ' s.heap h' → VR C κ' v r → InvG C κ' G' h' → R (.ok (.ret v)) { s with heap := h', toks := t' }) →
    codeAny (model C.prog C.w) A (.call (.ref a) ⟨xs, []⟩) R s
noncomputable def fCallC (spec : Nat → List MV → List MV → Gst → Option (MV × Gst)) (f : Ab → Option (MV × Ab)) (g : Ab → Option (List MV × Ab)) (ab : Ab) : Option (MV × Ab) := match f ab with
  | some (.clo k cs, ab) => (match g ab with
    | none => none
    | some (l, ab) => match spec k cs l ab.2 with
      | none => none
      | some (r, G) => some (r, ab.1, G))
  | _ => none
theorem se_callC {Γ : Frm} {x : Str} {p pos : Pos} {es : List Expr} {spec : Nat → List MV → List MV → Gst → Option (MV × Gst)} {f : Ab → Option (MV × Ab)} {g : Ab → Option (List MV × Ab)} (hc : SCC C d spec) (hf : SE C Γ d (.Name x p) f) (hg : SL C Γ d es g)
    (hcl : ∀ k o cl c oc, C.isClo k o cl c oc → ∃ fd, o.data = .func fd)
    (hst : ∀ env, (starEach es env).any (·.1) = false) : SE C Γ d (.Call (.Name x p) es [] pos) (fCallC spec f g) := by
  intro A env κ m ab ab' s r Q E R I hq h
  unfold fCallC at hq
  split at hq
  case h_2 => exact ns9 hq
  rename_i k cs ab₁ e0
  split at hq
  · exact ns9 hq
  rename_i l ab₂ e1
  split at hq
  · exact ns9 hq
  rename_i r' G' e2
  cases hq
  show wpAny _ _ (eval (.Name x p) env >>= fun f => callWith pos f [] (backTo pos (starEach es env)) (backToKw pos (keywordEach [] env))) _ _ _
  refine wpAny_bind (hf R I e0 fun fv h₁ t₁ κ₁ l₁ v₁ I₁ => ?_)
  obtain ⟨a, c, o, oc, cl, rfl, ka, kc, hi, hcr⟩ := v₁.clo_inv
  refine callWith_of (P := PySem.W.FnAt a) ?_ (fun h X => PySem.W.keeps_F h X) (evalArgs_any (hst env) (hg (s := { s with heap := h₁, toks := t₁ }) R I₁ e1 fun vs h₂ t₂ κ₂ l₂ v₂ I₂ => ?_))
  · rw [any_backTo, hst]; rfl
  · refine ⟨?_, wpAny_call ?_⟩
    · obtain ⟨fd, hd⟩ := hcl _ _ _ _ _ hi
      obtain ⟨c', dd, dt, sl⟩ := o
      cases hd
      exact ⟨c', dd, fd, sl, I₂.g.frz _ _ (l₂.frz _ _ ka)⟩
    · refine hc (s := { s with heap := h₂, toks := t₂ }) R I₂.g v₂ (.clo (l₂.frz _ _ ka) (l₂.frz _ _ kc) hi (CRs.mono l₂.v hcr)) e2 fun v h₃ t₃ κ₃ l₃ k₃ v₃ I₃ => ?_
      exact h v h₃ t₃ κ₃ (l₁.trans (l₂.trans l₃)) v₃ (I₂.keep I₃ l₃ k₃)
end
end Mine
end

section
namespace Mine
open PySem PySem.Calls PyProof.Rows PySem.W
noncomputable def freesOf (names : List (Str × NameKind)) : List Str := (names.filter (·.2 == .free)).map (·.1)
theorem closure_map {env : Env} : ∀ (names : List (Str × NameKind)) (acc : List (Str × Addr)), (∀ p ∈ names, p.2 = .free → ∃ c, env.cells.lookup p.1 = some c) → (∀ p ∈ acc, env.cells.lookup p.1 = some p.2) →
    ∃ cl : List (Str × Addr), (forIn names acc fun (p : Str × NameKind) (cs : List (Str × Addr)) => (do
      if p.2 == .free then
        let c ← cellOf env p.1
        pure (ForInStep.yield ((p.1, c) :: cs))
      else pure (ForInStep.yield cs) : Sem (ForInStep (List (Str × Addr))))) = pure cl ∧ (∀ p ∈ cl, env.cells.lookup p.1 = some p.2) ∧ cl.map (·.1) = (freesOf names).reverse ++ acc.map (·.1)
  | [], acc, _, h2 => ⟨acc, rfl, h2, rfl⟩
  | (n, k) :: r, acc, h1, h2 => by
    by_cases hk : k = .free
    · subst hk
      obtain ⟨c, hc⟩ := h1 (n, .free) (.head _) rfl
      obtain ⟨cl, e, p, q⟩ := closure_map (env := env) r ((n, c) :: acc) (fun p hp => h1 p (.tail _ hp)) (fun p hp => by
        rcases List.mem_cons.mp hp with e | hp
        · rw [e]; exact hc
        · exact h2 p hp)
      refine ⟨cl, ?_, p, ?_⟩
      · rw [List.forIn_cons]
        have e1 : cellOf env n = pure c := by unfold cellOf; rw [hc]
        simp only [beq_self_eq_true, if_true, e1, pure_bind]
        exact e
      · rw [q]
        simp [freesOf]
    · have hkb : (k == NameKind.free) = false := by simpa using hk
      obtain ⟨cl, e, p, q⟩ := closure_map (env := env) r acc (fun p hp => h1 p (.tail _ hp)) h2
      refine ⟨cl, ?_, p, ?_⟩
      · rw [List.forIn_cons]
        simp only [hkb, Bool.false_eq_true, if_false, pure_bind]
        exact e
      · rw [q]
        simp [freesOf, hkb]
theorem closureFor_map {env : Env} {scope : Scope} (h : ∀ p ∈ scope.names, p.2 = .free → ∃ c, env.cells.lookup p.1 = some c) :
    ∃ cl : List (Str × Addr), closureFor scope env = pure cl ∧ (∀ p ∈ cl, env.cells.lookup p.1 = some p.2) ∧ cl.map (·.1) = (freesOf scope.names).reverse := by
  obtain ⟨cl, e, p, q⟩ := closure_map (env := env) scope.names [] h (fun p hp => by cases hp)
  refine ⟨cl, ?_, p, by simpa using q⟩
  unfold closureFor
  show (forIn scope.names [] _ >>= fun cs => pure cs) = _
  rw [show (forIn scope.names ([] : List (Str × Addr)) _ : Sem (List (Str × Addr))) = pure cl from e]
  rfl
section
variable {C : Ctx} {Γ : Frm} {d : Nat}
noncomputable def below (Γ : Frm) : Frm := { Γ with top := false }
theorem InvF.below {κ : Gh} {env : Env} {m : Str → Option Value} {ρ : List Slot} {h : Heap} (F : InvF C Γ κ env m ρ h) : InvF C (below Γ) κ env m ρ h :=
  ⟨F.scope, F.fn, F.gl, F.bi, F.nd, F.kloc, F.ns, F.cel, fun z => (by cases z), F.len, F.slots⟩
theorem Inv.below {κ : Gh} {env : Env} {m : Str → Option Value} {ab : Ab} {h : Heap} (I : Inv C Γ κ env m ab h) : Inv C (below Γ) κ env m ab h := ⟨I.g, I.f.below⟩
theorem freeze_cell {κ : Gh} {env : Env} {m : Str → Option Value} {ab : Ab} {h : Heap} {x : Str} {c : Addr} {o : Obj} (I : Inv C (below Γ) κ env m ab h) (hk : κ c = .cell x) (ho : h.get? c = some o) :
    Le κ (put κ c (.frz o)) ∧ Inv C (below Γ) (put κ c (.frz o)) env m ab h := by
  have ne : ∀ {b : Addr} {k : Knd}, κ b = k → k ≠ .cell x → put κ c (.frz o) b = k := fun {b k} e n => by
    have : b ≠ c := by rintro rfl; exact n (e.symm.trans hk)
    rw [put_ne _ _ this]; exact e
  have l : Le κ (put κ c (.frz o)) := ⟨fun b p e => ne e (by simp), fun b p e => ne e (by simp), fun b p e => ne e (by simp)⟩
  have F := I.f
  refine ⟨l, ⟨⟨fun b p e => ne (I.g.base b p e) (by simp), fun b p e => ?_, fun b p e => ?_, fun b i e => ?_, fun b e => ?_, fun b b' i e e' => ?_, fun q hq => l.glo _ _ (I.g.gi.2 q hq)⟩, ?_⟩⟩
  · by_cases q : b = c
    · subst q; rw [put_self] at e; cases e; exact ho
    · rw [put_ne _ _ q] at e; exact I.g.frz b p e
  · by_cases q : b = c
    · subst q; rw [put_self] at e; cases e
    · rw [put_ne _ _ q] at e; exact I.g.frn b p e
  · by_cases q : b = c
    · subst q; rw [put_self] at e; cases e
    · rw [put_ne _ _ q] at e
      obtain ⟨o₁, gv, a1, a2, a3⟩ := I.g.glo b i e
      exact ⟨o₁, gv, a1, a2, a3.mono l.v⟩
  · by_cases q : b = c
    · subst q; exact ⟨o, ho⟩
    · rw [put_ne _ _ q] at e; exact I.g.al b e
  · have na : b ≠ c := by rintro rfl; rw [put_self] at e; cases e
    have nb : b' ≠ c := by rintro rfl; rw [put_self] at e'; cases e'
    rw [put_ne _ _ na] at e; rw [put_ne _ _ nb] at e'
    exact I.g.gi.1 b b' i e e'
  · refine ⟨F.scope, F.fn, F.gl, F.bi, F.nd, ne F.kloc (by simp), F.ns, fun y hy => ?_, fun z => (by cases z), F.len, fun i y s e e' => ?_⟩
    · obtain ⟨b, p, q, dd⟩ := F.cel y hy
      refine ⟨b, p, q, ?_⟩
      by_cases hb : b = c
      · subst hb; exact .inr ⟨o, .inr (put_self ..)⟩
      · rw [put_ne _ _ hb]; exact dd
    · have z := F.slots i y s e e'
      cases s with
      | un => exact True.intro
      | val mv => obtain ⟨v, a1, a2⟩ := z; exact ⟨v, a1, a2.mono l.v⟩
      | ownL ls => obtain ⟨b, vs, n, a1, a2, a3, a4⟩ := z; exact ⟨b, vs, n, a1, ne a2 (by simp), a3, a4.mono l.v⟩
      | ownD ls => obtain ⟨b, ob, kvs, a1, a2, a3, a4, a5⟩ := z; exact ⟨b, ob, kvs, a1, ne a2 (by simp), a3, a4, a5.mono l.v⟩
theorem freeze_cells {env : Env} {m : Str → Option Value} {ab : Ab} {h : Heap} : ∀ {cl : List (Str × Addr)} {cs : List MV} {κ : Gh}, Inv C (below Γ) κ env m ab h → (cl.map (·.1)).Nodup → (∀ p ∈ cl, κ p.2 = .cell p.1) → cl.length = cs.length →
    (∀ (i : Nat) (p : Str × Addr) (mv : MV), cl[i]? = some p → cs[i]? = some mv → ∃ v, h.IsCell p.2 (some v) ∧ VR C κ v mv) → ∃ κ', Le κ κ' ∧ Inv C (below Γ) κ' env m ab h ∧ CRs C κ' cl cs ∧ ∀ b, (∀ x ∈ cl.map (·.1), κ b ≠ .cell x) → κ' b = κ b
  | [], [], κ, I, _, _, _, _ => ⟨κ, Le.refl κ, I, .nil, fun _ _ => rfl⟩
  | [], _ :: _, κ, I, _, _, hl, _ => by simp at hl
  | _ :: _, [], κ, I, _, _, hl, _ => by simp at hl
  | (x, c) :: cl, mv :: cs, κ, I, hn, hk, hl, hv => by
    obtain ⟨v, ⟨o, ho, hd⟩, hr⟩ := hv 0 (x, c) mv rfl rfl
    have kc := hk (x, c) (.head _)
    obtain ⟨l₁, I₁⟩ := freeze_cell I kc ho
    rw [List.map_cons, List.nodup_cons] at hn
    have ne : ∀ b : Addr, (∀ y, κ b ≠ .cell y ∨ y ≠ x) → put κ c (.frz o) b = κ b := fun b hb => by
      have : b ≠ c := by
        rintro rfl
        rcases hb x with z | z
        · exact z kc
        · exact z rfl
      exact put_ne _ _ this
    obtain ⟨κ', l₂, I₂, hc, hoff⟩ := freeze_cells (cl := cl) (cs := cs) I₁ hn.2 (fun p hp => by
      have := hk p (.tail _ hp)
      rw [put_ne _ _ (by
        rintro rfl
        have e := hk (x, p.2) (.head _)
        rw [this] at e
        cases e
        exact hn.1 (List.mem_map.mpr ⟨p, hp, rfl⟩))]
      exact this) (by simpa using hl) (fun i p mv e e' => by
      obtain ⟨v, a, b⟩ := hv (i + 1) p mv (by simpa using e) (by simpa using e')
      exact ⟨v, a, b.mono l₁.v⟩)
    refine ⟨κ', l₁.trans l₂, I₂, .cons (l₂.frz _ _ (put_self ..)) hd (hr.mono (l₁.trans l₂).v) hc, fun b hb => ?_⟩
    have nb : b ≠ c := by rintro rfl; exact hb x (by simp) kc
    rw [hoff b (fun y hy => by rw [put_ne _ _ nb]; exact hb y (by simp only [List.map_cons, List.mem_cons]; exact .inr hy)), put_ne _ _ nb]
theorem store_cell {κ : Gh} {env : Env} {m : Str → Option Value} {ρ : List Slot} {G : Gst} {A : Around} {M : Model} {s : Shared} {x : Str} {v : Value} {i : Nat} {sl : Slot} {c : Addr} {Q : Unit → Shared → Prop} {E : Value → Shared → Prop}
    (I : Inv C (below Γ) κ env m (ρ, G) s.heap) (hx : Γ.xs[i]? = some x) (hk : Γ.scope.names.lookup x = some .cell) (p : env.cells.lookup x = some c) (kc : κ c = .cell x) (hr : SlotR C κ s.heap (some v) x sl)
    (h : ∀ m' h' t', Inv C (below Γ) κ env m' (ρ.set i sl, G) h' → Q () { s with heap := h', toks := t' }) :
    wpAny M A (storeName env x v) Q E s := by
  have F := I.f
  have hfn : env.scope.kind = .function := by rw [F.scope]; exact F.fn
  have ek : ∀ k, Γ.scope.names.lookup x = some k → env.kindOf x = some k := fun k e => by unfold Env.kindOf; rw [F.scope]; exact e
  obtain ⟨c', p', q, d⟩ := F.cel x (.inl (ek _ hk))
  rw [p] at p'; cases p'
  refine wpAny_storeName_cell hfn (ek _ hk) p q (fun h' hc hs => h (fun y => if y = x then some v else m y) h' s.toks ⟨I.g.own (by rw [kc]; rfl) hs (let ⟨_, ho, _⟩ := hc; ⟨_, ho⟩), ?_⟩)
  obtain ⟨ml, a, b⟩ := F.ns
  refine ⟨F.scope, F.fn, F.gl, F.bi, F.nd, F.kloc, ⟨ml, ns_same a (hs.2 _ ?_), fun y hy => ?_⟩, fun y hy => ?_, fun z => (by cases z), by rw [List.length_set]; exact F.len, slots_set F hs (by rw [kc]; simp) hx hr⟩
  · intro z; have := F.kloc; rw [z, kc] at this; cases this
  · have yx : y ≠ x := by rintro rfl; rw [ek _ hk] at hy; cases hy
    rw [if_neg yx]; exact b y hy
  · by_cases yx : y = x
    · subst yx
      exact ⟨c, p, by rw [if_pos rfl]; exact hc, d⟩
    · obtain ⟨c', p', q', d'⟩ := F.cel y hy
      refine ⟨c', p', ?_, d'⟩
      rw [if_neg yx]
      refine isCell_same q' (hs.2 c' ?_)
      rintro rfl
      rw [kc] at d'
      rcases d' with d' | ⟨o, d' | d'⟩
      · cases d'; exact yx rfl
      · cases d'
      · cases d'
noncomputable def DX (C : Ctx) (Γ : Frm) (d : Nat) (st : Stmt) (f : Ab → Option Ab) : Prop :=
  ∀ ⦃A : Around⦄ ⦃env : Env⦄ ⦃κ : Gh⦄ ⦃m : Str → Option Value⦄ ⦃ab ab' : Ab⦄ ⦃s : Shared⦄ ⦃Q : Flow → Shared → Prop⦄ ⦃E : Value → Shared → Prop⦄,
    Room A d → Inv C Γ κ env m ab s.heap → f ab = some ab' →
    (∀ m' h' t' κ', Le κ κ' → Inv C (below Γ) κ' env m' ab' h' → Q .next { s with heap := h', toks := t' }) →
    wpAny (model C.prog C.w) A (exec st env) Q E s
noncomputable def sDx (f : Ab → Option Ab) (g : Ab → Option (Fl × Ab)) (ab : Ab) : Option (Fl × Ab) := match f ab with
  | none => none
  | some ab => g ab
theorem sx_dx {st : Stmt} {rest : List Stmt} {f : Ab → Option Ab} {g : Ab → Option (Fl × Ab)} (hf : DX C Γ d st f) (hg : SX C (below Γ) d rest g) : SX C Γ d (st :: rest) (sDx f g) := by
  intro A env κ m ab ab' s r Q E R I hq h
  unfold sDx at hq
  show wpAny _ _ (execs (st :: rest) env) _ _ _
  rw [execs_cons]
  cases e : f ab with
  | none => rw [e] at hq; exact ns9 hq
  | some ab₁ =>
    rw [e] at hq
    refine wpAny_bind (hf R I e fun m' h' t' κ' l I' => ?_)
    exact hg (s := { s with heap := h', toks := t' }) R I' hq fun v₂ h₂ t₂ κ₂ l₂ hv₂ I₂ => h v₂ h₂ t₂ κ₂ (l.trans l₂) hv₂ I₂
noncomputable def dIf (c : Ab → Option (Bool × Ab)) (f : Ab → Option (Fl × Ab)) (g : Ab → Option Ab) (ab : Ab) : Option Ab := match c ab with
  | none => none
  | some (true, ab) => (match f ab with
    | some (.nxt, ab) => some ab
    | _ => none)
  | some (false, ab) => g ab
theorem dx_if {t : Expr} {b₁ : List Stmt} {st : Stmt} {pos : Pos} {c : Ab → Option (Bool × Ab)} {f : Ab → Option (Fl × Ab)} {g : Ab → Option Ab} (hc : ST C Γ d t c) (hf : SSs C Γ d b₁ f) (hg : DX C Γ d st g) : DX C Γ d (.If t b₁ [st] pos) (dIf c f g) := by
  intro A env κ m ab ab' s Q E R I hq h
  unfold dIf at hq
  split at hq
  · exact ns9 hq
  · rename_i ab₁ e1
    split at hq
    case h_2 => exact ns9 hq
    rename_i ab₂ e2
    cases hq
    refine wpAny_If (hc R I e1 fun h' t' κ' l I' => ?_)
    refine hf (s := { s with heap := h', toks := t' }) R I' e2 fun v₂ m₂ h₂ t₂ κ₂ l₂ hv₂ I₂ => ?_
    cases v₂ <;> first | exact hv₂.elim | skip
    exact h m₂ h₂ t₂ κ₂ (l.trans l₂) I₂.below
  · rename_i ab₁ e1
    refine wpAny_If (hc R I e1 fun h' t' κ' l I' => ?_)
    show wpAny _ _ (execs [st] env) _ _ _
    rw [execs_cons]
    refine wpAny_bind (hg (s := { s with heap := h', toks := t' }) R I' hq fun m₂ h₂ t₂ κ₂ l₂ I₂ => ?_)
    exact wpAny_execs_nil (h m₂ h₂ t₂ κ₂ (l.trans l₂) I₂)
structure NestOk (C : Ctx) (c P : Addr) (j : Nat) : Prop where
  hd : CodeHd C.h₀ c P
  tab : (P, j) ∈ C.tabs
  g : mainGlobals ≠ P
  bi : ∃ bm ob, C.mg "__builtins__" = some (.ref bm) ∧ bm ≠ builtinsNs ∧ bm ≠ mainGlobals ∧ bm ≠ P ∧ C.h₀.get? bm = some ob ∧ ob.cls = .type "module" ∧ ob.dict = some builtinsNs ∧ ob.data = .plain
noncomputable def valsAt (ρ : List Slot) : List Nat → Option (List MV)
  | [] => some []
  | i :: is => match ρ[i]? with
    | some (.val m) => (match valsAt ρ is with
      | some l => some (m :: l)
      | none => none)
    | _ => none
theorem valsAt_at {ρ : List Slot} : ∀ {is : List Nat} {l : List MV} {k i : Nat}, valsAt ρ is = some l → is[k]? = some i → ∃ mv, l[k]? = some mv ∧ ρ[i]? = some (.val mv)
  | [], l, k, i, h, e => by simp at e
  | j :: is, l, k, i, h, e => by
    unfold valsAt at h
    split at h
    · rename_i mv e1
      split at h
      · rename_i l' e2
        cases h
        cases k with
        | zero => simp at e; subst e; exact ⟨mv, by simp, e1⟩
        | succ k =>
          obtain ⟨mv', p, q⟩ := valsAt_at (is := is) (k := k) e2 (by simpa using e)
          exact ⟨mv', by simpa using p, q⟩
      · exact ns9 h
    · exact ns9 h
theorem valsAt_len {ρ : List Slot} : ∀ {is : List Nat} {l : List MV}, valsAt ρ is = some l → l.length = is.length
  | [], l, h => by cases h; rfl
  | j :: is, l, h => by
    unfold valsAt at h
    split at h
    · split at h
      · rename_i e2; cases h; simp [valsAt_len e2]
      · exact ns9 h
    · exact ns9 h
noncomputable def dDef (j k i : Nat) (cis : List Nat) (ab : Ab) : Option Ab := match ab.2[j]? with
  | some (.t false) => (match valsAt ab.1 cis with
    | none => none
    | some l => some (ab.1.set i (.val (.clo k l)), ab.2.set j (.t true)))
  | _ => none
structure DefOk (Γ : Frm) (D : CloDef) (i : Nat) (cis : List Nat) : Prop where
  frees : (freesOf D.scope.names).reverse = D.caps
  cells : D.caps.all (fun x => Γ.scope.names.lookup x == some .cell) = true
  cis : cis.map (fun i => Γ.xs[i]?) = D.caps.map some
  nd : D.caps.Nodup
  top : Γ.top = true
  xi : Γ.xs[i]? = some D.name
  xk : Γ.scope.names.lookup D.name = some .local ∨ Γ.scope.names.lookup D.name = some .cell
  xc : D.name ∉ D.caps
  dfl : D.params.defaults = []
  kdf : D.params.kw_defaults = []
theorem dx_def (O : Ok C) {D : CloDef} {i j k : Nat} {cis : List Nat} {pos : Pos} {c P : Addr} (K : DefOk Γ D i cis) (N : NestOk C c P j) (hcode : Γ.code = .ref c) (hC : ∀ o cl c oc, IsCloOf D o cl c oc → C.isClo k o cl c oc)
    (hann : ∀ env, annTrees D.params none env = [])
    (hbind : ∀ (qual : Str) (cl : List (Str × Addr)) (doc pm ctv : Value) (c' : Addr) (s : Shared) (vs : List Value), vs.length = D.ps.length → BindsTo s (fnX D.name qual D.params D.body D.scope cl .none .none doc pm none (.ref c') ctv) ⟨vs, []⟩ (D.ps.zip vs)) :
    DX C Γ d (.FunctionDef D.name D.params D.body [] none [] D.scope none D.name pos) (dDef j k i cis) := by
  intro A env κ m ab ab' s Q E R I hq h
  unfold dDef at hq
  split at hq
  case h_2 => exact ns9 hq
  rename_i ej
  split at hq
  · exact ns9 hq
  rename_i l el
  cases hq
  have F := I.f
  have cells := List.all_eq_true.mp K.cells
  have kOf : ∀ x, env.kindOf x = Γ.scope.names.lookup x := fun x => by unfold Env.kindOf; rw [F.scope]
  have hfree : ∀ p ∈ D.scope.names, p.2 = .free → p.1 ∈ D.caps := fun p hp e => by
    rw [← K.frees]
    refine List.mem_reverse.mpr ?_
    unfold freesOf
    exact List.mem_map.mpr ⟨p, List.mem_filter.mpr ⟨hp, by rw [e]; rfl⟩, rfl⟩
  obtain ⟨cl, hcl, hlk, hnm⟩ := closureFor_map (env := env) (scope := D.scope) (fun p hp e => by
    have := cells _ (hfree p hp e)
    obtain ⟨b, hb, _⟩ := F.cel p.1 (.inl (by rw [kOf]; exact beq_iff_eq.mp this))
    exact ⟨b, hb⟩)
  rw [K.frees] at hnm
  have kP := I.g.gi.2 _ N.tab
  obtain ⟨oP, gv, hoP, hgv, hgl⟩ := I.g.glo _ _ kP
  dsimp only at hoP hgv
  rw [ej] at hgv; cases hgv
  obtain ⟨ps, rfl, hps⟩ := hgl
  have := hps rfl
  subst this
  obtain ⟨bm, ob, b1, b2, b3, b4, b5, b6⟩ := N.bi
  have hcode' : env.code = .ref c := by
    rcases F.gl.2 with z | z
    · rw [hcode] at z; cases z
    · rw [z, hcode]
  refine nestDef_K K.dfl K.kdf (hann env) ?_
  refine makeFunction_K (mg := C.mg) hcl F.gl.1 (O.gns.keeps I.g.keep) hcode' (N.hd.keeps I.g.keep) hoP trivial rfl N.g ⟨bm, ob, b1, b2, b3, b4, I.g.keep _ _ b5, b6⟩ fun c' ctv doc h' tk hx hge hlt hrec htb => ?_
  have J₁ : Inv C Γ κ env m (ab.1, ab.2.set j (.t true)) h' := by
    have hP : ∀ b, b ≠ P → ∀ o, s.heap.get? b = some o → h'.get? b = some o := fun b hb o e => hx b o hb e
    have g1 : InvG C κ (ab.2.set j (.t true)) h' := by
      have ne : ∀ {b : Addr} {k : Knd}, κ b = k → (∀ i, k ≠ .glo i) → b ≠ P := fun {b k} e n => by
        rintro rfl; exact n j (e.symm.trans kP)
      refine ⟨I.g.base, fun b q e => hx b q (ne e (by simp)) (I.g.frz b q e), fun b q e => hx b q (ne e (by simp)) (I.g.frn b q e), fun b i e => ?_, fun b e => ?_, I.g.gi⟩
      · by_cases q : b = P
        · subst q
          rw [kP] at e; cases e
          exact ⟨_, .t true, htb, by rw [List.getElem?_set_self']; rw [ej]; rfl, _, rfl, fun z => by cases z⟩
        · obtain ⟨o₁, gv₁, a1, a3, a4⟩ := I.g.glo b i e
          have ij : j ≠ i := by rintro rfl; exact q (I.g.gi.1 b P j e kP)
          exact ⟨o₁, gv₁, hx b _ q a1, by rw [List.getElem?_set_ne ij]; exact a3, a4⟩
      · by_cases q : b = P
        · subst q; exact ⟨_, htb⟩
        · obtain ⟨o, ho⟩ := I.g.al b e
          exact ⟨o, hx b o q ho⟩
    refine Inv.keep (ρ := ab.1) (G := ab.2) I g1 (Le.refl κ) fun b e => ⟨rfl, ?_⟩
    obtain ⟨o, ho⟩ := I.g.al b (by intro z; rw [z] at e; cases e)
    exact (hx b o (by rintro rfl; rw [kP] at e; cases e) ho).trans ho.symm
  obtain ⟨cc, oc, vs, tq, ec, hoc, hdc, hvc⟩ := hrec
  cases ec
  have kc' : κ c' = .no := by
    cases q : κ c' with
    | no => rfl
    | _ => exact absurd (I.g.lt c' (by rw [q]; simp)) (Nat.not_lt.mpr hge)
  generalize hfo : fnMade D.name (qualnameIn env D.name D.name) D.params D.body D.scope cl doc ((C.mg "__name__").getD .none) c' ctv = fo
  have hfree' : fo.isFreed = false := by rw [← hfo]; rfl
  obtain ⟨J₂, l₂⟩ := J₁.mark (k := .frz oc) kc' ⟨_, hoc⟩ (fun _ e => by cases e; exact hoc) (fun _ e => by cases e) (fun _ e => by cases e)
  obtain ⟨l₃, k₃, I₃⟩ := made J₂.g fo hfree'
  have J₃ := J₂.keep I₃ l₃ k₃
  have own : ∀ p ∈ cl, κ p.2 = .cell p.1 := fun p hp => by
    have hm : p.1 ∈ D.caps := by rw [← hnm]; exact List.mem_map.mpr ⟨p, hp, rfl⟩
    exact F.own K.top p.1 p.2 (by rw [kOf]; exact beq_iff_eq.mp (cells _ hm)) (hlk p hp)
  have kcell : ∀ {b : Addr} {x : Str}, κ b = .cell x → put (put κ c' (.frz oc)) h'.objs.size (.frz fo) b = .cell x := fun {b x} e => by
    have n1 : b ≠ c' := by rintro rfl; rw [kc'] at e; cases e
    have n2 : b ≠ h'.objs.size := by
      rintro rfl
      have := J₂.g.free
      rw [put_ne _ _ n1, e] at this; cases this
    rw [put_ne _ _ n2, put_ne _ _ n1]; exact e
  have hcisl : cis.length = D.caps.length := by have := congrArg List.length K.cis; simpa using this
  have hcll : cl.length = D.caps.length := by rw [← hnm, List.length_map]
  obtain ⟨κ₄, l₄, J₄, hcr, hoff⟩ := freeze_cells (Γ := Γ) (cl := cl) (cs := l) J₃.below (by rw [hnm]; exact K.nd) (fun p hp => kcell (own p hp)) (by rw [valsAt_len el]; lia) (fun n p mv e e' => by
    have hx' : D.caps[n]? = some p.1 := by rw [← hnm, List.getElem?_map, e]; rfl
    cases ec : cis[n]? with
    | none =>
      have := List.getElem?_eq_none_iff.mp ec
      have := (List.getElem?_eq_some_iff.mp hx').1
      lia
    | some q =>
      obtain ⟨mv', e1, e2⟩ := valsAt_at el ec
      rw [e'] at e1; cases e1
      have hxq : Γ.xs[q]? = some p.1 := by
        have := congrArg (fun l => l[n]?) K.cis
        simp only [List.getElem?_map, ec, hx', Option.map_some] at this
        exact Option.some.inj this
      obtain ⟨v, hm, hr⟩ := J₃.f.slots q p.1 _ hxq e2
      have hcx : p.1 ∈ D.caps := List.mem_of_getElem? hx'
      obtain ⟨b, hb, hc, _⟩ := J₃.f.cel p.1 (.inl (by rw [kOf]; exact beq_iff_eq.mp (cells _ hcx)))
      rw [hlk p (List.mem_of_getElem? e)] at hb; cases hb
      exact ⟨v, hm ▸ hc, hr⟩)
  have hv : VR C κ₄ (.ref h'.objs.size) (.clo k l) := by
    refine .clo (l₄.frz _ _ (put_self ..)) ((l₃.trans l₄).frz _ _ (put_self ..)) (hC fo cl c' oc ⟨fnX D.name (qualnameIn env D.name D.name) D.params D.body D.scope cl .none .none doc ((C.mg "__name__").getD .none) none (.ref c') ctv, by rw [← hfo], rfl, rfl, rfl, rfl, rfl, rfl, ⟨vs, tq, hdc, hvc⟩, hnm, fun s vs hl => hbind _ _ _ _ _ _ s vs hl⟩) hcr
  have hfn : env.scope.kind = .function := by rw [F.scope]; exact F.fn
  have F₄ := J₄.f
  rcases K.xk with hk | hk
  · exact store_slot (s := { s with heap := h'.push fo, toks := tk }) J₄ (by exact K.xi) (.inl hk) (sl := .val (.clo k l)) ⟨_, rfl, hv⟩ fun m' h₅ t₅ J₅ _ => h m' h₅ t₅ κ₄ ((l₂.trans l₃).trans l₄) J₅
  · obtain ⟨b, hb, _⟩ := F.cel D.name (.inl (by rw [kOf]; exact hk))
    have kb := F.own K.top D.name b (by rw [kOf]; exact hk) hb
    have kb₄ : κ₄ b = .cell D.name := by
      rw [hoff b (fun x hx => by
        rw [kcell kb]
        rintro e; cases e
        rw [hnm] at hx; exact K.xc hx), kcell kb]
    exact store_cell (s := { s with heap := h'.push fo, toks := tk }) J₄ (by exact K.xi) hk hb kb₄ (sl := .val (.clo k l)) ⟨_, rfl, hv⟩ fun m' h₅ t₅ J₅ => h m' h₅ t₅ κ₄ ((l₂.trans l₃).trans l₄) J₅
end
end Mine
end

section
namespace Mine
open PySem PySem.Calls PyProof.Rows PySem.W
section
variable {C : Ctx} {Γ : Frm} {d : Nat}
noncomputable def fD0 (ab : Ab) : Option (MV × Ab) := some (.dct [], ab)
theorem se_dict0 {pos : Pos} : SE C Γ d (.Dict [] [] pos) fD0 := by
  intro A env κ m ab ab' s r Q E R I hq k
  cases hq
  obtain ⟨l₂, k₂, I₂⟩ := made I.g { cls := .type "dict", data := .dict #[] } rfl
  refine wpAny_Dict_empty ?_
  obtain ⟨o, ho, hd⟩ := Heap.dictOf_iff.mp (Heap.DictOf.new (knd := strKind C.prog C.w) s.heap)
  have eE : o = { cls := .type "dict", data := .dict #[] } := Option.some.inj (ho.symm.trans (Heap.get?_push_size s.heap (o := { cls := .type "dict", data := .dict #[] }) rfl))
  subst eE
  exact k _ _ s.toks _ l₂ (.dct (put_self ..) hd .nil) (I.keep I₂ l₂ k₂)
theorem se_and3 {e₁ e₂ e₃ : Expr} {pos : Pos} {f g h : Ab → Option (MV × Ab)} (hf : SE C Γ d e₁ f) (hg : SE C Γ d e₂ g) (hh : SE C Γ d e₃ h) : SE C Γ d (.BoolOp .And [e₁, e₂, e₃] pos) (fAnd f (fAnd g h)) := by
  have h23 : SE C Γ d (.BoolOp .And [e₂, e₃] pos) (fAnd g h) := se_and hg hh
  intro A env κ m ab ab' s r Q E R I hq k
  show wpAny _ A (do
    let v ← eval e₁ env
    standAt pos
    let t ← holding [v] (truthy v)
    match BoolOp.And, t with
    | .And, false | .Or, true => pure v
    | _, _ => boolOp pos .And [eval e₂ env, eval e₃ env]) Q E s
  unfold fAnd at hq
  split at hq
  · rename_i ab₁ e1
    refine wpAny_bind (hf R I e1 fun v h' t' κ' l hv I' => wpAny_bind (wpAny_standAt (wpAny_bind (wpAny_holding ?_))))
    cases hv
    refine wpAny_truthy_bool ?_
    exact h23 R I' hq fun v₂ h₂ t₂ κ₂ l₂ hv₂ I₂ => k v₂ h₂ t₂ κ₂ (l.trans l₂) hv₂ I₂
  · rename_i ab₁ e1
    cases hq
    refine wpAny_bind (hf R I e1 fun v h' t' κ' l hv I' => wpAny_bind (wpAny_standAt (wpAny_bind (wpAny_holding ?_))))
    cases hv
    exact wpAny_truthy_bool (wpAny_pure (k _ h' t' κ' l (.bool _) I'))
  · exact ns9 hq
theorem Disp.le {name : Str} {D : Nat → Option (List MV → Gst → Option (MV × Gst))} {d' : Nat} (h : Disp C d name D) (l : d ≤ d') : Disp C d' name D := fun c sp e =>
  let ⟨a, h1, h2, h3, h4, h5, h6, h7⟩ := h c sp e
  ⟨a, h1, h2, h3, h4, h5, h6, h7.le l⟩
theorem SCC.le {spec : Nat → List MV → List MV → Gst → Option (MV × Gst)} {d' : Nat} (h : SCC C d spec) (l : d ≤ d') : SCC C d' spec := by
  intro A κ G G' s xs k ms cs r R a hR
  exact h (hR.le l)
end
noncomputable def specOf (n k : Nat) (F : Ab → Option (Fl × Ab)) (ms : List MV) (G : Gst) : Option (MV × Gst) := if ms.length = n then finish (F (start ms k, G)) else none
noncomputable def clsSpec (c : Nat) (ms : List MV) (G : Gst) : Option (MV × Gst) := if ms.length = (flds c).length then some (.obj c ms, G) else none
noncomputable def N : Nat := 1000
noncomputable def RUN : Nat := 40
noncomputable def sizes : List (Str × MV) := [("A", .int 0), ("B", .int 1), ("C", .int 2), ("D", .int 3)]
noncomputable def noSt : Stmt := .Pass ⟨0, 0, 0, 0⟩
noncomputable def stAt (i : Nat) : Stmt := (PySem.Challenge.pw_og0016_01.main.body[i]?).getD noSt
noncomputable def fBody : Stmt → List Stmt
  | .FunctionDef _ _ b _ _ _ _ _ _ _ => b
  | _ => []
noncomputable def fScope : Stmt → Scope
  | .FunctionDef _ _ _ _ _ _ s _ _ _ => s
  | _ => default
noncomputable def fParams : Stmt → Arguments
  | .FunctionDef _ a _ _ _ _ _ _ _ _ => a
  | _ => default
noncomputable def within (s : Stmt) (j : Nat) : Stmt := match s with
  | .ClassDef _ _ _ b _ _ _ _ _ _ _ => (b[j]?).getD noSt
  | .FunctionDef _ _ b _ _ _ _ _ _ _ => (b[j]?).getD noSt
  | .If _ _ b _ => (b[j]?).getD noSt
  | _ => noSt
noncomputable def D0 : CloDef := ⟨"go_on", fParams (within (stAt 23) 2), fBody (within (stAt 23) 2), fScope (within (stAt 23) 2), ["body"], ["join", "fresh"], ["name"]⟩
noncomputable def D1 : CloDef := ⟨"go_on", fParams (within (within (stAt 24) 5) 0), fBody (within (within (stAt 24) 5) 0), fScope (within (within (stAt 24) 5) 0), ["body"], ["fresh", "expr"], []⟩
end Mine
end

section
namespace Mine
open PySem PySem.W PyProof.Rows PySem.Calls
noncomputable def kS (x : String) (n : Nat) : Value := .str (Str.ofString x) n
noncomputable def kE (P : Params) (x : String) (n : Nat) (v : Value) : DictEntry := { hash := PyData.keyHash P (Str.ofString x), key := kS x n, val := v }
noncomputable def kT (l : List Value) : Obj := { cls := .type "tuple", data := .seq l.toArray }
noncomputable def kO (c : Value) (l : List Value) : Obj := { cls := c, data := .fields l.toArray }
noncomputable def kD (c : Value) (l : List DictEntry) (n : Nat) : Obj := { cls := c, data := .dict l.toArray n }
noncomputable def kC (a : String) (n1 : Nat) (b : String) (n2 n3 : Nat) (l x x4 : Int) (r1 : Addr) (g : Bool) (z : Int) (r2 r3 r4 r5 : Addr) (y : Int) (n4 : Nat) : Obj :=
  kO (.type "code") [kS a n1, kS b n2, kS "/claim/cut.py" n3, .int l 0, .int x 0, .int 0 0, .int 0 0, .int x4 0, .ref r1, .bool g, .int z 0, .ref r2, .none, .ref r3, .ref r4, .ref r5, .int y 0, .int l 0, kS "/claim/cut.py" n4]
noncomputable def kG (a b : String) (s : Stmt) (d kd doc m c : Value) : Obj :=
  { cls := .type "function", data := .func { name := Str.ofString a, qualname := Str.ofString b, params := fParams s, body := .stmts (fBody s), scope := fScope s, globals := 3, closure := [], defaults := d, kwdefaults := kd, doc, pyModule := m, code := c } }
noncomputable def kF (a b : String) (s : Stmt) (m : String) (n : Nat) (c : Addr) : Obj := kG a b s .none .none .none (kS m n) (.ref c)
noncomputable def kK (a b : String) (bs mro : List Value) (ns : Addr) (sl : List (Option Value)) : Obj :=
  { cls := .type "type", data := .cls { name := Str.ofString a, bases := bs, mro, ns, qualname := Str.ofString b }, slots := sl.toArray }
noncomputable def kP (P : Params) : Frag := [
  (2, kD .none [] 0),
  (3, kD (.type "dict") [kE P "__name__" 165 (kS "law_og0016_01" 854), kE P "__doc__" 166 .none, kE P "__package__" 167 .none, kE P "__loader__" 168 (.builtin "__main__.__loader__#opaque"), kE P "__spec__" 169 .none, kE P "__annotations__" 170 (.ref 6), kE P "__builtins__" 171 (.ref 4), kE P "__file__" 173 (kS "/claim/cut.py" 172), kE P "__cached__" 174 .none, kE P "Var" 240 (.ref 52), kE P "Lit" 294 (.ref 94), kE P "App" 347 (.ref 134), kE P "Lam" 401 (.ref 176), kE P "Let" 452 (.ref 212), kE P "Alt" 485 (.ref 233), kE P "Case" 546 (.ref 273), kE P "Con" 599 (.ref 313), kE P "Renamer" 681 (.ref 360), kE P "renamed" 689 (.ref 371), kE P "size_of" 704 (.ref 378), kE P "fields_bound" 712 (.ref 383), kE P "with_lets" 721 (.ref 390), kE P "way_of_con" 730 (.ref 397), kE P "known_con" 736 (.ref 402), kE P "known_lit" 747 (.ref 409), kE P "known_case" 756 (.ref 416), kE P "case_of_let" 765 (.ref 423), kE P "outer_case" 775 (.ref 430), kE P "joined" 788 (.ref 437), kE P "case_of_case" 794 (.ref 442), kE P "base_of" 804 (.ref 449), kE P "Fresh" 853 (.ref 482), kE P "_law_next" 864 (.ref 493), kE P "_law_pen" 873 (.ref 500), kE P "_law_sizes" 886 (.ref 501), kE P "_law_atom" 896 (.ref 508), kE P "_law_cell" 902 (.ref 513), kE P "_law_end" 908 (.ref 518), kE P "_law_outer" 921 (.ref 525), kE P "_law_inner" 931 (.ref 532), kE P "_law_run" 937 (.ref 537), kE P "_law_within_lets" 944 (.ref 544), kE P "_law_alike" 956 (.ref 551), kE P "law" 973 (.ref 558)] 44),
  (22, kT []),
  (24, kT [(kS "self" 204), (kS "name" 205)]),
  (25, kT []),
  (27, kC "__init__" 201 "Var.__init__" 202 203 4 2 3 22 true 181 23 24 25 26 206 207),
  (28, kF "__init__" "Var.__init__" (within (stAt 1) 0) "lazycore.core" 187 27),
  (29, kT []),
  (31, kT [(kS "self" 212)]),
  (32, kT []),
  (34, kC "groups" 209 "Var.groups" 210 211 7 1 3 29 true 181 30 31 32 33 213 214),
  (35, kF "groups" "Var.groups" (within (stAt 1) 1) "lazycore.core" 187 34),
  (36, kT []),
  (38, kT [(kS "self" 219)]),
  (39, kT []),
  (41, kC "parts" 216 "Var.parts" 217 218 10 1 3 36 true 181 37 38 39 40 220 221),
  (42, kF "parts" "Var.parts" (within (stAt 1) 2) "lazycore.core" 187 41),
  (43, kT []),
  (45, kT [(kS "self" 226), (kS "groups" 227), (kS "parts" 228)]),
  (46, kT []),
  (48, kC "rebuilt" 223 "Var.rebuilt" 224 225 13 3 3 43 true 181 44 45 46 47 229 230),
  (49, kF "rebuilt" "Var.rebuilt" (within (stAt 1) 3) "lazycore.core" 187 48),
  (50, kT [(kS "name" 232)]),
  (51, kD (.type "dict") [kE P "__module__" 196 (kS "lazycore.core" 187), kE P "__firstlineno__" 200 (.int 2 199), kE P "__init__" 208 (.ref 28), kE P "groups" 215 (.ref 35), kE P "parts" 222 (.ref 42), kE P "rebuilt" 231 (.ref 49), kE P "__static_attributes__" 233 (.ref 50), kE P "__dict__" 235 (.ref 53), kE P "__weakref__" 237 (.ref 54), kE P "__doc__" 238 .none] 4),
  (52, kK "Var" "Var" [(.type "object")] [(.ref 52), (.type "object")] 51 [none, none, some (kS "Var" 189), some (kS "Var" 197), some (.builtin "object.__new__"), some (.bool true)]),
  (53, kO (.type "getset_descriptor") [(kS "__dict__" 234), (.ref 52), (.builtin "function.__dict__"), (.builtin "function.__dict__#set")]),
  (54, kO (.type "getset_descriptor") [(kS "__weakref__" 236), (.ref 52), (.builtin "ExceptionGroup.__weakref__"), .none]),
  (64, kT []),
  (66, kT [(kS "self" 256), (kS "kind" 257), (kS "value" 258)]),
  (67, kT []),
  (69, kC "__init__" 253 "Lit.__init__" 254 255 17 3 3 64 true 181 65 66 67 68 259 260),
  (70, kF "__init__" "Lit.__init__" (within (stAt 2) 0) "lazycore.core" 187 69),
  (71, kT []),
  (73, kT [(kS "self" 265)]),
  (74, kT []),
  (76, kC "groups" 262 "Lit.groups" 263 264 21 1 3 71 true 181 72 73 74 75 266 267),
  (77, kF "groups" "Lit.groups" (within (stAt 2) 1) "lazycore.core" 187 76),
  (78, kT []),
  (80, kT [(kS "self" 272)]),
  (81, kT []),
  (83, kC "parts" 269 "Lit.parts" 270 271 24 1 3 78 true 181 79 80 81 82 273 274),
  (84, kF "parts" "Lit.parts" (within (stAt 2) 2) "lazycore.core" 187 83),
  (85, kT []),
  (87, kT [(kS "self" 279), (kS "groups" 280), (kS "parts" 281)]),
  (88, kT []),
  (90, kC "rebuilt" 276 "Lit.rebuilt" 277 278 27 3 3 85 true 181 86 87 88 89 282 283),
  (91, kF "rebuilt" "Lit.rebuilt" (within (stAt 2) 3) "lazycore.core" 187 90),
  (92, kT [(kS "kind" 285), (kS "value" 286)]),
  (93, kD (.type "dict") [kE P "__module__" 248 (kS "lazycore.core" 187), kE P "__firstlineno__" 252 (.int 15 251), kE P "__init__" 261 (.ref 70), kE P "groups" 268 (.ref 77), kE P "parts" 275 (.ref 84), kE P "rebuilt" 284 (.ref 91), kE P "__static_attributes__" 287 (.ref 92), kE P "__dict__" 289 (.ref 95), kE P "__weakref__" 291 (.ref 96), kE P "__doc__" 292 .none] 4),
  (94, kK "Lit" "Lit" [(.type "object")] [(.ref 94), (.type "object")] 93 [none, none, some (kS "Lit" 241), some (kS "Lit" 249), some (.builtin "object.__new__"), some (.bool true)]),
  (95, kO (.type "getset_descriptor") [(kS "__dict__" 288), (.ref 94), (.builtin "function.__dict__"), (.builtin "function.__dict__#set")]),
  (96, kO (.type "getset_descriptor") [(kS "__weakref__" 290), (.ref 94), (.builtin "ExceptionGroup.__weakref__"), .none]),
  (106, kT []),
  (108, kT [(kS "self" 310), (kS "fun" 311), (kS "args" 312)]),
  (109, kT []),
  (111, kC "__init__" 307 "App.__init__" 308 309 31 3 3 106 true 181 107 108 109 110 313 314),
  (112, kF "__init__" "App.__init__" (within (stAt 3) 0) "lazycore.core" 187 111),
  (113, kT []),
  (115, kT [(kS "self" 319)]),
  (116, kT []),
  (118, kC "groups" 316 "App.groups" 317 318 35 1 3 113 true 181 114 115 116 117 320 321),
  (119, kF "groups" "App.groups" (within (stAt 3) 1) "lazycore.core" 187 118),
  (120, kT []),
  (123, kO (.type "code") [(kS "parts" 323), (kS "App.parts" 324), (kS "/claim/cut.py" 325), (.int 38 0), (.int 1 0), (.int 0 0), (.int 0 0), (.int 3 0), (.ref 120), (.bool true), (.int 181 0), (.ref 121), .none, .none, .none, (.ref 122), (.int 326 0), (.int 38 0), (kS "/claim/cut.py" 327)]),
  (124, kF "parts" "App.parts" (within (stAt 3) 2) "lazycore.core" 187 123),
  (125, kT []),
  (127, kT [(kS "self" 332), (kS "groups" 333), (kS "parts" 334)]),
  (128, kT []),
  (130, kC "rebuilt" 329 "App.rebuilt" 330 331 41 3 3 125 true 181 126 127 128 129 335 336),
  (131, kF "rebuilt" "App.rebuilt" (within (stAt 3) 3) "lazycore.core" 187 130),
  (132, kT [(kS "args" 338), (kS "fun" 339)]),
  (133, kD (.type "dict") [kE P "__module__" 302 (kS "lazycore.core" 187), kE P "__firstlineno__" 306 (.int 29 305), kE P "__init__" 315 (.ref 112), kE P "groups" 322 (.ref 119), kE P "parts" 328 (.ref 124), kE P "rebuilt" 337 (.ref 131), kE P "__static_attributes__" 340 (.ref 132), kE P "__dict__" 342 (.ref 135), kE P "__weakref__" 344 (.ref 136), kE P "__doc__" 345 .none] 4),
  (134, kK "App" "App" [(.type "object")] [(.ref 134), (.type "object")] 133 [none, none, some (kS "App" 295), some (kS "App" 303), some (.builtin "object.__new__"), some (.bool true)]),
  (135, kO (.type "getset_descriptor") [(kS "__dict__" 341), (.ref 134), (.builtin "function.__dict__"), (.builtin "function.__dict__#set")]),
  (136, kO (.type "getset_descriptor") [(kS "__weakref__" 343), (.ref 134), (.builtin "ExceptionGroup.__weakref__"), .none]),
  (146, kT []),
  (148, kT [(kS "self" 363), (kS "params" 364), (kS "body" 365)]),
  (149, kT []),
  (151, kC "__init__" 360 "Lam.__init__" 361 362 45 3 3 146 true 181 147 148 149 150 366 367),
  (152, kF "__init__" "Lam.__init__" (within (stAt 4) 0) "lazycore.core" 187 151),
  (153, kT []),
  (155, kT [(kS "self" 372)]),
  (156, kT []),
  (158, kC "groups" 369 "Lam.groups" 370 371 49 1 3 153 true 181 154 155 156 157 373 374),
  (159, kF "groups" "Lam.groups" (within (stAt 4) 1) "lazycore.core" 187 158),
  (160, kT []),
  (162, kT [(kS "self" 379)]),
  (163, kT []),
  (165, kC "parts" 376 "Lam.parts" 377 378 52 1 3 160 true 181 161 162 163 164 380 381),
  (166, kF "parts" "Lam.parts" (within (stAt 4) 2) "lazycore.core" 187 165),
  (167, kT []),
  (169, kT [(kS "self" 386), (kS "groups" 387), (kS "parts" 388)]),
  (170, kT []),
  (172, kC "rebuilt" 383 "Lam.rebuilt" 384 385 55 3 3 167 true 181 168 169 170 171 389 390),
  (173, kF "rebuilt" "Lam.rebuilt" (within (stAt 4) 3) "lazycore.core" 187 172),
  (174, kT [(kS "body" 392), (kS "params" 393)]),
  (175, kD (.type "dict") [kE P "__module__" 355 (kS "lazycore.core" 187), kE P "__firstlineno__" 359 (.int 43 358), kE P "__init__" 368 (.ref 152), kE P "groups" 375 (.ref 159), kE P "parts" 382 (.ref 166), kE P "rebuilt" 391 (.ref 173), kE P "__static_attributes__" 394 (.ref 174), kE P "__dict__" 396 (.ref 177), kE P "__weakref__" 398 (.ref 178), kE P "__doc__" 399 .none] 4),
  (176, kK "Lam" "Lam" [(.type "object")] [(.ref 176), (.type "object")] 175 [none, none, some (kS "Lam" 348), some (kS "Lam" 356), some (.builtin "object.__new__"), some (.bool true)]),
  (177, kO (.type "getset_descriptor") [(kS "__dict__" 395), (.ref 176), (.builtin "function.__dict__"), (.builtin "function.__dict__#set")]),
  (178, kO (.type "getset_descriptor") [(kS "__weakref__" 397), (.ref 176), (.builtin "ExceptionGroup.__weakref__"), .none]),
  (188, kT []),
  (190, kT [(kS "self" 417), (kS "binds" 418), (kS "body" 419), (kS "is_rec" 420)]),
  (191, kT []),
  (193, kC "__init__" 414 "Let.__init__" 415 416 59 4 3 188 true 181 189 190 191 192 421 422),
  (194, kF "__init__" "Let.__init__" (within (stAt 5) 0) "lazycore.core" 187 193),
  (195, kT []),
  (198, kO (.type "code") [(kS "groups" 424), (kS "Let.groups" 425), (kS "/claim/cut.py" 426), (.int 64 0), (.int 1 0), (.int 0 0), (.int 0 0), (.int 3 0), (.ref 195), (.bool true), (.int 181 0), (.ref 196), .none, .none, .none, (.ref 197), (.int 427 0), (.int 64 0), (kS "/claim/cut.py" 428)]),
  (199, kF "groups" "Let.groups" (within (stAt 5) 1) "lazycore.core" 187 198),
  (200, kT []),
  (203, kO (.type "code") [(kS "parts" 430), (kS "Let.parts" 431), (kS "/claim/cut.py" 432), (.int 67 0), (.int 1 0), (.int 0 0), (.int 0 0), (.int 3 0), (.ref 200), (.bool true), (.int 181 0), (.ref 201), .none, .none, .none, (.ref 202), (.int 433 0), (.int 67 0), (kS "/claim/cut.py" 434)]),
  (204, kF "parts" "Let.parts" (within (stAt 5) 2) "lazycore.core" 187 203),
  (205, kT []),
  (208, kO (.type "code") [(kS "rebuilt" 436), (kS "Let.rebuilt" 437), (kS "/claim/cut.py" 438), (.int 71 0), (.int 3 0), (.int 0 0), (.int 0 0), (.int 3 0), (.ref 205), (.bool true), (.int 181 0), (.ref 206), .none, .none, .none, (.ref 207), (.int 439 0), (.int 71 0), (kS "/claim/cut.py" 440)]),
  (209, kF "rebuilt" "Let.rebuilt" (within (stAt 5) 3) "lazycore.core" 187 208),
  (210, kT [(kS "binds" 442), (kS "body" 443), (kS "is_rec" 444)]),
  (211, kD (.type "dict") [kE P "__module__" 409 (kS "lazycore.core" 187), kE P "__firstlineno__" 413 (.int 57 412), kE P "__init__" 423 (.ref 194), kE P "groups" 429 (.ref 199), kE P "parts" 435 (.ref 204), kE P "rebuilt" 441 (.ref 209), kE P "__static_attributes__" 445 (.ref 210), kE P "__dict__" 447 (.ref 213), kE P "__weakref__" 449 (.ref 214), kE P "__doc__" 450 .none] 4),
  (212, kK "Let" "Let" [(.type "object")] [(.ref 212), (.type "object")] 211 [none, none, some (kS "Let" 402), some (kS "Let" 410), some (.builtin "object.__new__"), some (.bool true)]),
  (213, kO (.type "getset_descriptor") [(kS "__dict__" 446), (.ref 212), (.builtin "function.__dict__"), (.builtin "function.__dict__#set")]),
  (214, kO (.type "getset_descriptor") [(kS "__weakref__" 448), (.ref 212), (.builtin "ExceptionGroup.__weakref__"), .none]),
  (224, kT []),
  (226, kT [(kS "self" 468), (kS "key" 469), (kS "names" 470), (kS "body" 471)]),
  (227, kT []),
  (229, kC "__init__" 465 "Alt.__init__" 466 467 76 4 3 224 true 181 225 226 227 228 472 473),
  (230, kF "__init__" "Alt.__init__" (within (stAt 6) 0) "lazycore.core" 187 229),
  (231, kT [(kS "body" 475), (kS "key" 476), (kS "names" 477)]),
  (232, kD (.type "dict") [kE P "__module__" 460 (kS "lazycore.core" 187), kE P "__firstlineno__" 464 (.int 74 463), kE P "__init__" 474 (.ref 230), kE P "__static_attributes__" 478 (.ref 231), kE P "__dict__" 480 (.ref 234), kE P "__weakref__" 482 (.ref 235), kE P "__doc__" 483 .none] 4),
  (233, kK "Alt" "Alt" [(.type "object")] [(.ref 233), (.type "object")] 232 [none, none, some (kS "Alt" 453), some (kS "Alt" 461), some (.builtin "object.__new__"), some (.bool true)]),
  (234, kO (.type "getset_descriptor") [(kS "__dict__" 479), (.ref 233), (.builtin "function.__dict__"), (.builtin "function.__dict__#set")]),
  (235, kO (.type "getset_descriptor") [(kS "__weakref__" 481), (.ref 233), (.builtin "ExceptionGroup.__weakref__"), .none]),
  (245, kT []),
  (247, kT [(kS "self" 501), (kS "value" 502), (kS "name" 503), (kS "alts" 504), (kS "other" 505)]),
  (248, kT []),
  (250, kC "__init__" 498 "Case.__init__" 499 500 82 5 3 245 true 181 246 247 248 249 506 507),
  (251, kF "__init__" "Case.__init__" (within (stAt 7) 0) "lazycore.core" 187 250),
  (252, kT []),
  (255, kO (.type "code") [(kS "groups" 509), (kS "Case.groups" 510), (kS "/claim/cut.py" 511), (.int 88 0), (.int 1 0), (.int 0 0), (.int 0 0), (.int 3 0), (.ref 252), (.bool true), (.int 181 0), (.ref 253), .none, .none, .none, (.ref 254), (.int 512 0), (.int 88 0), (kS "/claim/cut.py" 513)]),
  (256, kF "groups" "Case.groups" (within (stAt 7) 1) "lazycore.core" 187 255),
  (257, kT []),
  (259, kT [(kS "self" 518), (kS "found" 519), (kS "at" 520)]),
  (260, kT []),
  (262, kC "parts" 515 "Case.parts" 516 517 91 1 3 257 true 181 258 259 260 261 521 522),
  (263, kF "parts" "Case.parts" (within (stAt 7) 2) "lazycore.core" 187 262),
  (264, kT []),
  (266, kT [(kS "self" 527), (kS "groups" 528), (kS "parts" 529), (kS "alts" 530), (kS "at" 531)]),
  (267, kT []),
  (269, kC "rebuilt" 524 "Case.rebuilt" 525 526 97 3 3 264 true 181 265 266 267 268 532 533),
  (270, kF "rebuilt" "Case.rebuilt" (within (stAt 7) 3) "lazycore.core" 187 269),
  (271, kT [(kS "alts" 535), (kS "name" 536), (kS "other" 537), (kS "value" 538)]),
  (272, kD (.type "dict") [kE P "__module__" 493 (kS "lazycore.core" 187), kE P "__firstlineno__" 497 (.int 80 496), kE P "__init__" 508 (.ref 251), kE P "groups" 514 (.ref 256), kE P "parts" 523 (.ref 263), kE P "rebuilt" 534 (.ref 270), kE P "__static_attributes__" 539 (.ref 271), kE P "__dict__" 541 (.ref 274), kE P "__weakref__" 543 (.ref 275), kE P "__doc__" 544 .none] 4),
  (273, kK "Case" "Case" [(.type "object")] [(.ref 273), (.type "object")] 272 [none, none, some (kS "Case" 486), some (kS "Case" 494), some (.builtin "object.__new__"), some (.bool true)]),
  (274, kO (.type "getset_descriptor") [(kS "__dict__" 540), (.ref 273), (.builtin "function.__dict__"), (.builtin "function.__dict__#set")]),
  (275, kO (.type "getset_descriptor") [(kS "__weakref__" 542), (.ref 273), (.builtin "ExceptionGroup.__weakref__"), .none]),
  (285, kT []),
  (287, kT [(kS "self" 562), (kS "name" 563), (kS "args" 564)]),
  (288, kT []),
  (290, kC "__init__" 559 "Con.__init__" 560 561 104 3 3 285 true 181 286 287 288 289 565 566),
  (291, kF "__init__" "Con.__init__" (within (stAt 8) 0) "lazycore.core" 187 290),
  (292, kT []),
  (294, kT [(kS "self" 571)]),
  (295, kT []),
  (297, kC "groups" 568 "Con.groups" 569 570 108 1 3 292 true 181 293 294 295 296 572 573),
  (298, kF "groups" "Con.groups" (within (stAt 8) 1) "lazycore.core" 187 297),
  (299, kT []),
  (302, kO (.type "code") [(kS "parts" 575), (kS "Con.parts" 576), (kS "/claim/cut.py" 577), (.int 111 0), (.int 1 0), (.int 0 0), (.int 0 0), (.int 3 0), (.ref 299), (.bool true), (.int 181 0), (.ref 300), .none, .none, .none, (.ref 301), (.int 578 0), (.int 111 0), (kS "/claim/cut.py" 579)]),
  (303, kF "parts" "Con.parts" (within (stAt 8) 2) "lazycore.core" 187 302),
  (304, kT []),
  (306, kT [(kS "self" 584), (kS "groups" 585), (kS "parts" 586)]),
  (307, kT []),
  (309, kC "rebuilt" 581 "Con.rebuilt" 582 583 114 3 3 304 true 181 305 306 307 308 587 588),
  (310, kF "rebuilt" "Con.rebuilt" (within (stAt 8) 3) "lazycore.core" 187 309),
  (311, kT [(kS "args" 590), (kS "name" 591)]),
  (312, kD (.type "dict") [kE P "__module__" 554 (kS "lazycore.core" 187), kE P "__firstlineno__" 558 (.int 102 557), kE P "__init__" 567 (.ref 291), kE P "groups" 574 (.ref 298), kE P "parts" 580 (.ref 303), kE P "rebuilt" 589 (.ref 310), kE P "__static_attributes__" 592 (.ref 311), kE P "__dict__" 594 (.ref 314), kE P "__weakref__" 596 (.ref 315), kE P "__doc__" 597 .none] 4),
  (313, kK "Con" "Con" [(.type "object")] [(.ref 313), (.type "object")] 312 [none, none, some (kS "Con" 547), some (kS "Con" 555), some (.builtin "object.__new__"), some (.bool true)]),
  (314, kO (.type "getset_descriptor") [(kS "__dict__" 593), (.ref 313), (.builtin "function.__dict__"), (.builtin "function.__dict__#set")]),
  (315, kO (.type "getset_descriptor") [(kS "__weakref__" 595), (.ref 313), (.builtin "ExceptionGroup.__weakref__"), .none]),
  (325, kT []),
  (327, kT [(kS "self" 617), (kS "fresh" 618), (kS "instead" 619)]),
  (328, kT []),
  (330, kC "__init__" 614 "Renamer.__init__" 615 616 119 3 3 325 true 181 326 327 328 329 620 621),
  (331, kF "__init__" "Renamer.__init__" (within (stAt 10) 0) "lazycore.core_names" 600 330),
  (332, kT []),
  (335, kO (.type "code") [(kS "new_groups" 623), (kS "Renamer.new_groups" 624), (kS "/claim/cut.py" 625), (.int 123 0), (.int 2 0), (.int 0 0), (.int 0 0), (.int 3 0), (.ref 332), (.bool true), (.int 181 0), (.ref 333), .none, .none, .none, (.ref 334), (.int 626 0), (.int 123 0), (kS "/claim/cut.py" 627)]),
  (336, kF "new_groups" "Renamer.new_groups" (within (stAt 10) 1) "lazycore.core_names" 600 335),
  (337, kT []),
  (339, kT [(kS "self" 632), (kS "names" 633), (kS "scope" 634), (kS "groups" 635), (kS "news" 636), (kS "found" 637), (kS "number" 638), (kS "at" 639)]),
  (340, kT []),
  (342, kC "inner" 629 "Renamer.inner" 630 631 126 5 3 337 true 181 338 339 340 341 640 641),
  (343, kF "inner" "Renamer.inner" (within (stAt 10) 2) "lazycore.core_names" 600 342),
  (344, kT []),
  (346, kT [(kS "self" 646), (kS "node" 647), (kS "names" 648), (kS "found" 649)]),
  (347, kT []),
  (349, kC "leaf" 643 "Renamer.leaf" 644 645 135 3 3 344 true 181 345 346 347 348 650 651),
  (350, kF "leaf" "Renamer.leaf" (within (stAt 10) 3) "lazycore.core_names" 600 349),
  (351, kT []),
  (353, kT [(kS "self" 656), (kS "expr" 657), (kS "tasks" 658), (kS "done" 659), (kS "node" 660), (kS "names" 661), (kS "news" 662), (kS "parts" 663), (kS "groups" 664), (kS "part" 665), (kS "scope" 666), (kS "many" 667), (kS "found" 668)]),
  (354, kT []),
  (356, kC "run" 653 "Renamer.run" 654 655 143 2 3 351 true 181 352 353 354 355 669 670),
  (357, kF "run" "Renamer.run" (within (stAt 10) 4) "lazycore.core_names" 600 356),
  (358, kT [(kS "fresh" 672), (kS "instead" 673)]),
  (359, kD (.type "dict") [kE P "__module__" 609 (kS "lazycore.core_names" 600), kE P "__firstlineno__" 613 (.int 117 612), kE P "__init__" 622 (.ref 331), kE P "new_groups" 628 (.ref 336), kE P "inner" 642 (.ref 343), kE P "leaf" 652 (.ref 350), kE P "run" 671 (.ref 357), kE P "__static_attributes__" 674 (.ref 358), kE P "__dict__" 676 (.ref 361), kE P "__weakref__" 678 (.ref 362), kE P "__doc__" 679 .none] 4),
  (360, kK "Renamer" "Renamer" [(.type "object")] [(.ref 360), (.type "object")] 359 [none, none, some (kS "Renamer" 602), some (kS "Renamer" 610), some (.builtin "object.__new__"), some (.bool true)]),
  (361, kO (.type "getset_descriptor") [(kS "__dict__" 675), (.ref 360), (.builtin "function.__dict__"), (.builtin "function.__dict__#set")]),
  (362, kO (.type "getset_descriptor") [(kS "__weakref__" 677), (.ref 360), (.builtin "ExceptionGroup.__weakref__"), .none]),
  (365, kT []),
  (367, kT [(kS "expr" 685), (kS "fresh" 686)]),
  (368, kT []),
  (370, kC "renamed" 682 "renamed" 683 684 162 2 3 365 true 181 366 367 368 369 687 688),
  (371, kF "renamed" "renamed" (stAt 11) "lazycore.core_names" 600 370),
  (372, kT []),
  (374, kT [(kS "expr" 695), (kS "most" 696), (kS "many" 697), (kS "tasks" 698), (kS "node" 699), (kS "part" 700), (kS "scope" 701)]),
  (375, kT []),
  (377, kC "size_of" 692 "size_of" 693 694 165 2 3 372 true 181 373 374 375 376 702 703),
  (378, kF "size_of" "size_of" (stAt 13) "lazycore.core_walk" 690 377),
  (379, kT []),
  (382, kO (.type "code") [(kS "fields_bound" 707), (kS "fields_bound" 708), (kS "/claim/cut.py" 709), (.int 174 0), (.int 2 0), (.int 0 0), (.int 0 0), (.int 3 0), (.ref 379), (.bool true), (.int 181 0), (.ref 380), .none, .none, .none, (.ref 381), (.int 710 0), (.int 174 0), (kS "/claim/cut.py" 711)]),
  (383, kF "fields_bound" "fields_bound" (stAt 15) "lazycore.simplify_cases" 705 382),
  (384, kT []),
  (386, kT [(kS "rows" 716), (kS "body" 717), (kS "binds" 718)]),
  (387, kT []),
  (389, kC "with_lets" 713 "with_lets" 714 715 177 2 3 384 true 181 385 386 387 388 719 720),
  (390, kF "with_lets" "with_lets" (stAt 16) "lazycore.simplify_cases" 705 389),
  (391, kT []),
  (393, kT [(kS "case" 725), (kS "name" 726), (kS "alt" 727)]),
  (394, kT []),
  (396, kC "way_of_con" 722 "way_of_con" 723 724 182 2 3 391 true 181 392 393 394 395 728 729),
  (397, kF "way_of_con" "way_of_con" (stAt 17) "lazycore.simplify_cases" 705 396),
  (398, kT []),
  (401, kO (.type "code") [(kS "known_con" 731), (kS "known_con" 732), (kS "/claim/cut.py" 733), (.int 187 0), (.int 2 0), (.int 0 0), (.int 0 0), (.int 3 0), (.ref 398), (.bool true), (.int 181 0), (.ref 399), .none, .none, .none, (.ref 400), (.int 734 0), (.int 187 0), (kS "/claim/cut.py" 735)]),
  (402, kF "known_con" "known_con" (stAt 18) "lazycore.simplify_cases" 705 401),
  (403, kT []),
  (405, kT [(kS "expr" 740), (kS "fresh" 741), (kS "opened" 742), (kS "key" 743), (kS "alt" 744)]),
  (406, kT []),
  (408, kC "known_lit" 737 "known_lit" 738 739 196 2 3 403 true 181 404 405 406 407 745 746),
  (409, kF "known_lit" "known_lit" (stAt 19) "lazycore.simplify_cases" 705 408),
  (410, kT []),
  (412, kT [(kS "expr" 751), (kS "fresh" 752), (kS "opened" 753)]),
  (413, kT []),
  (415, kC "known_case" 748 "known_case" 749 750 203 2 3 410 true 181 411 412 413 414 754 755),
  (416, kF "known_case" "known_case" (stAt 20) "lazycore.simplify_cases" 705 415),
  (417, kT []),
  (419, kT [(kS "expr" 760), (kS "fresh" 761), (kS "let" 762)]),
  (420, kT []),
  (422, kC "case_of_let" 757 "case_of_let" 758 759 214 2 3 417 true 181 418 419 420 421 763 764),
  (423, kF "case_of_let" "case_of_let" (stAt 21) "lazycore.simplify_cases" 705 422),
  (424, kT []),
  (426, kT [(kS "expr" 769), (kS "value" 770), (kS "fresh" 771), (kS "opened" 772)]),
  (427, kT []),
  (429, kC "outer_case" 766 "outer_case" 767 768 219 3 3 424 true 181 425 426 427 428 773 774),
  (430, kF "outer_case" "outer_case" (stAt 22) "lazycore.simplify_cases" 705 429),
  (431, kT []),
  (433, kT [(kS "expr" 779), (kS "fresh" 780), (kS "value" 781), (kS "inner" 782), (kS "go_on" 783)]),
  (434, kT [(kS "fresh" 784), (kS "join" 785)]),
  (436, kC "joined" 776 "joined" 777 778 222 2 3 431 true 181 432 433 434 435 786 787),
  (437, kF "joined" "joined" (stAt 23) "lazycore.simplify_cases" 705 436),
  (438, kT []),
  (441, kO (.type "code") [(kS "case_of_case" 789), (kS "case_of_case" 790), (kS "/claim/cut.py" 791), (.int 230 0), (.int 3 0), (.int 0 0), (.int 0 0), (.int 3 0), (.ref 438), (.bool true), (.int 181 0), (.ref 439), .none, .none, .none, (.ref 440), (.int 792 0), (.int 230 0), (kS "/claim/cut.py" 793)]),
  (442, kF "case_of_case" "case_of_case" (stAt 24) "lazycore.simplify_cases" 705 441),
  (443, kT []),
  (445, kT [(kS "name" 800), (kS "at" 801)]),
  (446, kT []),
  (448, kC "base_of" 797 "base_of" 798 799 248 1 3 443 true 181 444 445 446 447 802 803),
  (449, kF "base_of" "base_of" (stAt 26) "lazycore.fresh" 795 448),
  (457, kT []),
  (458, kT [(.ref 457)]),
  (459, kT []),
  (461, kT [(kS "self" 820), (kS "avoided" 821)]),
  (462, kT []),
  (464, kC "__init__" 817 "Fresh.__init__" 818 819 253 2 3 459 true 181 460 461 462 463 822 823),
  (465, kG "__init__" "Fresh.__init__" (within (stAt 27) 0) (.ref 458) .none .none (kS "lazycore.fresh" 795) (.ref 464)),
  (466, kT []),
  (468, kT [(kS "self" 828), (kS "names" 829), (kS "name" 830)]),
  (469, kT []),
  (471, kC "avoid" 825 "Fresh.avoid" 826 827 258 2 3 466 true 181 467 468 469 470 831 832),
  (472, kF "avoid" "Fresh.avoid" (within (stAt 27) 1) "lazycore.fresh" 795 471),
  (473, kT []),
  (475, kT [(kS "self" 837), (kS "base" 838), (kS "told" 839), (kS "number" 840)]),
  (476, kT []),
  (478, kC "next" 834 "Fresh.next" 835 836 262 2 3 473 true 181 474 475 476 477 841 842),
  (479, kF "next" "Fresh.next" (within (stAt 27) 2) "lazycore.fresh" 795 478),
  (480, kT [(kS "avoided" 844), (kS "numbers" 845)]),
  (481, kD (.type "dict") [kE P "__module__" 812 (kS "lazycore.fresh" 795), kE P "__firstlineno__" 816 (.int 251 815), kE P "__init__" 824 (.ref 465), kE P "avoid" 833 (.ref 472), kE P "next" 843 (.ref 479), kE P "__static_attributes__" 846 (.ref 480), kE P "__dict__" 848 (.ref 483), kE P "__weakref__" 850 (.ref 484), kE P "__doc__" 851 .none] 4),
  (482, kK "Fresh" "Fresh" [(.type "object")] [(.ref 482), (.type "object")] 481 [none, none, some (kS "Fresh" 805), some (kS "Fresh" 813), some (.builtin "object.__new__"), some (.bool true)]),
  (483, kO (.type "getset_descriptor") [(kS "__dict__" 847), (.ref 482), (.builtin "function.__dict__"), (.builtin "function.__dict__#set")]),
  (484, kO (.type "getset_descriptor") [(kS "__weakref__" 849), (.ref 482), (.builtin "ExceptionGroup.__weakref__"), .none]),
  (487, kT []),
  (489, kT [(kS "pen" 859), (kS "many" 860), (kS "figure" 861)]),
  (490, kT []),
  (492, kC "_law_next" 856 "_law_next" 857 858 270 2 3 487 true 181 488 489 490 491 862 863),
  (493, kF "_law_next" "_law_next" (stAt 29) "law_og0016_01" 854 492),
  (494, kT []),
  (496, kT [(kS "script" 868), (kS "cell" 869), (kS "great" 870)]),
  (497, kT []),
  (499, kC "_law_pen" 865 "_law_pen" 866 867 277 1 3 494 true 181 495 496 497 498 871 872),
  (500, kF "_law_pen" "_law_pen" (stAt 30) "law_og0016_01" 854 499),
  (501, kD (.type "dict") [kE P "A" 874 (.int 0 875), kE P "B" 876 (.int 1 877), kE P "C" 878 (.int 2 879), kE P "D" 880 (.int 3 881)] 4),
  (502, kT []),
  (504, kT [(kS "pen" 890), (kS "names" 891), (kS "here" 892), (kS "at" 893)]),
  (505, kT []),
  (507, kC "_law_atom" 887 "_law_atom" 888 889 282 2 3 502 true 181 503 504 505 506 894 895),
  (508, kF "_law_atom" "_law_atom" (stAt 32) "law_og0016_01" 854 507),
  (509, kT []),
  (512, kO (.type "code") [(kS "_law_cell" 897), (kS "_law_cell" 898), (kS "/claim/cut.py" 899), (.int 286 0), (.int 2 0), (.int 0 0), (.int 0 0), (.int 3 0), (.ref 509), (.bool true), (.int 181 0), (.ref 510), .none, .none, .none, (.ref 511), (.int 900 0), (.int 286 0), (kS "/claim/cut.py" 901)]),
  (513, kF "_law_cell" "_law_cell" (stAt 33) "law_og0016_01" 854 512),
  (514, kT []),
  (517, kO (.type "code") [(kS "_law_end" 903), (kS "_law_end" 904), (kS "/claim/cut.py" 905), (.int 289 0), (.int 2 0), (.int 0 0), (.int 0 0), (.int 3 0), (.ref 514), (.bool true), (.int 181 0), (.ref 515), .none, .none, .none, (.ref 516), (.int 906 0), (.int 289 0), (kS "/claim/cut.py" 907)]),
  (518, kF "_law_end" "_law_end" (stAt 34) "law_og0016_01" 854 517),
  (519, kT []),
  (521, kT [(kS "pen" 912), (kS "value" 913), (kS "few" 914), (kS "own" 915), (kS "alts" 916), (kS "name" 917), (kS "fields" 918)]),
  (522, kT []),
  (524, kC "_law_outer" 909 "_law_outer" 910 911 291 3 3 519 true 181 520 521 522 523 919 920),
  (525, kF "_law_outer" "_law_outer" (stAt 35) "law_og0016_01" 854 524),
  (526, kT []),
  (528, kT [(kS "pen" 925), (kS "own" 926), (kS "alts" 927), (kS "other" 928)]),
  (529, kT []),
  (531, kC "_law_inner" 922 "_law_inner" 923 924 301 1 3 526 true 181 527 528 529 530 929 930),
  (532, kF "_law_inner" "_law_inner" (stAt 36) "law_og0016_01" 854 531),
  (533, kT []),
  (536, kO (.type "code") [(kS "_law_run" 932), (kS "_law_run" 933), (kS "/claim/cut.py" 934), (.int 308 0), (.int 2 0), (.int 0 0), (.int 0 0), (.int 3 0), (.ref 533), (.bool true), (.int 181 0), (.ref 534), .none, .none, .none, (.ref 535), (.int 935 0), (.int 308 0), (kS "/claim/cut.py" 936)]),
  (537, kF "_law_run" "_law_run" (stAt 37) "law_og0016_01" 854 536),
  (538, kT []),
  (540, kT [(kS "expr" 941)]),
  (541, kT []),
  (543, kC "_law_within_lets" 938 "_law_within_lets" 939 940 338 1 3 538 true 181 539 540 541 542 942 943),
  (544, kF "_law_within_lets" "_law_within_lets" (stAt 38) "law_og0016_01" 854 543),
  (545, kT []),
  (547, kT [(kS "pen" 948), (kS "one" 949), (kS "other" 950), (kS "turn" 951), (kS "env" 952), (kS "name" 953)]),
  (548, kT []),
  (550, kC "_law_alike" 945 "_law_alike" 946 947 342 3 3 545 true 181 546 547 548 549 954 955),
  (551, kF "_law_alike" "_law_alike" (stAt 39) "law_og0016_01" 854 550),
  (552, kT []),
  (554, kT [(kS "script" 960), (kS "pen" 961), (kS "form" 962), (kS "few" 963), (kS "fresh" 964), (kS "value" 965), (kS "expr" 966), (kS "told" 967), (kS "binds" 968), (kS "most" 969), (kS "inside" 970)]),
  (555, kT []),
  (557, kC "law" 957 "law" 958 959 350 1 3 552 true 181 553 554 555 556 971 972),
  (558, kF "law" "law" (stAt 40) "law_og0016_01" 854 557)]
noncomputable def kAs : List Addr := [2, 3, 22, 24, 25, 27, 28, 29, 31, 32, 34, 35, 36, 38, 39, 41, 42, 43, 45, 46, 48, 49, 50, 51, 52, 53, 54, 64, 66, 67, 69, 70, 71, 73, 74, 76, 77, 78, 80, 81, 83, 84, 85, 87, 88, 90, 91, 92, 93, 94, 95, 96, 106, 108, 109, 111, 112, 113, 115, 116, 118, 119, 120, 123, 124, 125, 127, 128, 130, 131, 132, 133, 134, 135, 136, 146, 148, 149, 151, 152, 153, 155, 156, 158, 159, 160, 162, 163, 165, 166, 167, 169, 170, 172, 173, 174, 175, 176, 177, 178, 188, 190, 191, 193, 194, 195, 198, 199, 200, 203, 204, 205, 208, 209, 210, 211, 212, 213, 214, 224, 226, 227, 229, 230, 231, 232, 233, 234, 235, 245, 247, 248, 250, 251, 252, 255, 256, 257, 259, 260, 262, 263, 264, 266, 267, 269, 270, 271, 272, 273, 274, 275, 285, 287, 288, 290, 291, 292, 294, 295, 297, 298, 299, 302, 303, 304, 306, 307, 309, 310, 311, 312, 313, 314, 315, 325, 327, 328, 330, 331, 332, 335, 336, 337, 339, 340, 342, 343, 344, 346, 347, 349, 350, 351, 353, 354, 356, 357, 358, 359, 360, 361, 362, 365, 367, 368, 370, 371, 372, 374, 375, 377, 378, 379, 382, 383, 384, 386, 387, 389, 390, 391, 393, 394, 396, 397, 398, 401, 402, 403, 405, 406, 408, 409, 410, 412, 413, 415, 416, 417, 419, 420, 422, 423, 424, 426, 427, 429, 430, 431, 433, 434, 436, 437, 438, 441, 442, 443, 445, 446, 448, 449, 457, 458, 459, 461, 462, 464, 465, 466, 468, 469, 471, 472, 473, 475, 476, 478, 479, 480, 481, 482, 483, 484, 487, 489, 490, 492, 493, 494, 496, 497, 499, 500, 501, 502, 504, 505, 507, 508, 509, 512, 513, 514, 517, 518, 519, 521, 522, 524, 525, 526, 528, 529, 531, 532, 533, 536, 537, 538, 540, 541, 543, 544, 545, 547, 548, 550, 551, 552, 554, 555, 557, 558]
noncomputable def runG {σ τ : Type} (thr : τ → Bool) (ok : τ → Bool) (stp : σ → τ → Option (σ × τ)) : Nat → σ → τ → Option σ
  | 0, _, _ => none
  | n + 1, s, t => match thr t with
    | true => some s
    | false => match ok t with
      | false => none
      | true => match stp s t with
        | some r => runG thr ok stp n r.1 r.2
        | none => none
theorem runG_spec {tb : String → Option Builtin} {p : Program} {w : World} {n₀ : Nat} {ann : Option Value} : ∀ {n : Nat} {s r : SharedT} {t : Thread}, runG through (stepOk n₀ ann) (stepT (denote tb) p w) n s t = some r → topRun tb p w n₀ ann n s.abs t = some r.abs
  | 0, _, _, _, h => by cases h
  | n + 1, s, r, t, h => by
    unfold runG at h
    unfold topRun
    cases e : through t with
    | true => rw [e] at h; cases h; rfl
    | false =>
      rw [e] at h
      cases k : stepOk n₀ ann t with
      | false => rw [k] at h; cases h
      | true =>
        rw [k] at h
        cases z : stepT (denote tb) p w s t with
        | none => rw [z] at h; cases h
        | some x => rw [z] at h; rw [stepT_spec (s' := x.1) (t' := x.2) z]; exact runG_spec h
noncomputable def treeB (l : List Obj) : BT := (l.foldl (fun (x : BT × Nat) o => (x.1.ins x.2 o, x.2 + 1)) (BT.nil, 0)).1
noncomputable def startT (w : World) (os : OsState) : SharedT := ⟨treeB (boot_heap w.params).objs.toList, 11, (boot_heap w.params).life, #[], boot_drawn, boot_toks, os⟩
theorem start_abs (w : World) (os : OsState) : (startT w os).abs = ⟨boot_heap w.params, #[], boot_drawn, boot_toks, os⟩ := by kernel_rfl
noncomputable def lookT (S : SharedT) (a : Addr) : Option Obj := match Nat.blt a S.n with
  | true => (match S.tree.get a with
    | some o => alive o
    | none => none)
  | false => none
theorem lookT_spec {S : SharedT} {a : Addr} {o : Obj} (h : lookT S a = some o) : S.abs.heap.get? a = some o := by
  unfold lookT at h
  cases e : Nat.blt a S.n with
  | false => rw [e] at h; cases h
  | true =>
    rw [e] at h
    cases g : S.tree.get a with
    | none => rw [g] at h; cases h
    | some x => rw [g] at h; exact (abs_get (Nat.le_of_ble_eq_true e) g).trans h
theorem lookT_all {S : SharedT} : ∀ {as : List Addr} {os : List Obj}, as.map (lookT S) = os.map some → as.map S.abs.heap.get? = os.map some
  | [], [], _ => rfl
  | [], _ :: _, h => by cases h
  | _ :: _, [], h => by cases h
  | a :: as, o :: os, h => by
    rw [List.map_cons, List.map_cons] at h ⊢
    injection h with h1 h2
    rw [lookT_spec h1, lookT_all h2]
theorem left_of {p q : Program} {loose : List Str} {Xt : Shared → Bool} {α : Type} {Yf : Shared → α} {Ya : World → α} {Zf : SharedT → α} {N : Nat} (e : opening p = plainProg p.main.scope.names) (hN : Nat.ble 600 N = true) (f : ∀ s, fenceModules? p s = some s)
    (hZ : ∀ S w, Zf S = Ya w → Yf S.abs = Ya w)
    (run : ∀ w : World, (fun os => (runG through (stepOk 11 (some (.ref 6))) (stepT (denote treeTable) p w) N (startT w os) (topStub p)).map fun S =>
      (staticsOk (importedModules p.main.body) (boot_heap w.params) S.abs.heap && namesBound p S.abs.heap && gensDone S.abs && laidKept (boot_heap w.params) S.abs.heap, openSeen q loose (importedModules p.main.body) Xt true S.abs, Zf S)) = fun _ => some (true, openGood q loose, Ya w)) :
    LeftO p q loose Xt Yf Ya N := fun w => by
  obtain ⟨⟨h, gs, d, k, os⟩, e0, e'⟩ := Option.map_eq_some_iff.mp (boot_open e hN f w)
  obtain ⟨rfl, rfl, rfl, rfl⟩ : h = boot_heap w.params ∧ gs = Array.mk [] ∧ d = boot_drawn ∧ k = boot_toks := by simpa using e'
  obtain ⟨S, hS, hv⟩ := Option.map_eq_some_iff.mp (congrFun (run w) os)
  have r := runG_spec hS
  rw [start_abs] at r
  obtain ⟨l1, l2⟩ := Prod.mk.inj hv
  obtain ⟨l2, l3⟩ := Prod.mk.inj l2
  have t : topFrom treeTable p w N ⟨boot_heap w.params, Array.mk [], boot_drawn, boot_toks, os⟩ = some S.abs := by
    unfold topFrom
    dsimp only
    have z1 : ((boot_heap w.params).isNs mainGlobals && (#[] : Array GenState).size == 0) = true := by kernel_rfl
    have z2 : (boot_heap w.params).objs.size = 11 := by kernel_rfl
    have z3 : (boot_heap w.params).nsMap mainGlobals "__annotations__" = some (.ref 6) := by kernel_rfl
    rw [z1, z2, z3, r]
    show (match staticsOk (importedModules p.main.body) (boot_heap w.params) S.abs.heap && namesBound p S.abs.heap && gensDone S.abs && laidKept (boot_heap w.params) S.abs.heap with | true => some S.abs | false => none) = _
    rw [l1]
  unfold openEnds
  rw [e0]
  show (topFrom treeTable p w N _).map _ = _
  rw [t]
  exact congrArg some (Prod.ext l2 (hZ S w l3))
noncomputable def qV : Program := view PySem.Challenge.pw_og0016_01 [1, 2, 3, 4, 5, 6, 7, 8, 10, 11, 13, 15, 16, 17, 18, 19, 20, 21, 22, 23, 24, 26, 27, 29, 30, 31, 32, 33, 34, 35, 36, 37, 38, 39, 40]
noncomputable def loose0 : List Str := [Str.ofString "Fresh", Str.ofString "_law_sizes"]
noncomputable def Xt0 (s : Shared) : Bool := xlAt qV [] s && recOk [] s
theorem kAs_eq (P : Params) : kAs = (kP P).map (·.1) := by kernel_rfl
noncomputable abbrev hook0 : Hook := kmHook kP kAs kAs_eq [432, 439]
noncomputable def Z0 (S : SharedT) : List (Option Obj) × List (Option Obj) := (kAs.map (lookT S), [432, 439].map (lookT S))
theorem hZ0 (S : SharedT) (w : World) (h : Z0 S = hook0.val w) : hook0.obs S.abs = hook0.val w := by
  obtain ⟨h1, h2⟩ := Prod.mk.inj h
  have e1 : (kP w.params).map (fun p => some p.2) = ((kP w.params).map (·.2)).map some := by rw [List.map_map]; rfl
  have e2 : ([432, 439] : List Nat).map (fun _ => some (tabObj #[])) = (([432, 439] : List Nat).map fun _ => tabObj #[]).map some := rfl
  show (kAs.map S.abs.heap.get?, [432, 439].map S.abs.heap.get?) = ((kP w.params).map (fun p => some p.2), [432, 439].map fun _ => some (tabObj #[]))
  rw [e1] at h1 ⊢
  rw [e2] at h2 ⊢
  rw [lookT_all h1, lookT_all h2]
noncomputable def topF (ok : Thread → Bool) (st : World → SharedT → Thread → Option (SharedT × Thread)) (mods : List Str) (sn : Program → List Str → List Str → (Shared → Bool) → Bool → Shared → _) (w : World) (os : OsState) :=
  (runG through ok (st w) 4100 (startT w os) (topStub PySem.Challenge.pw_og0016_01)).map fun S =>
    (staticsOk mods (boot_heap w.params) S.abs.heap && namesBound PySem.Challenge.pw_og0016_01 S.abs.heap && gensDone S.abs && laidKept (boot_heap w.params) S.abs.heap, (sn qV loose0 mods Xt0 true S.abs : type_of% (openGood qV loose0)), Z0 S)
noncomputable def Swap : Prop := ∀ w : World, topF (stepOk 11 (some (.ref 6))) (stepT (denote treeTable) PySem.Challenge.pw_og0016_01) (importedModules PySem.Challenge.pw_og0016_01.main.body) openSeen w = fun _ => some (true, openGood qV loose0, hook0.val w)
end Mine
end

section
set_option maxRecDepth 100000
set_option maxHeartbeats 0
namespace Mine
open PySem PySem.W PyProof.Rows PySem.Calls PySem.W.Fast
theorem top_eq : topF (stepOk 11 (some (.ref 6))) (stepT (denote treeTable) PySem.Challenge.pw_og0016_01) (importedModules PySem.Challenge.pw_og0016_01.main.body) openSeen =
    topF (tw6613529449190102663 11 (some (.ref 6))) (tw10156331382660048174 (tw11892475500146522536 tw14364793385576792824) PySem.Challenge.pw_og0016_01) (tw5923862056798008813 PySem.Challenge.pw_og0016_01.main.body) tw4187177175401517315 := by
  rw [te6613529449190102663, te10156331382660048174, te11892475500146522536, te14364793385576792824, te5923862056798008813, te4187177175401517315]
theorem top_f (w : World) : topF (tw6613529449190102663 11 (some (.ref 6))) (tw10156331382660048174 (tw11892475500146522536 tw14364793385576792824) PySem.Challenge.pw_og0016_01) (tw5923862056798008813 PySem.Challenge.pw_og0016_01.main.body) tw4187177175401517315
    (w.withFollow "special-get-raises" false) = fun _ => some (true, openGood qV loose0, hook0.val (w.withFollow "special-get-raises" false)) := by kernel_rfl
theorem top_t (w : World) : topF (tw6613529449190102663 11 (some (.ref 6))) (tw10156331382660048174 (tw11892475500146522536 tw14364793385576792824) PySem.Challenge.pw_og0016_01) (tw5923862056798008813 PySem.Challenge.pw_og0016_01.main.body) tw4187177175401517315
    (w.withFollow "special-get-raises" true) = fun _ => some (true, openGood qV loose0, hook0.val (w.withFollow "special-get-raises" true)) := by kernel_rfl
theorem swap : Swap := fun w => by
  rw [top_eq]
  exact byRow2 "special-get-raises" (P := fun w => topF (tw6613529449190102663 11 (some (.ref 6))) (tw10156331382660048174 (tw11892475500146522536 tw14364793385576792824) PySem.Challenge.pw_og0016_01) (tw5923862056798008813 PySem.Challenge.pw_og0016_01.main.body) tw4187177175401517315 w =
    fun _ => some (true, openGood qV loose0, hook0.val w)) top_f top_t w
theorem left0 : LeftO PySem.Challenge.pw_og0016_01 qV loose0 Xt0 hook0.obs hook0.val 4100 := left_of (by kernel_rfl) (by kernel_rfl) (fun s => by kernel_rfl) hZ0 swap
theorem said0 : OpenLaw.wellSaid PySem.Challenge.rw_og0016_01 = true := by
  rw [te9446332074065402090]
  kernel_rfl
end Mine
end

section
namespace Mine
open PySem PySem.Calls PyProof.Rows PySem.W
noncomputable abbrev Cd_case_of_case : Addr := 441
noncomputable abbrev Tb_case_of_case : Addr := 439
noncomputable abbrev Cd_joined : Addr := 436
noncomputable abbrev Tb_joined : Addr := 432
noncomputable abbrev A_cls_Var : Addr := 52
noncomputable abbrev A_Var_init : Addr := 28
noncomputable abbrev A_Var_groups : Addr := 35
noncomputable abbrev A_Var_parts : Addr := 42
noncomputable abbrev A_Var_rebuilt : Addr := 49
noncomputable abbrev A_cls_Lit : Addr := 94
noncomputable abbrev A_Lit_init : Addr := 70
noncomputable abbrev A_Lit_groups : Addr := 77
noncomputable abbrev A_Lit_parts : Addr := 84
noncomputable abbrev A_Lit_rebuilt : Addr := 91
noncomputable abbrev A_cls_App : Addr := 134
noncomputable abbrev A_App_init : Addr := 112
noncomputable abbrev A_App_groups : Addr := 119
noncomputable abbrev A_App_parts : Addr := 124
noncomputable abbrev A_App_rebuilt : Addr := 131
noncomputable abbrev A_cls_Lam : Addr := 176
noncomputable abbrev A_Lam_init : Addr := 152
noncomputable abbrev A_Lam_groups : Addr := 159
noncomputable abbrev A_Lam_parts : Addr := 166
noncomputable abbrev A_Lam_rebuilt : Addr := 173
noncomputable abbrev A_cls_Let : Addr := 212
noncomputable abbrev A_Let_init : Addr := 194
noncomputable abbrev A_Let_groups : Addr := 199
noncomputable abbrev A_Let_parts : Addr := 204
noncomputable abbrev A_Let_rebuilt : Addr := 209
noncomputable abbrev A_cls_Alt : Addr := 233
noncomputable abbrev A_Alt_init : Addr := 230
noncomputable abbrev A_cls_Case : Addr := 273
noncomputable abbrev A_Case_init : Addr := 251
noncomputable abbrev A_Case_groups : Addr := 256
noncomputable abbrev A_Case_parts : Addr := 263
noncomputable abbrev A_Case_rebuilt : Addr := 270
noncomputable abbrev A_cls_Con : Addr := 313
noncomputable abbrev A_Con_init : Addr := 291
noncomputable abbrev A_Con_groups : Addr := 298
noncomputable abbrev A_Con_parts : Addr := 303
noncomputable abbrev A_Con_rebuilt : Addr := 310
noncomputable abbrev A_cls_Renamer : Addr := 360
noncomputable abbrev A_Renamer_init : Addr := 331
noncomputable abbrev A_Renamer_new_groups : Addr := 336
noncomputable abbrev A_Renamer_inner : Addr := 343
noncomputable abbrev A_Renamer_leaf : Addr := 350
noncomputable abbrev A_Renamer_run : Addr := 357
noncomputable abbrev A_renamed : Addr := 371
noncomputable abbrev A_size_of : Addr := 378
noncomputable abbrev A_fields_bound : Addr := 383
noncomputable abbrev A_with_lets : Addr := 390
noncomputable abbrev A_way_of_con : Addr := 397
noncomputable abbrev A_known_con : Addr := 402
noncomputable abbrev A_known_lit : Addr := 409
noncomputable abbrev A_known_case : Addr := 416
noncomputable abbrev A_case_of_let : Addr := 423
noncomputable abbrev A_outer_case : Addr := 430
noncomputable abbrev A_joined : Addr := 437
noncomputable abbrev A_case_of_case : Addr := 442
noncomputable abbrev A_base_of : Addr := 449
noncomputable abbrev A_cls_Fresh : Addr := 482
noncomputable abbrev A_Fresh_init : Addr := 465
noncomputable abbrev A_Fresh_avoid : Addr := 472
noncomputable abbrev A_Fresh_next : Addr := 479
noncomputable abbrev A_law_next : Addr := 493
noncomputable abbrev A_law_pen : Addr := 500
noncomputable abbrev A_law_sizes : Addr := 501
noncomputable abbrev A_law_atom : Addr := 508
noncomputable abbrev A_law_cell : Addr := 513
noncomputable abbrev A_law_end : Addr := 518
noncomputable abbrev A_law_outer : Addr := 525
noncomputable abbrev A_law_inner : Addr := 532
noncomputable abbrev A_law_run : Addr := 537
noncomputable abbrev A_law_within_lets : Addr := 544
noncomputable abbrev A_law_alike : Addr := 551
noncomputable abbrev A_law : Addr := 558
structure Fx (C : Ctx) : Prop where
  no_len : C.mg "len" = none
  b_len : C.mb "len" = some (.builtin "len")
  no_int : C.mg "int" = none
  b_int : C.mb "int" = some (.type "int")
  no_str : C.mg "str" = none
  b_str : C.mb "str" = some (.type "str")
  no_isinstance : C.mg "isinstance" = none
  b_isinstance : C.mb "isinstance" = some (.builtin "isinstance")
  no_range : C.mg "range" = none
  b_range : C.mb "range" = some (.type "range")
  no_reversed : C.mg "reversed" = none
  b_reversed : C.mb "reversed" = some (.type "reversed")
  no_dict : C.mg "dict" = none
  b_dict : C.mb "dict" = some (.type "dict")
  mg_Var : C.mg "Var" = some (.ref (C.cAd 0))
  kp_Var : keepIn C.K (.ref (C.cAd 0)) = true
  cls_Var : ClsAt C 0 A_Var_init (fBody (within (stAt 1) 0)) (fScope (within (stAt 1) 0))
  mg_Lit : C.mg "Lit" = some (.ref (C.cAd 1))
  kp_Lit : keepIn C.K (.ref (C.cAd 1)) = true
  cls_Lit : ClsAt C 1 A_Lit_init (fBody (within (stAt 2) 0)) (fScope (within (stAt 2) 0))
  mg_App : C.mg "App" = some (.ref (C.cAd 2))
  kp_App : keepIn C.K (.ref (C.cAd 2)) = true
  cls_App : ClsAt C 2 A_App_init (fBody (within (stAt 3) 0)) (fScope (within (stAt 3) 0))
  mg_Lam : C.mg "Lam" = some (.ref (C.cAd 3))
  kp_Lam : keepIn C.K (.ref (C.cAd 3)) = true
  cls_Lam : ClsAt C 3 A_Lam_init (fBody (within (stAt 4) 0)) (fScope (within (stAt 4) 0))
  mg_Let : C.mg "Let" = some (.ref (C.cAd 4))
  kp_Let : keepIn C.K (.ref (C.cAd 4)) = true
  cls_Let : ClsAt C 4 A_Let_init (fBody (within (stAt 5) 0)) (fScope (within (stAt 5) 0))
  mg_Alt : C.mg "Alt" = some (.ref (C.cAd 5))
  kp_Alt : keepIn C.K (.ref (C.cAd 5)) = true
  cls_Alt : ClsAt C 5 A_Alt_init (fBody (within (stAt 6) 0)) (fScope (within (stAt 6) 0))
  mg_Case : C.mg "Case" = some (.ref (C.cAd 6))
  kp_Case : keepIn C.K (.ref (C.cAd 6)) = true
  cls_Case : ClsAt C 6 A_Case_init (fBody (within (stAt 7) 0)) (fScope (within (stAt 7) 0))
  mg_Con : C.mg "Con" = some (.ref (C.cAd 7))
  kp_Con : keepIn C.K (.ref (C.cAd 7)) = true
  cls_Con : ClsAt C 7 A_Con_init (fBody (within (stAt 8) 0)) (fScope (within (stAt 8) 0))
  mg_Renamer : C.mg "Renamer" = some (.ref (C.cAd 8))
  kp_Renamer : keepIn C.K (.ref (C.cAd 8)) = true
  cls_Renamer : ClsAt C 8 A_Renamer_init (fBody (within (stAt 10) 0)) (fScope (within (stAt 10) 0))
  mg_Fresh : C.mg "Fresh" = some (.ref (C.cAd 9))
  kp_Fresh : keepIn C.K (.ref (C.cAd 9)) = true
  fn_Var_groups : FnAt C A_Var_groups [("self" : Str)] (fBody (within (stAt 1) 1)) (fScope (within (stAt 1) 1))
  m_Var_groups : plainGet C.K (C.cAd 0) "groups" = true ∧ findIn C.K (.ref (C.cAd 0)) "groups" = some (some (.ref A_Var_groups)) ∧ isFn C.K (.ref A_Var_groups) = true ∧ keepIn C.K (.ref A_Var_groups) = true
  fn_Var_parts : FnAt C A_Var_parts [("self" : Str)] (fBody (within (stAt 1) 2)) (fScope (within (stAt 1) 2))
  m_Var_parts : plainGet C.K (C.cAd 0) "parts" = true ∧ findIn C.K (.ref (C.cAd 0)) "parts" = some (some (.ref A_Var_parts)) ∧ isFn C.K (.ref A_Var_parts) = true ∧ keepIn C.K (.ref A_Var_parts) = true
  fn_Lit_groups : FnAt C A_Lit_groups [("self" : Str)] (fBody (within (stAt 2) 1)) (fScope (within (stAt 2) 1))
  m_Lit_groups : plainGet C.K (C.cAd 1) "groups" = true ∧ findIn C.K (.ref (C.cAd 1)) "groups" = some (some (.ref A_Lit_groups)) ∧ isFn C.K (.ref A_Lit_groups) = true ∧ keepIn C.K (.ref A_Lit_groups) = true
  fn_Lit_parts : FnAt C A_Lit_parts [("self" : Str)] (fBody (within (stAt 2) 2)) (fScope (within (stAt 2) 2))
  m_Lit_parts : plainGet C.K (C.cAd 1) "parts" = true ∧ findIn C.K (.ref (C.cAd 1)) "parts" = some (some (.ref A_Lit_parts)) ∧ isFn C.K (.ref A_Lit_parts) = true ∧ keepIn C.K (.ref A_Lit_parts) = true
  fn_Let_groups : FnAt C A_Let_groups [("self" : Str)] (fBody (within (stAt 5) 1)) (fScope (within (stAt 5) 1))
  m_Let_groups : plainGet C.K (C.cAd 4) "groups" = true ∧ findIn C.K (.ref (C.cAd 4)) "groups" = some (some (.ref A_Let_groups)) ∧ isFn C.K (.ref A_Let_groups) = true ∧ keepIn C.K (.ref A_Let_groups) = true
  fn_Let_parts : FnAt C A_Let_parts [("self" : Str)] (fBody (within (stAt 5) 2)) (fScope (within (stAt 5) 2))
  m_Let_parts : plainGet C.K (C.cAd 4) "parts" = true ∧ findIn C.K (.ref (C.cAd 4)) "parts" = some (some (.ref A_Let_parts)) ∧ isFn C.K (.ref A_Let_parts) = true ∧ keepIn C.K (.ref A_Let_parts) = true
  fn_Let_rebuilt : FnAt C A_Let_rebuilt [("self" : Str), ("groups" : Str), ("parts" : Str)] (fBody (within (stAt 5) 3)) (fScope (within (stAt 5) 3))
  m_Let_rebuilt : plainGet C.K (C.cAd 4) "rebuilt" = true ∧ findIn C.K (.ref (C.cAd 4)) "rebuilt" = some (some (.ref A_Let_rebuilt)) ∧ isFn C.K (.ref A_Let_rebuilt) = true ∧ keepIn C.K (.ref A_Let_rebuilt) = true
  fn_Case_groups : FnAt C A_Case_groups [("self" : Str)] (fBody (within (stAt 7) 1)) (fScope (within (stAt 7) 1))
  m_Case_groups : plainGet C.K (C.cAd 6) "groups" = true ∧ findIn C.K (.ref (C.cAd 6)) "groups" = some (some (.ref A_Case_groups)) ∧ isFn C.K (.ref A_Case_groups) = true ∧ keepIn C.K (.ref A_Case_groups) = true
  fn_Case_parts : FnAt C A_Case_parts [("self" : Str)] (fBody (within (stAt 7) 2)) (fScope (within (stAt 7) 2))
  m_Case_parts : plainGet C.K (C.cAd 6) "parts" = true ∧ findIn C.K (.ref (C.cAd 6)) "parts" = some (some (.ref A_Case_parts)) ∧ isFn C.K (.ref A_Case_parts) = true ∧ keepIn C.K (.ref A_Case_parts) = true
  fn_Case_rebuilt : FnAt C A_Case_rebuilt [("self" : Str), ("groups" : Str), ("parts" : Str)] (fBody (within (stAt 7) 3)) (fScope (within (stAt 7) 3))
  m_Case_rebuilt : plainGet C.K (C.cAd 6) "rebuilt" = true ∧ findIn C.K (.ref (C.cAd 6)) "rebuilt" = some (some (.ref A_Case_rebuilt)) ∧ isFn C.K (.ref A_Case_rebuilt) = true ∧ keepIn C.K (.ref A_Case_rebuilt) = true
  fn_Con_groups : FnAt C A_Con_groups [("self" : Str)] (fBody (within (stAt 8) 1)) (fScope (within (stAt 8) 1))
  m_Con_groups : plainGet C.K (C.cAd 7) "groups" = true ∧ findIn C.K (.ref (C.cAd 7)) "groups" = some (some (.ref A_Con_groups)) ∧ isFn C.K (.ref A_Con_groups) = true ∧ keepIn C.K (.ref A_Con_groups) = true
  fn_Con_parts : FnAt C A_Con_parts [("self" : Str)] (fBody (within (stAt 8) 2)) (fScope (within (stAt 8) 2))
  m_Con_parts : plainGet C.K (C.cAd 7) "parts" = true ∧ findIn C.K (.ref (C.cAd 7)) "parts" = some (some (.ref A_Con_parts)) ∧ isFn C.K (.ref A_Con_parts) = true ∧ keepIn C.K (.ref A_Con_parts) = true
  fn_Con_rebuilt : FnAt C A_Con_rebuilt [("self" : Str), ("groups" : Str), ("parts" : Str)] (fBody (within (stAt 8) 3)) (fScope (within (stAt 8) 3))
  m_Con_rebuilt : plainGet C.K (C.cAd 7) "rebuilt" = true ∧ findIn C.K (.ref (C.cAd 7)) "rebuilt" = some (some (.ref A_Con_rebuilt)) ∧ isFn C.K (.ref A_Con_rebuilt) = true ∧ keepIn C.K (.ref A_Con_rebuilt) = true
  fn_Renamer_new_groups : FnAt C A_Renamer_new_groups [("self" : Str), ("groups" : Str)] (fBody (within (stAt 10) 1)) (fScope (within (stAt 10) 1))
  m_Renamer_new_groups : plainGet C.K (C.cAd 8) "new_groups" = true ∧ findIn C.K (.ref (C.cAd 8)) "new_groups" = some (some (.ref A_Renamer_new_groups)) ∧ isFn C.K (.ref A_Renamer_new_groups) = true ∧ keepIn C.K (.ref A_Renamer_new_groups) = true
  fn_Renamer_inner : FnAt C A_Renamer_inner [("self" : Str), ("names" : Str), ("scope" : Str), ("groups" : Str), ("news" : Str)] (fBody (within (stAt 10) 2)) (fScope (within (stAt 10) 2))
  m_Renamer_inner : plainGet C.K (C.cAd 8) "inner" = true ∧ findIn C.K (.ref (C.cAd 8)) "inner" = some (some (.ref A_Renamer_inner)) ∧ isFn C.K (.ref A_Renamer_inner) = true ∧ keepIn C.K (.ref A_Renamer_inner) = true
  fn_Renamer_leaf : FnAt C A_Renamer_leaf [("self" : Str), ("node" : Str), ("names" : Str)] (fBody (within (stAt 10) 3)) (fScope (within (stAt 10) 3))
  m_Renamer_leaf : plainGet C.K (C.cAd 8) "leaf" = true ∧ findIn C.K (.ref (C.cAd 8)) "leaf" = some (some (.ref A_Renamer_leaf)) ∧ isFn C.K (.ref A_Renamer_leaf) = true ∧ keepIn C.K (.ref A_Renamer_leaf) = true
  fn_Renamer_run : FnAt C A_Renamer_run [("self" : Str), ("expr" : Str)] (fBody (within (stAt 10) 4)) (fScope (within (stAt 10) 4))
  m_Renamer_run : plainGet C.K (C.cAd 8) "run" = true ∧ findIn C.K (.ref (C.cAd 8)) "run" = some (some (.ref A_Renamer_run)) ∧ isFn C.K (.ref A_Renamer_run) = true ∧ keepIn C.K (.ref A_Renamer_run) = true
  fn_renamed : FnAt C A_renamed [("expr" : Str), ("fresh" : Str)] (fBody (stAt 11)) (fScope (stAt 11))
  mg_renamed : C.mg "renamed" = some (.ref A_renamed)
  kp_renamed : keepIn C.K (.ref A_renamed) = true
  fn_size_of : FnAt C A_size_of [("expr" : Str), ("most" : Str)] (fBody (stAt 13)) (fScope (stAt 13))
  mg_size_of : C.mg "size_of" = some (.ref A_size_of)
  kp_size_of : keepIn C.K (.ref A_size_of) = true
  fn_fields_bound : FnAt C A_fields_bound [("con" : Str), ("fresh" : Str)] (fBody (stAt 15)) (fScope (stAt 15))
  mg_fields_bound : C.mg "fields_bound" = some (.ref A_fields_bound)
  kp_fields_bound : keepIn C.K (.ref A_fields_bound) = true
  fn_with_lets : FnAt C A_with_lets [("rows" : Str), ("body" : Str)] (fBody (stAt 16)) (fScope (stAt 16))
  mg_with_lets : C.mg "with_lets" = some (.ref A_with_lets)
  kp_with_lets : keepIn C.K (.ref A_with_lets) = true
  fn_way_of_con : FnAt C A_way_of_con [("case" : Str), ("name" : Str)] (fBody (stAt 17)) (fScope (stAt 17))
  mg_way_of_con : C.mg "way_of_con" = some (.ref A_way_of_con)
  kp_way_of_con : keepIn C.K (.ref A_way_of_con) = true
  fn_known_con : FnAt C A_known_con [("expr" : Str), ("fresh" : Str)] (fBody (stAt 18)) (fScope (stAt 18))
  mg_known_con : C.mg "known_con" = some (.ref A_known_con)
  kp_known_con : keepIn C.K (.ref A_known_con) = true
  fn_known_lit : FnAt C A_known_lit [("expr" : Str), ("fresh" : Str)] (fBody (stAt 19)) (fScope (stAt 19))
  mg_known_lit : C.mg "known_lit" = some (.ref A_known_lit)
  kp_known_lit : keepIn C.K (.ref A_known_lit) = true
  fn_known_case : FnAt C A_known_case [("expr" : Str), ("fresh" : Str)] (fBody (stAt 20)) (fScope (stAt 20))
  mg_known_case : C.mg "known_case" = some (.ref A_known_case)
  kp_known_case : keepIn C.K (.ref A_known_case) = true
  fn_case_of_let : FnAt C A_case_of_let [("expr" : Str), ("fresh" : Str)] (fBody (stAt 21)) (fScope (stAt 21))
  mg_case_of_let : C.mg "case_of_let" = some (.ref A_case_of_let)
  kp_case_of_let : keepIn C.K (.ref A_case_of_let) = true
  fn_outer_case : FnAt C A_outer_case [("expr" : Str), ("value" : Str), ("fresh" : Str)] (fBody (stAt 22)) (fScope (stAt 22))
  mg_outer_case : C.mg "outer_case" = some (.ref A_outer_case)
  kp_outer_case : keepIn C.K (.ref A_outer_case) = true
  fn_joined : FnAt C A_joined [("expr" : Str), ("fresh" : Str)] (fBody (stAt 23)) (fScope (stAt 23)) (.ref Cd_joined)
  mg_joined : C.mg "joined" = some (.ref A_joined)
  kp_joined : keepIn C.K (.ref A_joined) = true
  fn_case_of_case : FnAt C A_case_of_case [("expr" : Str), ("fresh" : Str), ("most" : Str)] (fBody (stAt 24)) (fScope (stAt 24)) (.ref Cd_case_of_case)
  mg_case_of_case : C.mg "case_of_case" = some (.ref A_case_of_case)
  kp_case_of_case : keepIn C.K (.ref A_case_of_case) = true
  fn_base_of : FnAt C A_base_of [("name" : Str)] (fBody (stAt 26)) (fScope (stAt 26))
  mg_base_of : C.mg "base_of" = some (.ref A_base_of)
  kp_base_of : keepIn C.K (.ref A_base_of) = true
  fn_Fresh_avoid : FnAt C A_Fresh_avoid [("self" : Str), ("names" : Str)] (fBody (within (stAt 27) 1)) (fScope (within (stAt 27) 1))
  m_Fresh_avoid : plainGet C.K (C.cAd 9) "avoid" = true ∧ findIn C.K (.ref (C.cAd 9)) "avoid" = some (some (.ref A_Fresh_avoid)) ∧ isFn C.K (.ref A_Fresh_avoid) = true ∧ keepIn C.K (.ref A_Fresh_avoid) = true
  fn_Fresh_next : FnAt C A_Fresh_next [("self" : Str), ("base" : Str)] (fBody (within (stAt 27) 2)) (fScope (within (stAt 27) 2))
  m_Fresh_next : plainGet C.K (C.cAd 9) "next" = true ∧ findIn C.K (.ref (C.cAd 9)) "next" = some (some (.ref A_Fresh_next)) ∧ isFn C.K (.ref A_Fresh_next) = true ∧ keepIn C.K (.ref A_Fresh_next) = true
  fn_law_next : FnAt C A_law_next [("pen" : Str), ("many" : Str)] (fBody (stAt 29)) (fScope (stAt 29))
  mg_law_next : C.mg "_law_next" = some (.ref A_law_next)
  kp_law_next : keepIn C.K (.ref A_law_next) = true
  fn_law_pen : FnAt C A_law_pen [("script" : Str)] (fBody (stAt 30)) (fScope (stAt 30))
  mg_law_pen : C.mg "_law_pen" = some (.ref A_law_pen)
  kp_law_pen : keepIn C.K (.ref A_law_pen) = true
  fn_law_atom : FnAt C A_law_atom [("pen" : Str), ("names" : Str)] (fBody (stAt 32)) (fScope (stAt 32))
  mg_law_atom : C.mg "_law_atom" = some (.ref A_law_atom)
  kp_law_atom : keepIn C.K (.ref A_law_atom) = true
  fn_law_cell : FnAt C A_law_cell [("pen" : Str), ("names" : Str)] (fBody (stAt 33)) (fScope (stAt 33))
  mg_law_cell : C.mg "_law_cell" = some (.ref A_law_cell)
  kp_law_cell : keepIn C.K (.ref A_law_cell) = true
  fn_law_end : FnAt C A_law_end [("pen" : Str), ("names" : Str)] (fBody (stAt 34)) (fScope (stAt 34))
  mg_law_end : C.mg "_law_end" = some (.ref A_law_end)
  kp_law_end : keepIn C.K (.ref A_law_end) = true
  fn_law_outer : FnAt C A_law_outer [("pen" : Str), ("value" : Str), ("few" : Str)] (fBody (stAt 35)) (fScope (stAt 35))
  mg_law_outer : C.mg "_law_outer" = some (.ref A_law_outer)
  kp_law_outer : keepIn C.K (.ref A_law_outer) = true
  fn_law_inner : FnAt C A_law_inner [("pen" : Str)] (fBody (stAt 36)) (fScope (stAt 36))
  mg_law_inner : C.mg "_law_inner" = some (.ref A_law_inner)
  kp_law_inner : keepIn C.K (.ref A_law_inner) = true
  fn_law_run : FnAt C A_law_run [("expr" : Str), ("env" : Str)] (fBody (stAt 37)) (fScope (stAt 37))
  mg_law_run : C.mg "_law_run" = some (.ref A_law_run)
  kp_law_run : keepIn C.K (.ref A_law_run) = true
  fn_law_within_lets : FnAt C A_law_within_lets [("expr" : Str)] (fBody (stAt 38)) (fScope (stAt 38))
  mg_law_within_lets : C.mg "_law_within_lets" = some (.ref A_law_within_lets)
  kp_law_within_lets : keepIn C.K (.ref A_law_within_lets) = true
  fn_law_alike : FnAt C A_law_alike [("pen" : Str), ("one" : Str), ("other" : Str)] (fBody (stAt 39)) (fScope (stAt 39))
  mg_law_alike : C.mg "_law_alike" = some (.ref A_law_alike)
  kp_law_alike : keepIn C.K (.ref A_law_alike) = true
  mg_law_sizes : C.mg "_law_sizes" = some (.ref A_law_sizes)
  sizes : BaseD C A_law_sizes sizes
  isClo0 : ∀ o cl c oc, C.isClo 0 o cl c oc ↔ IsCloOf D0 o cl c oc
  isClo1 : ∀ o cl c oc, C.isClo 1 o cl c oc ↔ IsCloOf D1 o cl c oc
  isFn : ∀ k o cl c oc, C.isClo k o cl c oc → ∃ fd, o.data = .func fd
  nest0 : NestOk C Cd_joined Tb_joined 0
  nest1 : NestOk C Cd_case_of_case Tb_case_of_case 1
  fn_Fresh_init : FnAt C A_Fresh_init [("self" : Str), "avoided"] (fBody (within (stAt 27) 0)) (fScope (within (stAt 27) 0))
  mk_Fresh : makesIn C.K (C.cAd 9) = true ∧ findIn C.K (.ref (C.cAd 9)) "__init__" = some (some (.ref A_Fresh_init)) ∧ typeIn C.K (.ref A_Fresh_init) = some (.type "function") ∧ findIn C.K (.ref (C.cAd 9)) "__setattr__" = some (some (.builtin "object.__setattr__")) ∧ plainOver C.K (C.cAd 9) = true ∧ (∀ x ∈ flds 9, takerIn C.K (C.cAd 9) x = some none) ∧ hasDictIn C.K (C.cAd 9) = true
end Mine
end

section
namespace Mine
open PySem PySem.Calls PyProof.Rows PySem.W
section
variable {C : Ctx}
noncomputable def F_base_of : Ab → Option (Fl × Ab) :=
  (sSeq (sSet 1 (fCallB okStr opRfind (gv9 0) (lC9 (fK9 (.str ".")) l09))) (sSeq (sRet (fIf (tAnd (asBool (f2 (gv9 1) (fK9 (.int 0)) (pureOp (cmpMV .Gt)))) (tAnd nvr (tLit true))) nvr (gv9 0))) sNil))
set_option maxHeartbeats 4000000 in
set_option maxRecDepth 100000 in
theorem b_base_of (O : Ok C) (X : Fx C) : SSs C ⟨fScope (stAt 26), [("name" : Str)] ++ [("at" : Str)], true, .none⟩ 0 (fBody (stAt 26)) F_base_of :=
  (sq9 (ss_set (se_callB get_str op_rfind (sn9 rfl (.inl rfl) rfl rfl) (sk9 (sc9 rfl) sz9 (fun _ => rfl)) (fun _ => rfl) _ (fun _ => rfl)) ⟨rfl, (.inl rfl)⟩ (fun _ => rfl)) (sq9 (ss_ret (se_if (st_bool (sa_and (st_cmp O (sn9 rfl (.inl rfl) rfl rfl) (sc9 rfl) rfl) (sa_and st_never sa_nil_and))) se_never (sn9 rfl (.inl rfl) rfl rfl))) ss_nil))
noncomputable def S_base_of : List MV → Gst → Option (MV × Gst) := specOf 1 1 F_base_of
theorem sc_base_of (O : Ok C) (X : Fx C) : SC C 1 (.ref A_base_of) S_base_of := sc_fn O X.fn_base_of ⟨rfl, rfl, rfl, by decide +kernel, by decide +kernel, by decide⟩ (b_base_of O X)
noncomputable def F_Fresh_avoid : Ab → Option (Fl × Ab) :=
  (sSeq (sFor (fIt (gv9 1) itMV) (tName 2) (sSeq (sSetG (f1 (gv9 0) (fAttr "avoided")) (fK9 (.bool true)) (gv9 2)) sNil)) sNil)
set_option maxHeartbeats 4000000 in
set_option maxRecDepth 100000 in
theorem b_Fresh_avoid (O : Ok C) (X : Fx C) : SSs C ⟨fScope (within (stAt 27) 1), [("self" : Str), ("names" : Str)] ++ [("name" : Str)], true, .none⟩ 0 (fBody (within (stAt 27) 1)) F_Fresh_avoid :=
  (sq9 (ss_for (si_val (sn9 rfl (.inl rfl) rfl rfl)) (tg_name ⟨rfl, (.inl rfl)⟩) (sq9 (ss_setG (se_attr O (sn9 rfl (.inl rfl) rfl rfl) (fun _ => rfl)) (sc9 rfl) (sn9 rfl (.inl rfl) rfl rfl) (fun _ => rfl)) ss_nil) (fun _ _ => rfl)) ss_nil)
noncomputable def S_Fresh_avoid : List MV → Gst → Option (MV × Gst) := specOf 2 1 F_Fresh_avoid
theorem sc_Fresh_avoid (O : Ok C) (X : Fx C) : SC C 1 (.ref A_Fresh_avoid) S_Fresh_avoid := sc_fn O X.fn_Fresh_avoid ⟨rfl, rfl, rfl, by decide +kernel, by decide +kernel, by decide⟩ (b_Fresh_avoid O X)
noncomputable def D_avoid : Nat → Option (List MV → Gst → Option (MV × Gst))
  | 9 => some S_Fresh_avoid
  | _ => none
theorem dp_avoid (O : Ok C) (X : Fx C) : Disp C 1 "avoid" D_avoid := by
  intro c sp h
  unfold D_avoid at h
  split at h
  · cases h; exact ⟨A_Fresh_avoid, by decide, X.m_Fresh_avoid.1, X.m_Fresh_avoid.2.1, X.m_Fresh_avoid.2.2.1, X.m_Fresh_avoid.2.2.2, by decide, SC.le (sc_Fresh_avoid O X) (by decide)⟩
  · exact ns9 h
end
end Mine
end

section
namespace Mine
open PySem PySem.Calls PyProof.Rows PySem.W
section
variable {C : Ctx} {Γ : Frm}
noncomputable def S_Fresh (ms : List MV) (G : Gst) : Option (MV × Gst) := match ms with
  | [a] => (match S_Fresh_avoid [.obj 9 [.glo G.length, .glo (G.length + 1)], a] (G ++ [.d [], .d []]) with
    | some (_, G') => some (.obj 9 [.glo G.length, .glo (G.length + 1)], G')
    | none => none)
  | _ => none
theorem Inv.settle {κ : Gh} {env : Env} {m : Str → Option Value} {ab : Ab} {h : Heap} {a : Addr} {o : Obj} (I : Inv C Γ κ env m ab h) (hk : κ a = .frn o) (hb : C.h₀.get? a = none) (hc : ∀ v, o.data ≠ .cell v) : Inv C Γ (put κ a (.frz o)) env m ab h ∧ LeB a κ (put κ a (.frz o)) := by
  obtain ⟨J, l⟩ := I.g.settle hk hb
  exact ⟨⟨J, I.f.remark I.g hk hc (Heap.ExtBut.refl _ _)⟩, l⟩
theorem Inv.learn {κ : Gh} {env : Env} {m : Str → Option Value} {ρ : List Slot} {G : Gst} {h : Heap} {i : Nat} {x : Str} {s : Slot} (I : Inv C Γ κ env m (ρ, G) h) (hx : Γ.xs[i]? = some x) (hr : SlotR C κ h (m x) x s) : Inv C Γ κ env m (ρ.set i s, G) h := by
  have F := I.f
  refine ⟨I.g, ⟨F.scope, F.fn, F.gl, F.bi, F.nd, F.kloc, F.ns, F.cel, F.own, by rw [List.length_set]; exact F.len, fun j y s' e e' => ?_⟩⟩
  by_cases q : i = j
  · subst q
    rw [hx] at e; cases e
    rw [List.getElem?_set_self'] at e'
    cases hq : ρ[i]? with
    | none => rw [hq] at e'; exact ns9 e'
    | some s₀ => rw [hq] at e'; cases e'; exact hr
  · rw [List.getElem?_set_ne q] at e'
    exact F.slots j y s' e e'
theorem fresh_set (O : Ok C) (X : Fx C) {d : Nat} {f : Str} {done : List Str} {dv : List MV} (hf : f ∈ flds 9) (hfd : f ∉ done) (hdl : done.length = dv.length) (h10 : done.length ≤ 10) {A : Around} {env : Env} {κ : Gh} {m : Str → Option Value} {ρ : List Slot} {G : Gst} {s : Shared} {x dx : Addr} {es : List DictEntry} {n : Nat}
    {p1 p2 p3 p4 : Pos} {Q : Flow → Shared → Prop} {E : Value → Shared → Prop} (_R : Room A d) (I : Inv C Γ κ env m (ρ, G) s.heap) (kx : κ x = .frn (instObj (C.cAd 9) dx)) (kd : κ dx = .frn (dictOf es n)) (hr : DRs C κ es (done.zip dv)) (hself : m "self" = some (.ref x))
    (hk : Γ.scope.names.lookup ("self" : Str) = some .local) (hdx : C.h₀.get? dx = none)
    (k : ∀ h' t' κ' es' n', LeB dx κ κ' → Inv C Γ κ' env m (ρ, G ++ [.d []]) h' → κ' x = .frn (instObj (C.cAd 9) dx) → κ' dx = .frn (dictOf es' n') → DRs C κ' es' ((done ++ [f]).zip (dv ++ [.glo G.length])) → Q .next { s with heap := h', toks := t' }) :
    wpAny (model C.prog C.w) A (exec (.Assign [.Attribute (.Name "self" p1) f p2] (.Dict [] [] p3) p4) env) Q E s := by
  obtain ⟨_, _, _, M4, M5, M6, M7⟩ := X.mk_Fresh
  refine plainObj_wpAny_Assign_Attribute (wpAny_Dict_empty ?_)
  obtain ⟨l₁, f₁, b₁, I₁⟩ := iter_new I { cls := .type "dict", data := .dict #[] } rfl
  obtain ⟨oE, hoE, hdE⟩ := Heap.dictOf_iff.mp (Heap.DictOf.new (knd := strKind C.prog C.w) s.heap)
  have eE : oE = { cls := .type "dict", data := .dict #[] } := Option.some.inj (hoE.symm.trans (Heap.get?_push_size s.heap (o := { cls := .type "dict", data := .dict #[] }) rfl))
  subst eE
  obtain ⟨I₂, l₂, _⟩ := Inv.share (ρ := ρ) (G := G) I₁ (put_self ..) b₁ (by intro v z; cases z) (Heap.SameBut.refl _ _) hoE hdE (ms := []) .nil l₁ f₁
  generalize hκ : put (put κ s.heap.objs.size (.frn { cls := .type "dict", data := .dict #[] })) s.heap.objs.size (.glo G.length) = κ₂ at *
  have kD : κ₂ s.heap.objs.size = .glo G.length := by rw [← hκ]; exact put_self ..
  generalize hH : s.heap.push { cls := .type "dict", data := .dict #[] } = H at *
  refine wpAny_Name (load_slot (s := { s with heap := H }) I₂ (.inl hk) hself ?_ rfl) rfl
  have Y := O.inK I₂.g
  have kx₂ := l₂.frn _ _ kx
  have kd₂ := l₂.frn _ _ kd
  have hr₂ := hr.mono l₂.v
  have IA : InstAt H x (instObj (C.cAd 9) dx) (C.cAd 9) (some (dictOf es n)) := ⟨I₂.g.frn _ _ kx₂, rfl, rfl, I₂.g.frn _ _ kd₂⟩
  have hdn : f ∉ (done.zip dv).map (·.1) := fun q => by
    obtain ⟨⟨y, z⟩, hp, e⟩ := List.mem_map.mp q
    cases e
    exact hfd (List.of_mem_zip hp).1
  refine set_plain (s := { s with heap := H }) Y IA M4 ?_
  refine osa_at (s := { s with heap := H, toks := s.toks + 1 }) Y IA M5 (M6 f hf) M7 (by rw [hr₂.off hdn n]; rfl) ?_ ?_
  · refine Nat.le_trans putL_len ?_
    rw [hr₂.length, List.length_zip, ← hdl]
    lia
  · dsimp only
    have hsb : Heap.SameBut dx H (H.update dx (Obj.putName f (PyData.keyHash C.w.params f) (.str f (s.toks + 1)) (.ref s.heap.objs.size))) := Heap.SameBut.update ..
    have D' : (H.update dx (Obj.putName f (PyData.keyHash C.w.params f) (.str f (s.toks + 1)) (.ref s.heap.objs.size))).get? dx = some (dictOf (putL f (PyData.keyHash C.w.params f) (.str f (s.toks + 1)) (.ref s.heap.objs.size) es) (putN f es n)) := by
      rw [← putName_dict]
      exact Heap.get?_update_self _ (I₂.g.frn _ _ kd₂) (by rw [putName_dict]; rfl)
    have I' := I₂.remark kd₂ hdx (by intro _ z; cases z) hsb.extBut D'
    have xd : x ≠ dx := by rintro rfl; rw [kx] at kd; cases kd
    have lb : LeB dx κ₂ (put κ₂ dx (.frn (dictOf (putL f (PyData.keyHash C.w.params f) (.str f (s.toks + 1)) (.ref s.heap.objs.size) es) (putN f es n)))) := LeB.put _ kd₂
    refine k _ _ _ _ _ ((l₂.but dx).trans lb) I' (by rw [put_ne _ _ xd]; exact kx₂) (put_self ..) ?_
    rw [List.zip_append hdl]
    exact (hr₂.put (.glo kD) hdn).mono lb.v
theorem fresh_body (O : Ok C) (X : Fx C) : ∃ p1 p2 p3 p4 p5 p6 p7 p8 st, fBody (within (stAt 27) 0) = [.Assign [.Attribute (.Name "self" p1) "avoided" p2] (.Dict [] [] p3) p4, .Assign [.Attribute (.Name "self" p5) "numbers" p6] (.Dict [] [] p7) p8, st] ∧
    SS C ⟨fScope (within (stAt 27) 0), [("self" : Str), "avoided"] ++ [], true, .none⟩ 2 st (sExpr (fCallM D_avoid (gv9 0) (lC9 (gv9 1) l09))) := ⟨_, _, _, _, _, _, _, _, _, rfl,
    ss_expr (se_callM O (Disp.le (dp_avoid O X) (by decide)) (sn9 rfl (.inl rfl) rfl rfl) (sk9 (sn9 rfl (.inl rfl) rfl rfl) sz9 (fun _ => rfl)) (fun _ => rfl) _ (fun _ => rfl)) (fun _ => rfl)⟩
theorem sc_Fresh (O : Ok C) (X : Fx C) : SC C 4 (.ref (C.cAd 9)) S_Fresh := by
  intro A κ G G' s xs ms r R hR I hx hq k
  unfold S_Fresh at hq
  split at hq
  case h_2 => exact ns9 hq
  rename_i ma
  split at hq
  case h_2 => exact ns9 hq
  rename_i rr G₂ hav
  cases hq
  cases hx with
  | @cons va _ xs _ hva hx0 =>
  cases hx0
  obtain ⟨M1, M2, M3, M4, M5, M6, M7⟩ := X.mk_Fresh
  obtain ⟨h, g, dr, t, os⟩ := s
  have Y := O.inK I
  refine make_core (makes_of Y M1) (looks_findIn Y M2) (fun self => bind_fn Y self M3) (.inl rfl) ?_
  have I1 := I.push (o := emptyDict) (k := .frn emptyDict) rfl ⟨fun _ e => (by cases e), fun _ e => (by cases e; rfl), fun _ e => (by cases e)⟩
  have I2 := I1.push (o := instObj (C.cAd 9) h.objs.size) (k := .frn (instObj (C.cAd 9) h.objs.size)) rfl ⟨fun _ e => (by cases e), fun _ e => (by cases e; rfl), fun _ e => (by cases e)⟩
  rw [Heap.size_push] at I2
  have f1 : κ h.objs.size = .no := I.free
  have f2 : put κ h.objs.size (.frn emptyDict) (h.objs.size + 1) = .no := by have := I1.free; rw [Heap.size_push] at this; exact this
  generalize hx' : h.objs.size + 1 = x at *
  have hdx : x ≠ h.objs.size := by rw [← hx']; exact Nat.succ_ne_self _
  have kx0 : κ x = .no := by rw [put_ne _ _ hdx] at f2; exact f2
  have l1 : Le κ (put κ h.objs.size (.frn emptyDict)) := Le.put _ f1
  have l2 : Le (put κ h.objs.size (.frn emptyDict)) (put (put κ h.objs.size (.frn emptyDict)) x (.frn (instObj (C.cAd 9) h.objs.size))) := Le.put _ f2
  generalize hκ2 : put (put κ h.objs.size (.frn emptyDict)) x (.frn (instObj (C.cAd 9) h.objs.size)) = κ2 at *
  have k2x : κ2 x = .frn (instObj (C.cAd 9) h.objs.size) := by rw [← hκ2]; exact put_self ..
  have k2d : κ2 h.objs.size = .frn emptyDict := by rw [← hκ2, put_ne _ _ (Ne.symm hdx)]; exact put_self ..
  have bx : C.h₀.get? x = none := base_none I (fun o e => by rw [kx0] at e; cases e)
  have bd : C.h₀.get? h.objs.size = none := base_none I (fun o e => by rw [f1] at e; cases e)
  have hR1 : Room (A.under (.builtin "type.__call__" ⟨.ref (C.cAd 9) :: [va], []⟩)) (2 + 1) := by
    have e1 : (A.under (.builtin "type.__call__" ⟨.ref (C.cAd 9) :: [va], []⟩)).depth = A.depth + 1 := rfl
    have e2 : (A.under (.builtin "type.__call__" ⟨.ref (C.cAd 9) :: [va], []⟩)).units ≤ A.units + 10 := by
      have e : (Code.builtin "type.__call__" ⟨.ref (C.cAd 9) :: [va], []⟩).cUnits = 1 := rfl
      show A.units + (Code.builtin "type.__call__" ⟨.ref (C.cAd 9) :: [va], []⟩).cUnits ≤ _
      rw [e]; lia
    have := hR.depth; have := hR.units
    exact ⟨by rw [e1]; lia, by lia, hR.hh⟩
  have l12 : Le κ κ2 := l1.trans l2
  refine fn_call (s := ⟨(h.push emptyDict).push (instObj (C.cAd 9) h.objs.size), g, dr, t, os⟩) O X.fn_Fresh_init (others := []) ⟨rfl, rfl, rfl, by decide +kernel, by decide +kernel, by decide⟩ (ss := [.un, .val ma]) hR1 I2 (by simp) (by simp) (fun κ' h' i y v sl l e1 e2 e3 => ?_) fun env m h₁ t₁ L cs E hL hab I₁ hm hk₁ R₁ => ?_
  · match i with
    | 0 => simp at e3; subst e3; exact True.intro
    | 1 =>
      simp at e2 e3
      subst e2 e3
      exact ⟨_, rfl, hva.mono (l12.trans l).v⟩
    | n + 2 => simp at e3
  have l3 := enter_le (L := L) (cs := cs) I2 hL hab
  have hself : m "self" = some (.ref x) := hm 0 _ _ rfl rfl
  obtain ⟨p1, p2, p3, p4, p5, p6, p7, p8, st3, eb, hrule⟩ := fresh_body O X
  rw [eb]
  rw [execs_cons]
  refine wpAny_bind (fresh_set O X (f := "avoided") (done := []) (dv := []) (es := []) (n := 0) (by decide) (by decide) rfl (by decide) R₁ I₁ (l3.frn _ _ k2x) (l3.frn _ _ k2d) .nil hself rfl bd fun h₃ t₃ κ₃ es₃ n₃ lb₃ I₃ kx₃ kd₃ hr₃ => ?_)
  dsimp only
  rw [execs_cons]
  refine wpAny_bind (fresh_set (s := ⟨h₃, g, dr, t₃, os⟩) O X (f := "numbers") (done := ["avoided"]) (dv := [.glo G.length]) (by decide) (by decide) rfl (by decide) R₁ I₃ kx₃ kd₃ hr₃ hself rfl bd fun h₄ t₄ κ₄ es₄ n₄ lb₄ I₄ kx₄ kd₄ hr₄ => ?_)
  dsimp only
  obtain ⟨I₅, lb₅⟩ := I₄.settle kx₄ bx (by intro v z; cases z)
  have kd₅ : put κ₄ x (.frz (instObj (C.cAd 9) h.objs.size)) h.objs.size = .frn (dictOf es₄ n₄) := by rw [put_ne _ _ (Ne.symm hdx)]; exact kd₄
  obtain ⟨I₆, lb₆⟩ := I₅.settle kd₅ bd (by intro v z; cases z)
  have hG : (G ++ [GV.d []]).length = G.length + 1 := by simp
  have hv : VR C (put (put κ₄ x (.frz (instObj (C.cAd 9) h.objs.size))) h.objs.size (.frz (dictOf es₄ n₄))) (.ref x) (.obj 9 [.glo G.length, .glo (G.length + 1)]) := by
    refine .obj (d := h.objs.size) (es := es₄) (n := n₄) (by rw [put_ne _ _ hdx]; exact put_self ..) (put_self ..) ?_ rfl
    rw [hG] at hr₄
    exact hr₄.mono ⟨fun b o e => lb₆.frz _ _ (lb₅.frz _ _ e), fun b o e => lb₆.glo _ _ (lb₅.glo _ _ e)⟩
  generalize hκ6 : put (put κ₄ x (.frz (instObj (C.cAd 9) h.objs.size))) h.objs.size (.frz (dictOf es₄ n₄)) = κ₆ at *
  have I₇ := Inv.learn (i := 0) (x := "self") (s := .val (.obj 9 [.glo G.length, .glo (G.length + 1)])) I₆ rfl ⟨_, hself, hv⟩
  rw [execs_cons]
  have hval : sExpr (fCallM D_avoid (gv9 0) (lC9 (gv9 1) l09)) ([Slot.val (.obj 9 [.glo G.length, .glo (G.length + 1)]), .val ma], (G ++ [GV.d []]) ++ [GV.d []]) = some (.nxt, [Slot.val (.obj 9 [.glo G.length, .glo (G.length + 1)]), .val ma], G') := by
    have e : (G ++ [GV.d []]) ++ [GV.d []] = G ++ [.d [], .d []] := by simp
    rw [e]
    simp [sExpr, fCallM, gv9, lC9, l09, D_avoid, hav]
  refine wpAny_bind (hrule (s := ⟨h₄, g, dr, t₄, os⟩) R₁ I₇ hval fun v₈ m₈ h₈ t₈ κ₈ l₈ fl₈ I₈ => ?_)
  cases v₈ <;> first | exact fl₈.elim | skip
  dsimp only
  rw [execs_nil]
  refine wpAny_pure ⟨rfl, ?_⟩
  have fz : ∀ b o, κ b = .frz o → κ₈ b = .frz o := fun b o e => l₈.frz _ _ (lb₆.frz _ _ (lb₅.frz _ _ (lb₄.frz _ _ (lb₃.frz _ _ (l3.frz _ _ (l12.frz _ _ e))))))
  have fg : ∀ b o, κ b = .glo o → κ₈ b = .glo o := fun b o e => l₈.glo _ _ (lb₆.glo _ _ (lb₅.glo _ _ (lb₄.glo _ _ (lb₃.glo _ _ (l3.glo _ _ (l12.glo _ _ e))))))
  have fn3 : ∀ b o, b ≠ x → b ≠ h.objs.size → enter κ2 ((h.push emptyDict).push (instObj (C.cAd 9) h.objs.size)) L cs b = .frn o → κ₈ b = .frn o := fun b o n1 n2 e =>
    l₈.frn _ _ (lb₆.frn _ _ n2 (lb₅.frn _ _ n1 (lb₄.frn _ _ n2 (lb₃.frn _ _ n2 e))))
  have nx : ∀ {b : Addr}, κ b ≠ .no → b ≠ x ∧ b ≠ h.objs.size := fun {b} e => ⟨by rintro rfl; exact e kx0, by rintro rfl; exact e f1⟩
  have lB : Le κ κ₈ := ⟨fz, fun b o e => let ⟨n1, n2⟩ := nx (b := b) (by rw [e]; simp); fn3 b o n1 n2 (l3.frn _ _ (l12.frn _ _ e)), fg⟩
  obtain ⟨e1, e2, e3, e4⟩ := leave_core I lB (fun a e => by
    obtain ⟨o, ho⟩ := I.al a (by intro z; rw [z] at e; cases e)
    obtain ⟨n1, n2⟩ := nx (b := a) (by intro z; rw [z] at e; cases e)
    refine ⟨o, ho, fn3 a o n1 n2 ?_⟩
    have ho2 : ((h.push emptyDict).push (instObj (C.cAd 9) h.objs.size)).get? a = some o := Heap.get?_push_of_some _ (Heap.get?_push_of_some _ ho)
    have k2a : κ2 a = κ a := by rw [← hκ2, put_ne _ _ n1, put_ne _ _ n2]
    rw [enter_out (Heap.lt_size ho2) hL hab, k2a, if_pos e, ho2]) I₈.g
  exact k (.ref x) h₈ t₈ _ e1 e2 ((hv.mono l₈.v).mono e3) e4
noncomputable def fSame (i j : Nat) (ab : Ab) : Option (MV × Ab) := match ab.1[i]?, ab.1[j]? with
  | some (.val (.obj 6 (.obj c l :: r))), some (.val m) => if c < 8 ∧ c ≠ 6 then some (.bool true, ab) else none
  | _, _ => none
noncomputable def tCase : Ab → Option (Bool × Ab) := (tOr (tNot (asBool (f1 (gv9 0) (opIsi 6)))) (tOr (tNot (asBool (f1 (f1 (gv9 0) (fAttr "value")) (opIsi 6)))) (tLit false)))
theorem coc_head (O : Ok C) (X : Fx C) {d : Nat} {Γ : Frm} (hΓ : Γ = ⟨fScope (stAt 24), [("expr" : Str), "fresh", "most"] ++ [("inner" : Str), "ways", "outer", "binds", "go_on", "alts", "other", "found"], true, .ref Cd_case_of_case⟩) : ∃ t p1 p2 p3 rest, fBody (stAt 24) = (Stmt.If t [.Return (some (.Name "expr" p1)) p2] [] p3) :: rest ∧ ST C Γ d t tCase := by
  subst hΓ
  exact ⟨_, _, _, _, _, rfl, st_bool (sa_or (st_not (st_val (se_isi O ⟨X.no_isinstance, X.b_isinstance, rfl, rfl⟩ (by decide) ⟨X.mg_Case, rfl, rfl⟩ (sn9 rfl (.inr (.inl rfl)) rfl rfl) (fun _ => rfl)) (fun _ _ => rfl)))
    (sa_or (st_not (st_val (se_isi O ⟨X.no_isinstance, X.b_isinstance, rfl, rfl⟩ (by decide) ⟨X.mg_Case, rfl, rfl⟩ (se_attr O (sn9 rfl (.inr (.inl rfl)) rfl rfl) (fun _ => rfl)) (fun _ => rfl)) (fun _ _ => rfl))) sa_nil_or))⟩
theorem is_self {M : Model} {A : Around} {E : Value → Shared → Prop} {s : Shared} {a : Addr} {Q : Value → Shared → Prop} (h : Q (.bool true) s) : wpAny M A (compareOp .Is (.ref a) (.ref a)) Q E s := by
  show wpAny M A (do return .bool (← isSame (.ref a) (.ref a))) Q E s
  exact wpAny_bind (wpAny_isSame_ref_self (wpAny_pure h))
theorem se_same {d : Nat} {x y : Str} {p p2 p3 p4 p5 pos pos' : Pos} {i j k : Nat} (O : Ok C) (X : Fx C) (hx : Reads' Γ i x) (hy : Reads' Γ j y) (hg : Γ.scope.names.lookup ("case_of_case" : Str) = some .globalImplicit) (hd : 1 ≤ d)
    (hst : ∀ env, starEach [.Name x p2, .Name y p3, .Constant (.int 0) k p4] env = [(false, eval (.Name x p2) env), (false, eval (.Name y p3) env), (false, eval (.Constant (.int 0) k p4) env)]) :
    SE C Γ d (.Compare (.Call (.Name "case_of_case" p) [.Name x p2, .Name y p3, .Constant (.int 0) k p4] [] pos') [.Is] [.Name x p5] pos) (fSame i j) := by
  intro A env κ m ab ab' s r Q E R I hq q
  unfold fSame at hq
  split at hq
  case h_2 => exact ns9 hq
  rename_i c l rr mm e1 e2
  split at hq
  case isFalse => exact ns9 hq
  rename_i hc
  cases hq
  obtain ⟨v, hm, hv⟩ := I.f.slots i x _ hx.at_ e1
  obtain ⟨w, hmw, hw⟩ := I.f.slots j y _ hy.at_ e2
  have hv0 := hv
  cases hv with
  | @obj a dd n _ es _ ka kd hdr hl =>
  refine wpAny_Compare1 ?_ rfl
  show wpAny _ _ (eval (.Name "case_of_case" p) env >>= fun f => callWith pos' f [] (backTo pos' (starEach [.Name x p2, .Name y p3, .Constant (.int 0) k p4] env)) (backToKw pos' (keywordEach [] env))) _ _ _
  have hst' := hst env
  refine wpAny_bind (glob_name O I ⟨X.mg_case_of_case, hg, rfl⟩ (callWith_of (P := fun h => C.K.In h) ?_ (keeps_K X.kp_case_of_case) (evalArgs_any (by rw [hst']; rfl) ?_)))
  · rw [any_backTo, hst']; rfl
  refine wpAny_items_cons (own_name I hx hm (wpAny_items_cons (own_name I hy hmw (wpAny_items_cons (wpAny_Constant_int (wpAny_items_nil ⟨O.inK I.g, wpAny_call ?_⟩)) ?_)) ?_)) ?_
  rotate_left
  · rfl
  · rfl
  · rfl
  have hR1 : Room A (0 + 1) := R.le (by lia)
  refine fn_call (s := { s with toks := s.toks + 1 }) O X.fn_case_of_case (others := [("inner" : Str), "ways", "outer", "binds", "go_on", "alts", "other", "found"]) ⟨rfl, rfl, rfl, by decide +kernel, by decide +kernel, by decide⟩ (ss := [.val (.obj 6 (.obj c l :: rr)), .val mm, .val (.int 0)]) hR1 I.g (by simp) (by simp) (fun κ' h' i y v sl l e1 e2 e3 => ?_) fun env₁ m₁ h₁ t₁ L cs E₁ hL hab I₁ hm₁ hk₁ R₁ => ?_
  · match i with
    | 0 => simp at e2 e3; subst e2 e3; exact ⟨_, rfl, hv0.mono l.v⟩
    | 1 => simp at e2 e3; subst e2 e3; exact ⟨_, rfl, hw.mono l.v⟩
    | 2 => simp at e2 e3; subst e2 e3; exact ⟨_, rfl, .int _ _⟩
    | n + 3 => simp at e3
  obtain ⟨t, q1, q2, q3, rest, eb, hT⟩ := coc_head O X (d := 0) rfl
  rw [eb]
  rw [execs_cons]
  have hself : m₁ "expr" = some (.ref a) := hm₁ 0 _ _ rfl rfl
  have hval : tCase ([Slot.val (.obj 6 (.obj c l :: rr)), .val mm, .val (.int 0)] ++ List.replicate 8 .un, ab.2) = some (true, [Slot.val (.obj 6 (.obj c l :: rr)), .val mm, .val (.int 0)] ++ List.replicate 8 .un, ab.2) := by
    have hl' : rr.length = 3 := by have : (flds 6).length = _ := hl; simp [flds] at this; lia
    simp [tCase, tOr, tNot, asBool, f1, gv9, opIsi, fAttr, attrMV, flds, mAt, hc.1, hc.2, tLit]
  refine wpAny_bind (wpAny_If (hT (s := { s with heap := h₁, toks := t₁ }) R₁ I₁ hval fun h₂ t₂ κ₂ l₂ I₂ => ?_))
  show wpAny _ _ (execs [.Return (some (.Name "expr" q1)) q2] env₁) _ _ _
  rw [execs_cons]
  refine wpAny_bind (wpAny_Return_some (wpAny_Name (load_slot (s := { s with heap := h₂, toks := t₂ }) I₂ (.inr (.inl rfl)) hself ?_ rfl) rfl))
  refine wpAny_pure (wpAny_pure ?_)
  obtain ⟨g1, g2, g3, g4⟩ := leave_all I.g hL hab l₂ I₂.g
  have J := I.keep (ρ := ab.1) (G := ab.2) g4 g1 g2
  refine own_name (s := { s with heap := h₂, toks := t₂ }) J hx hm (is_self ?_)
  exact q _ h₂ t₂ _ g1 (.bool true) J
end
end Mine
end

section
namespace Mine
open PySem PySem.Calls PyProof.Rows PySem.W
section
variable {C : Ctx}
noncomputable def F_law_next : Ab → Option (Fl × Ab) :=
  (sSeq (sIf (asBool (f2 (f2 (gv9 0) (fK9 (.str "great")) fIdx) (fK9 (.int 0)) (pureOp (cmpMV .Gt)))) (sSeq (sSet 2 (f2 (f2 (gv9 0) (fK9 (.str "great")) fIdx) (gv9 1) (pureOp (binMV .Mod)))) (sSeq (sSetG (gv9 0) (f2 (f2 (gv9 0) (fK9 (.str "great")) fIdx) (gv9 1) (pureOp (binMV .FloorDiv))) (fK9 (.str "great"))) (sSeq (sRet (gv9 2)) sNil))) sNil) (sSeq (sSetG (gv9 0) (f2 (f2 (f2 (f2 (gv9 0) (fK9 (.str "small")) fIdx) (fK9 (.int 7919)) (pureOp (binMV .Mult))) (fK9 (.int 104729)) (pureOp (binMV .Add))) (fK9 (.int 1000000007)) (pureOp (binMV .Mod))) (fK9 (.str "small"))) (sSeq (sRet (f2 (f2 (f2 (gv9 0) (fK9 (.str "small")) fIdx) (fK9 (.int 61)) (pureOp (binMV .FloorDiv))) (gv9 1) (pureOp (binMV .Mod)))) sNil)))
set_option maxHeartbeats 4000000 in
set_option maxRecDepth 100000 in
theorem b_law_next (O : Ok C) (X : Fx C) : SSs C ⟨fScope (stAt 29), [("pen" : Str), ("many" : Str)] ++ [("figure" : Str)], true, .none⟩ 0 (fBody (stAt 29)) F_law_next :=
  (sq9 (ss_if (st_cmp O (se_idx (sn9 rfl (.inl rfl) rfl rfl) (sc9 rfl) (fun _ _ => rfl)) (sc9 rfl) rfl) (sq9 (ss_set (se_bin (se_idx (sn9 rfl (.inl rfl) rfl rfl) (sc9 rfl) (fun _ _ => rfl)) (sn9 rfl (.inl rfl) rfl rfl)) ⟨rfl, (.inl rfl)⟩ (fun _ => rfl)) (sq9 (ss_setG (sn9 rfl (.inl rfl) rfl rfl) (se_bin (se_idx (sn9 rfl (.inl rfl) rfl rfl) (sc9 rfl) (fun _ _ => rfl)) (sn9 rfl (.inl rfl) rfl rfl)) (sc9 rfl) (fun _ => rfl)) (sq9 (ss_ret (sn9 rfl (.inl rfl) rfl rfl)) ss_nil))) ss_nil) (sq9 (ss_setG (sn9 rfl (.inl rfl) rfl rfl) (se_bin (se_bin (se_bin (se_idx (sn9 rfl (.inl rfl) rfl rfl) (sc9 rfl) (fun _ _ => rfl)) (sc9 rfl)) (sc9 rfl)) (sc9 rfl)) (sc9 rfl) (fun _ => rfl)) (sq9 (ss_ret (se_bin (se_bin (se_idx (sn9 rfl (.inl rfl) rfl rfl) (sc9 rfl) (fun _ _ => rfl)) (sc9 rfl)) (sn9 rfl (.inl rfl) rfl rfl))) ss_nil)))
noncomputable def S_law_next : List MV → Gst → Option (MV × Gst) := specOf 2 1 F_law_next
theorem sc_law_next (O : Ok C) (X : Fx C) : SC C 1 (.ref A_law_next) S_law_next := sc_fn O X.fn_law_next ⟨rfl, rfl, rfl, by decide +kernel, by decide +kernel, by decide⟩ (b_law_next O X)
noncomputable def F_law_atom : Ab → Option (Fl × Ab) :=
  (sSeq (sSet 2 (f2 (gv9 1) (fLst (lC9 (fK9 (.str "p")) (lC9 (fK9 (.str "q")) l09))) (pureOp (binMV .Add)))) (sSeq (sSet 3 (fA9 S_law_next (lC9 (gv9 0) (lC9 (f2 (fA9 opLen (lC9 (gv9 2) l09)) (fK9 (.int 2)) (pureOp (binMV .Add))) l09)))) (sSeq (sRet (fIf (asBool (f2 (gv9 3) (fA9 opLen (lC9 (gv9 2) l09)) (pureOp (cmpMV .Lt)))) (fA9 (clsSpec 0) (lC9 (f2 (gv9 2) (gv9 3) fIdx) l09)) (fA9 (clsSpec 1) (lC9 (fK9 (.str "int")) (lC9 (f2 (fK9 (.int 10)) (gv9 3) (pureOp (binMV .Add))) l09))))) sNil)))
set_option maxHeartbeats 4000000 in
set_option maxRecDepth 100000 in
theorem b_law_atom (O : Ok C) (X : Fx C) : SSs C ⟨fScope (stAt 32), [("pen" : Str), ("names" : Str)] ++ [("here" : Str), ("at" : Str)], true, .none⟩ 2 (fBody (stAt 32)) F_law_atom :=
  (sq9 (ss_set (se_bin (sn9 rfl (.inl rfl) rfl rfl) (se_lst (sk9 (sc9 rfl) (sk9 (sc9 rfl) sz9 (fun _ => rfl)) (fun _ => rfl)))) ⟨rfl, (.inl rfl)⟩ (fun _ => rfl)) (sq9 (ss_set (sa9 O ⟨X.mg_law_next, rfl, rfl⟩ X.kp_law_next (SC.le (sc_law_next O X) (by decide)) (sk9 (sn9 rfl (.inl rfl) rfl rfl) (sk9 (se_bin (se_callV O ⟨X.no_len, X.b_len, rfl, rfl⟩ (callee_b "len") op_len (sk9 (sn9 rfl (.inl rfl) rfl rfl) sz9 (fun _ => rfl)) (fun _ => rfl)) (sc9 rfl)) sz9 (fun _ => rfl)) (fun _ => rfl)) (fun _ => rfl)) ⟨rfl, (.inl rfl)⟩ (fun _ => rfl)) (sq9 (ss_ret (se_if (st_cmp O (sn9 rfl (.inl rfl) rfl rfl) (se_callV O ⟨X.no_len, X.b_len, rfl, rfl⟩ (callee_b "len") op_len (sk9 (sn9 rfl (.inl rfl) rfl rfl) sz9 (fun _ => rfl)) (fun _ => rfl)) rfl) (sa9 O ⟨X.mg_Var, rfl, rfl⟩ X.kp_Var (SC.le (sc_class O X.cls_Var (d := 0)) (by decide)) (sk9 (se_idx (sn9 rfl (.inl rfl) rfl rfl) (sn9 rfl (.inl rfl) rfl rfl) (fun _ _ => rfl)) sz9 (fun _ => rfl)) (fun _ => rfl)) (sa9 O ⟨X.mg_Lit, rfl, rfl⟩ X.kp_Lit (SC.le (sc_class O X.cls_Lit (d := 0)) (by decide)) (sk9 (sc9 rfl) (sk9 (se_bin (sc9 rfl) (sn9 rfl (.inl rfl) rfl rfl)) sz9 (fun _ => rfl)) (fun _ => rfl)) (fun _ => rfl)))) ss_nil)))
noncomputable def S_law_atom : List MV → Gst → Option (MV × Gst) := specOf 2 2 F_law_atom
theorem sc_law_atom (O : Ok C) (X : Fx C) : SC C 3 (.ref A_law_atom) S_law_atom := sc_fn O X.fn_law_atom ⟨rfl, rfl, rfl, by decide +kernel, by decide +kernel, by decide⟩ (b_law_atom O X)
noncomputable def F_law_cell : Ab → Option (Fl × Ab) :=
  (sSeq (sSet 2 (f2 (fK9 (.str "ABCD")) (fA9 S_law_next (lC9 (gv9 0) (lC9 (fK9 (.int 4)) l09))) fIdx)) (sSeq (sRet (fA9 (clsSpec 7) (lC9 (gv9 2) (lC9 (fComp 1 [0, 1] (fIt (fBase sizes (gv9 2)) itRange) (tName 1) (fA9 S_law_atom (lC9 (gv9 2) (lC9 (gv9 3) l09)))) l09)))) sNil))
set_option maxHeartbeats 4000000 in
set_option maxRecDepth 100000 in
theorem b_law_cell (O : Ok C) (X : Fx C) : SSs C ⟨fScope (stAt 33), [("pen" : Str), ("names" : Str)] ++ [("name" : Str)], true, .none⟩ 3 (fBody (stAt 33)) F_law_cell :=
  (sq9 (ss_set (se_idx (sc9 rfl) (sa9 O ⟨X.mg_law_next, rfl, rfl⟩ X.kp_law_next (SC.le (sc_law_next O X) (by decide)) (sk9 (sn9 rfl (.inr (.inl rfl)) rfl rfl) (sk9 (sc9 rfl) sz9 (fun _ => rfl)) (fun _ => rfl)) (fun _ => rfl)) (fun _ _ => rfl)) ⟨rfl, (.inl rfl)⟩ (fun _ => rfl)) (sq9 (ss_ret (sa9 O ⟨X.mg_Con, rfl, rfl⟩ X.kp_Con (SC.le (sc_class O X.cls_Con (d := 0)) (by decide)) (sk9 (sn9 rfl (.inl rfl) rfl rfl) (sk9 (se_comp (K := (⟨rfl, rfl, rfl, rfl, rfl, rfl, by decide, rfl, rfl⟩ : CompOk _ _ [("turn" : Str)] [("pen" : Str), ("names" : Str)] [0, 1])) (si_range O ⟨X.no_range, X.b_range, rfl, rfl⟩ (se_base O ⟨X.mg_law_sizes, rfl, rfl⟩ X.sizes (sn9 rfl (.inl rfl) rfl rfl) (fun _ _ => rfl)) (fun _ => rfl)) (tg_name ⟨rfl, (.inl rfl)⟩) (sa9 O ⟨X.mg_law_atom, rfl, rfl⟩ X.kp_law_atom (SC.le (sc_law_atom O X) (by decide)) (sk9 (sn9 rfl (.inr (.inl rfl)) rfl rfl) (sk9 (sn9 rfl (.inr (.inl rfl)) rfl rfl) sz9 (fun _ => rfl)) (fun _ => rfl)) (fun _ => rfl)) (fun _ _ => rfl)) sz9 (fun _ => rfl)) (fun _ => rfl)) (fun _ => rfl))) ss_nil))
noncomputable def S_law_cell : List MV → Gst → Option (MV × Gst) := specOf 2 1 F_law_cell
theorem sc_law_cell (O : Ok C) (X : Fx C) : SC C 4 (.ref A_law_cell) S_law_cell := sc_fn O X.fn_law_cell ⟨rfl, rfl, rfl, by decide +kernel, by decide +kernel, by decide⟩ (b_law_cell O X)
noncomputable def F_law_run (R : List MV → Gst → Option (MV × Gst)) : Ab → Option (Fl × Ab) :=
  (sSeq (sIf (asBool (f1 (gv9 0) (opIsi 0))) (sSeq (sRet (fCallB okDict opGet (gv9 1) (lC9 (f1 (gv9 0) (fAttr "name")) (lC9 (fTup (lC9 (fK9 (.str "from")) (lC9 (f1 (gv9 0) (fAttr "name")) l09))) l09)))) sNil) sNil) (sSeq (sIf (asBool (f1 (gv9 0) (opIsi 1))) (sSeq (sRet (fTup (lC9 (fK9 (.str "number")) (lC9 (f1 (gv9 0) (fAttr "value")) l09)))) sNil) sNil) (sSeq (sIf (asBool (f1 (gv9 0) (opIsi 7))) (sSeq (sRet (fTup (lC9 (fK9 (.str "cell")) (lC9 (f1 (gv9 0) (fAttr "name")) (lC9 (fComp 1 [1] (fIt (f1 (gv9 0) (fAttr "args")) itMV) (tName 1) (fA9 R (lC9 (gv9 1) (lC9 (gv9 2) l09)))) l09))))) sNil) sNil) (sSeq (sIf (asBool (f1 (gv9 0) (opIsi 3))) (sSeq (sRet (fTup (lC9 (fK9 (.str "function")) (lC9 (gv9 0) (lC9 (gv9 1) l09))))) sNil) sNil) (sSeq (sNew 2 (gDict (gv9 1))) (sSeq (sIf (asBool (f1 (gv9 0) (opIsi 4))) (sSeq (sFor (fIt (f1 (gv9 0) (fAttr "binds")) itMV) (tTup [3, 4]) (sSeq (sSetD 2 (fA9 R (lC9 (gv9 4) (lC9 (gv9 1) l09))) (gv9 3)) sNil)) (sSeq (sRet (fA9 R (lC9 (f1 (gv9 0) (fAttr "body")) (lC9 (gv9 2) l09)))) sNil)) sNil) (sSeq (sIf (asBool (f1 (gv9 0) (opIsi 2))) (sSeq (sUnp (fA9 R (lC9 (f1 (gv9 0) (fAttr "fun")) (lC9 (gv9 1) l09))) (tTup [5, 6, 7])) (sSeq (sNew 8 (gDict (gv9 7))) (sSeq (sFor (fIt (fA9 opLen (lC9 (f1 (gv9 6) (fAttr "params")) l09)) itRange) (tName 9) (sSeq (sSetD 8 (fA9 R (lC9 (f2 (f1 (gv9 0) (fAttr "args")) (gv9 9) fIdx) (lC9 (gv9 1) l09))) (f2 (f1 (gv9 6) (fAttr "params")) (gv9 9) fIdx)) sNil)) (sSeq (sRet (fA9 R (lC9 (f1 (gv9 6) (fAttr "body")) (lC9 (gv9 8) l09)))) sNil)))) sNil) (sSeq (sSet 10 (fA9 R (lC9 (f1 (gv9 0) (fAttr "value")) (lC9 (gv9 1) l09)))) (sSeq (sSetD 2 (gv9 10) (f1 (gv9 0) (fAttr "name"))) (sSeq (sFor (fIt (f1 (gv9 0) (fAttr "alts")) itMV) (tName 11) (sSeq (sIf (tAnd (asBool (f2 (f2 (gv9 10) (fK9 (.int 0)) fIdx) (fK9 (.str "number")) (pureOp (cmpMV .Eq)))) (tAnd (asBool (f2 (f1 (gv9 11) (fAttr "key")) (fTup (lC9 (fK9 (.str "lit")) (lC9 (fK9 (.str "int")) (lC9 (f2 (gv9 10) (fK9 (.int 1)) fIdx) l09)))) (pureOp (cmpMV .Eq)))) (tLit true))) (sSeq (sRet (fA9 R (lC9 (f1 (gv9 11) (fAttr "body")) (lC9 (gv9 2) l09)))) sNil) sNil) (sSeq (sIf (tAnd (asBool (f2 (f2 (gv9 10) (fK9 (.int 0)) fIdx) (fK9 (.str "cell")) (pureOp (cmpMV .Eq)))) (tAnd (asBool (f2 (f1 (gv9 11) (fAttr "key")) (fTup (lC9 (fK9 (.str "con")) (lC9 (f2 (gv9 10) (fK9 (.int 1)) fIdx) l09))) (pureOp (cmpMV .Eq)))) (tLit true))) (sSeq (sFor (fIt (fA9 opLen (lC9 (f1 (gv9 11) (fAttr "names")) l09)) itRange) (tName 9) (sSeq (sSetD 2 (f2 (f2 (gv9 10) (fK9 (.int 2)) fIdx) (gv9 9) fIdx) (f2 (f1 (gv9 11) (fAttr "names")) (gv9 9) fIdx)) sNil)) (sSeq (sRet (fA9 R (lC9 (f1 (gv9 11) (fAttr "body")) (lC9 (gv9 2) l09)))) sNil)) sNil) sNil))) (sSeq (sRet (fA9 R (lC9 (f1 (gv9 0) (fAttr "other")) (lC9 (gv9 2) l09)))) sNil)))))))))))
set_option maxHeartbeats 4000000 in
set_option maxRecDepth 100000 in
theorem b_law_run (O : Ok C) (X : Fx C) {d : Nat} {R : List MV → Gst → Option (MV × Gst)} (hR : SC C d (.ref A_law_run) R) : SSs C ⟨fScope (stAt 37), [("expr" : Str), ("env" : Str)] ++ [("near" : Str), ("name" : Str), ("meant" : Str), ("word" : Str), ("lam" : Str), ("home" : Str), ("inner" : Str), ("at" : Str), ("value" : Str), ("alt" : Str)], true, .none⟩ d (fBody (stAt 37)) (F_law_run R) :=
  (sq9 (ss_if (st_val (se_isi O ⟨X.no_isinstance, X.b_isinstance, rfl, rfl⟩ (by decide) ⟨X.mg_Var, rfl, rfl⟩ (sn9 rfl (.inl rfl) rfl rfl) (fun _ => rfl)) (fun _ _ => rfl)) (sq9 (ss_ret (se_callB get_dict (op_get O) (sn9 rfl (.inr (.inl rfl)) rfl rfl) (sk9 (se_attr O (sn9 rfl (.inl rfl) rfl rfl) (fun _ => rfl)) (sk9 (se_tup (sk9 (sc9 rfl) (sk9 (se_attr O (sn9 rfl (.inl rfl) rfl rfl) (fun _ => rfl)) sz9 (fun _ => rfl)) (fun _ => rfl))) sz9 (fun _ => rfl)) (fun _ => rfl)) (fun _ => rfl) _ (fun _ => rfl))) ss_nil) ss_nil) (sq9 (ss_if (st_val (se_isi O ⟨X.no_isinstance, X.b_isinstance, rfl, rfl⟩ (by decide) ⟨X.mg_Lit, rfl, rfl⟩ (sn9 rfl (.inl rfl) rfl rfl) (fun _ => rfl)) (fun _ _ => rfl)) (sq9 (ss_ret (se_tup (sk9 (sc9 rfl) (sk9 (se_attr O (sn9 rfl (.inl rfl) rfl rfl) (fun _ => rfl)) sz9 (fun _ => rfl)) (fun _ => rfl)))) ss_nil) ss_nil) (sq9 (ss_if (st_val (se_isi O ⟨X.no_isinstance, X.b_isinstance, rfl, rfl⟩ (by decide) ⟨X.mg_Con, rfl, rfl⟩ (sn9 rfl (.inl rfl) rfl rfl) (fun _ => rfl)) (fun _ _ => rfl)) (sq9 (ss_ret (se_tup (sk9 (sc9 rfl) (sk9 (se_attr O (sn9 rfl (.inl rfl) rfl rfl) (fun _ => rfl)) (sk9 (se_comp (K := (⟨rfl, rfl, rfl, rfl, rfl, rfl, by decide, rfl, rfl⟩ : CompOk _ _ [("arg" : Str)] [("env" : Str)] [1])) (si_val (se_attr O (sn9 rfl (.inl rfl) rfl rfl) (fun _ => rfl))) (tg_name ⟨rfl, (.inl rfl)⟩) (sa9 O ⟨X.mg_law_run, rfl, rfl⟩ X.kp_law_run hR (sk9 (sn9 rfl (.inl rfl) rfl rfl) (sk9 (sn9 rfl (.inr (.inl rfl)) rfl rfl) sz9 (fun _ => rfl)) (fun _ => rfl)) (fun _ => rfl)) (fun _ _ => rfl)) sz9 (fun _ => rfl)) (fun _ => rfl)) (fun _ => rfl)))) ss_nil) ss_nil) (sq9 (ss_if (st_val (se_isi O ⟨X.no_isinstance, X.b_isinstance, rfl, rfl⟩ (by decide) ⟨X.mg_Lam, rfl, rfl⟩ (sn9 rfl (.inl rfl) rfl rfl) (fun _ => rfl)) (fun _ _ => rfl)) (sq9 (ss_ret (se_tup (sk9 (sc9 rfl) (sk9 (sn9 rfl (.inl rfl) rfl rfl) (sk9 (sn9 rfl (.inr (.inl rfl)) rfl rfl) sz9 (fun _ => rfl)) (fun _ => rfl)) (fun _ => rfl)))) ss_nil) ss_nil) (sq9 (ss_new (sg_dict O ⟨X.no_dict, X.b_dict, rfl, rfl⟩ (sn9 rfl (.inr (.inl rfl)) rfl rfl) (fun _ => rfl)) ⟨rfl, (.inl rfl)⟩ (fun _ => rfl)) (sq9 (ss_if (st_val (se_isi O ⟨X.no_isinstance, X.b_isinstance, rfl, rfl⟩ (by decide) ⟨X.mg_Let, rfl, rfl⟩ (sn9 rfl (.inl rfl) rfl rfl) (fun _ => rfl)) (fun _ _ => rfl)) (sq9 (ss_for (si_val (se_attr O (sn9 rfl (.inl rfl) rfl rfl) (fun _ => rfl))) (tg_tuple (.cons ⟨rfl, (.inl rfl)⟩ (.cons ⟨rfl, (.inl rfl)⟩ .nil))) (sq9 (ss_setD ⟨rfl, (.inl rfl), rfl, rfl⟩ (sa9 O ⟨X.mg_law_run, rfl, rfl⟩ X.kp_law_run hR (sk9 (sn9 rfl (.inl rfl) rfl rfl) (sk9 (sn9 rfl (.inr (.inl rfl)) rfl rfl) sz9 (fun _ => rfl)) (fun _ => rfl)) (fun _ => rfl)) (sn9 rfl (.inl rfl) rfl rfl) (fun _ => rfl)) ss_nil) (fun _ _ => rfl)) (sq9 (ss_ret (sa9 O ⟨X.mg_law_run, rfl, rfl⟩ X.kp_law_run hR (sk9 (se_attr O (sn9 rfl (.inl rfl) rfl rfl) (fun _ => rfl)) (sk9 (sn9 rfl (.inl rfl) rfl rfl) sz9 (fun _ => rfl)) (fun _ => rfl)) (fun _ => rfl))) ss_nil)) ss_nil) (sq9 (ss_if (st_val (se_isi O ⟨X.no_isinstance, X.b_isinstance, rfl, rfl⟩ (by decide) ⟨X.mg_App, rfl, rfl⟩ (sn9 rfl (.inl rfl) rfl rfl) (fun _ => rfl)) (fun _ _ => rfl)) (sq9 (ss_unp (sa9 O ⟨X.mg_law_run, rfl, rfl⟩ X.kp_law_run hR (sk9 (se_attr O (sn9 rfl (.inl rfl) rfl rfl) (fun _ => rfl)) (sk9 (sn9 rfl (.inr (.inl rfl)) rfl rfl) sz9 (fun _ => rfl)) (fun _ => rfl)) (fun _ => rfl)) (tg_tuple (.cons ⟨rfl, (.inl rfl)⟩ (.cons ⟨rfl, (.inl rfl)⟩ (.cons ⟨rfl, (.inl rfl)⟩ .nil)))) (fun _ => rfl) (fun env h => by cases env; cases h; rfl)) (sq9 (ss_new (sg_dict O ⟨X.no_dict, X.b_dict, rfl, rfl⟩ (sn9 rfl (.inl rfl) rfl rfl) (fun _ => rfl)) ⟨rfl, (.inl rfl)⟩ (fun _ => rfl)) (sq9 (ss_for (si_range O ⟨X.no_range, X.b_range, rfl, rfl⟩ (se_callV O ⟨X.no_len, X.b_len, rfl, rfl⟩ (callee_b "len") op_len (sk9 (se_attr O (sn9 rfl (.inl rfl) rfl rfl) (fun _ => rfl)) sz9 (fun _ => rfl)) (fun _ => rfl)) (fun _ => rfl)) (tg_name ⟨rfl, (.inl rfl)⟩) (sq9 (ss_setD ⟨rfl, (.inl rfl), rfl, rfl⟩ (sa9 O ⟨X.mg_law_run, rfl, rfl⟩ X.kp_law_run hR (sk9 (se_idx (se_attr O (sn9 rfl (.inl rfl) rfl rfl) (fun _ => rfl)) (sn9 rfl (.inl rfl) rfl rfl) (fun _ _ => rfl)) (sk9 (sn9 rfl (.inr (.inl rfl)) rfl rfl) sz9 (fun _ => rfl)) (fun _ => rfl)) (fun _ => rfl)) (se_idx (se_attr O (sn9 rfl (.inl rfl) rfl rfl) (fun _ => rfl)) (sn9 rfl (.inl rfl) rfl rfl) (fun _ _ => rfl)) (fun _ => rfl)) ss_nil) (fun _ _ => rfl)) (sq9 (ss_ret (sa9 O ⟨X.mg_law_run, rfl, rfl⟩ X.kp_law_run hR (sk9 (se_attr O (sn9 rfl (.inl rfl) rfl rfl) (fun _ => rfl)) (sk9 (sn9 rfl (.inl rfl) rfl rfl) sz9 (fun _ => rfl)) (fun _ => rfl)) (fun _ => rfl))) ss_nil)))) ss_nil) (sq9 (ss_set (sa9 O ⟨X.mg_law_run, rfl, rfl⟩ X.kp_law_run hR (sk9 (se_attr O (sn9 rfl (.inl rfl) rfl rfl) (fun _ => rfl)) (sk9 (sn9 rfl (.inr (.inl rfl)) rfl rfl) sz9 (fun _ => rfl)) (fun _ => rfl)) (fun _ => rfl)) ⟨rfl, (.inl rfl)⟩ (fun _ => rfl)) (sq9 (ss_setD ⟨rfl, (.inl rfl), rfl, rfl⟩ (sn9 rfl (.inl rfl) rfl rfl) (se_attr O (sn9 rfl (.inl rfl) rfl rfl) (fun _ => rfl)) (fun _ => rfl)) (sq9 (ss_for (si_val (se_attr O (sn9 rfl (.inl rfl) rfl rfl) (fun _ => rfl))) (tg_name ⟨rfl, (.inl rfl)⟩) (sq9 (ss_if (st_bool (sa_and (st_cmp O (se_idx (sn9 rfl (.inl rfl) rfl rfl) (sc9 rfl) (fun _ _ => rfl)) (sc9 rfl) rfl) (sa_and (st_cmp O (se_attr O (sn9 rfl (.inl rfl) rfl rfl) (fun _ => rfl)) (se_tup (sk9 (sc9 rfl) (sk9 (sc9 rfl) (sk9 (se_idx (sn9 rfl (.inl rfl) rfl rfl) (sc9 rfl) (fun _ _ => rfl)) sz9 (fun _ => rfl)) (fun _ => rfl)) (fun _ => rfl))) rfl) sa_nil_and))) (sq9 (ss_ret (sa9 O ⟨X.mg_law_run, rfl, rfl⟩ X.kp_law_run hR (sk9 (se_attr O (sn9 rfl (.inl rfl) rfl rfl) (fun _ => rfl)) (sk9 (sn9 rfl (.inl rfl) rfl rfl) sz9 (fun _ => rfl)) (fun _ => rfl)) (fun _ => rfl))) ss_nil) ss_nil) (sq9 (ss_if (st_bool (sa_and (st_cmp O (se_idx (sn9 rfl (.inl rfl) rfl rfl) (sc9 rfl) (fun _ _ => rfl)) (sc9 rfl) rfl) (sa_and (st_cmp O (se_attr O (sn9 rfl (.inl rfl) rfl rfl) (fun _ => rfl)) (se_tup (sk9 (sc9 rfl) (sk9 (se_idx (sn9 rfl (.inl rfl) rfl rfl) (sc9 rfl) (fun _ _ => rfl)) sz9 (fun _ => rfl)) (fun _ => rfl))) rfl) sa_nil_and))) (sq9 (ss_for (si_range O ⟨X.no_range, X.b_range, rfl, rfl⟩ (se_callV O ⟨X.no_len, X.b_len, rfl, rfl⟩ (callee_b "len") op_len (sk9 (se_attr O (sn9 rfl (.inl rfl) rfl rfl) (fun _ => rfl)) sz9 (fun _ => rfl)) (fun _ => rfl)) (fun _ => rfl)) (tg_name ⟨rfl, (.inl rfl)⟩) (sq9 (ss_setD ⟨rfl, (.inl rfl), rfl, rfl⟩ (se_idx (se_idx (sn9 rfl (.inl rfl) rfl rfl) (sc9 rfl) (fun _ _ => rfl)) (sn9 rfl (.inl rfl) rfl rfl) (fun _ _ => rfl)) (se_idx (se_attr O (sn9 rfl (.inl rfl) rfl rfl) (fun _ => rfl)) (sn9 rfl (.inl rfl) rfl rfl) (fun _ _ => rfl)) (fun _ => rfl)) ss_nil) (fun _ _ => rfl)) (sq9 (ss_ret (sa9 O ⟨X.mg_law_run, rfl, rfl⟩ X.kp_law_run hR (sk9 (se_attr O (sn9 rfl (.inl rfl) rfl rfl) (fun _ => rfl)) (sk9 (sn9 rfl (.inl rfl) rfl rfl) sz9 (fun _ => rfl)) (fun _ => rfl)) (fun _ => rfl))) ss_nil)) ss_nil) ss_nil)) (fun _ _ => rfl)) (sq9 (ss_ret (sa9 O ⟨X.mg_law_run, rfl, rfl⟩ X.kp_law_run hR (sk9 (se_attr O (sn9 rfl (.inl rfl) rfl rfl) (fun _ => rfl)) (sk9 (sn9 rfl (.inl rfl) rfl rfl) sz9 (fun _ => rfl)) (fun _ => rfl)) (fun _ => rfl))) ss_nil)))))))))))
noncomputable def S_law_run : Nat → List MV → Gst → Option (MV × Gst)
  | 0 => fun _ _ => none
  | n + 1 => specOf 2 10 (F_law_run (S_law_run n))
theorem sc_law_run (O : Ok C) (X : Fx C) : ∀ n, SC C n (.ref A_law_run) (S_law_run n) := by
  intro n
  induction n with
  | zero => intro A κ G G' s xs ms r R hR I hx hq k; cases hq
  | succ n ih => exact sc_fn O X.fn_law_run ⟨rfl, rfl, rfl, by decide +kernel, by decide +kernel, by decide⟩ (b_law_run O X ih)
noncomputable def F_law_alike : Ab → Option (Fl × Ab) :=
  (sSeq (sFor (fIt (fK9 (.int 3)) itRange) (tName 3) (sSeq (sNew 4 gD0) (sSeq (sFor (fIt (fLst (lC9 (fK9 (.str "a")) (lC9 (fK9 (.str "b")) l09))) itMV) (tName 5) (sSeq (sSetD 4 (fA9 (S_law_run RUN) (lC9 (fA9 S_law_cell (lC9 (gv9 0) (lC9 (fLst l09) l09))) (lC9 fD0 l09))) (gv9 5)) sNil)) (sSeq (sIf (asBool (f2 (fA9 (S_law_run RUN) (lC9 (gv9 1) (lC9 (gv9 4) l09))) (fA9 (S_law_run RUN) (lC9 (gv9 2) (lC9 (gv9 4) l09))) (pureOp (cmpMV .NotEq)))) (sSeq (sRet (fK9 (.bool false))) sNil) sNil) sNil)))) (sSeq (sRet (fK9 (.bool true))) sNil))
set_option maxHeartbeats 4000000 in
set_option maxRecDepth 100000 in
theorem b_law_alike (O : Ok C) (X : Fx C) : SSs C ⟨fScope (stAt 39), [("pen" : Str), ("one" : Str), ("other" : Str)] ++ [("turn" : Str), ("env" : Str), ("name" : Str)], true, .none⟩ 40 (fBody (stAt 39)) F_law_alike :=
  (sq9 (ss_for (si_range O ⟨X.no_range, X.b_range, rfl, rfl⟩ (sc9 rfl) (fun _ => rfl)) (tg_name ⟨rfl, (.inl rfl)⟩) (sq9 (ss_new sg_dict0 ⟨rfl, (.inl rfl)⟩ (fun _ => rfl)) (sq9 (ss_for (si_val (se_lst (sk9 (sc9 rfl) (sk9 (sc9 rfl) sz9 (fun _ => rfl)) (fun _ => rfl)))) (tg_name ⟨rfl, (.inl rfl)⟩) (sq9 (ss_setD ⟨rfl, (.inl rfl), rfl, rfl⟩ (sa9 O ⟨X.mg_law_run, rfl, rfl⟩ X.kp_law_run (SC.le (sc_law_run O X RUN) (by decide)) (sk9 (sa9 O ⟨X.mg_law_cell, rfl, rfl⟩ X.kp_law_cell (SC.le (sc_law_cell O X) (by decide)) (sk9 (sn9 rfl (.inl rfl) rfl rfl) (sk9 (se_lst sz9) sz9 (fun _ => rfl)) (fun _ => rfl)) (fun _ => rfl)) (sk9 se_dict0 sz9 (fun _ => rfl)) (fun _ => rfl)) (fun _ => rfl)) (sn9 rfl (.inl rfl) rfl rfl) (fun _ => rfl)) ss_nil) (fun _ _ => rfl)) (sq9 (ss_if (st_cmp O (sa9 O ⟨X.mg_law_run, rfl, rfl⟩ X.kp_law_run (SC.le (sc_law_run O X RUN) (by decide)) (sk9 (sn9 rfl (.inl rfl) rfl rfl) (sk9 (sn9 rfl (.inl rfl) rfl rfl) sz9 (fun _ => rfl)) (fun _ => rfl)) (fun _ => rfl)) (sa9 O ⟨X.mg_law_run, rfl, rfl⟩ X.kp_law_run (SC.le (sc_law_run O X RUN) (by decide)) (sk9 (sn9 rfl (.inl rfl) rfl rfl) (sk9 (sn9 rfl (.inl rfl) rfl rfl) sz9 (fun _ => rfl)) (fun _ => rfl)) (fun _ => rfl)) rfl) (sq9 (ss_ret (sc9 rfl)) ss_nil) ss_nil) ss_nil))) (fun _ _ => rfl)) (sq9 (ss_ret (sc9 rfl)) ss_nil))
noncomputable def S_law_alike : List MV → Gst → Option (MV × Gst) := specOf 3 3 F_law_alike
theorem sc_law_alike (O : Ok C) (X : Fx C) : SC C 41 (.ref A_law_alike) S_law_alike := sc_fn O X.fn_law_alike ⟨rfl, rfl, rfl, by decide +kernel, by decide +kernel, by decide⟩ (b_law_alike O X)
noncomputable def F_law_inner : Ab → Option (Fl × Ab) :=
  (sSeq (sSet 1 (f2 (fK9 (.str "pqm")) (fA9 S_law_next (lC9 (gv9 0) (lC9 (fK9 (.int 3)) l09))) fIdx)) (sSeq (sNew 2 (gLst (lC9 (fA9 (clsSpec 5) (lC9 (fTup (lC9 (fK9 (.str "con")) (lC9 (fK9 (.str "B")) l09))) (lC9 (fLst (lC9 (fK9 (.str "r")) l09)) (lC9 (fA9 S_law_cell (lC9 (gv9 0) (lC9 (fLst (lC9 (fK9 (.str "r")) (lC9 (gv9 1) l09))) l09))) l09)))) l09))) (sSeq (sIf (asBool (f2 (fA9 S_law_next (lC9 (gv9 0) (lC9 (fK9 (.int 2)) l09))) (fK9 (.int 0)) (pureOp (cmpMV .Eq)))) (sSeq (sApp 2 (fA9 (clsSpec 5) (lC9 (fTup (lC9 (fK9 (.str "con")) (lC9 (fK9 (.str "C")) l09))) (lC9 (fLst (lC9 (fK9 (.str "q")) (lC9 (fK9 (.str "p")) l09))) (lC9 (fA9 S_law_cell (lC9 (gv9 0) (lC9 (fLst (lC9 (fK9 (.str "q")) (lC9 (fK9 (.str "p")) (lC9 (gv9 1) l09)))) l09))) l09))))) sNil) sNil) (sSeq (sSet 3 (fIf (asBool (f2 (fA9 S_law_next (lC9 (gv9 0) (lC9 (fK9 (.int 3)) l09))) (fK9 (.int 0)) (pureOp (cmpMV .Eq)))) (fA9 (clsSpec 1) (lC9 (fK9 (.str "int")) (lC9 (fK9 (.int 7)) l09))) (fA9 S_law_cell (lC9 (gv9 0) (lC9 (fLst (lC9 (gv9 1) l09)) l09))))) (sSeq (sRet (fA9 (clsSpec 6) (lC9 (fA9 (clsSpec 0) (lC9 (f2 (fLst (lC9 (fK9 (.str "a")) (lC9 (fK9 (.str "b")) l09))) (fA9 S_law_next (lC9 (gv9 0) (lC9 (fK9 (.int 2)) l09))) fIdx) l09)) (lC9 (gv9 1) (lC9 (gv9 2) (lC9 (gv9 3) l09)))))) sNil)))))
set_option maxHeartbeats 4000000 in
set_option maxRecDepth 100000 in
theorem b_law_inner (O : Ok C) (X : Fx C) : SSs C ⟨fScope (stAt 36), [("pen" : Str)] ++ [("own" : Str), ("alts" : Str), ("other" : Str)], true, .none⟩ 4 (fBody (stAt 36)) F_law_inner :=
  (sq9 (ss_set (se_idx (sc9 rfl) (sa9 O ⟨X.mg_law_next, rfl, rfl⟩ X.kp_law_next (SC.le (sc_law_next O X) (by decide)) (sk9 (sn9 rfl (.inl rfl) rfl rfl) (sk9 (sc9 rfl) sz9 (fun _ => rfl)) (fun _ => rfl)) (fun _ => rfl)) (fun _ _ => rfl)) ⟨rfl, (.inl rfl)⟩ (fun _ => rfl)) (sq9 (ss_new (sg_list (sk9 (sa9 O ⟨X.mg_Alt, rfl, rfl⟩ X.kp_Alt (SC.le (sc_class O X.cls_Alt (d := 0)) (by decide)) (sk9 (se_tup (sk9 (sc9 rfl) (sk9 (sc9 rfl) sz9 (fun _ => rfl)) (fun _ => rfl))) (sk9 (se_lst (sk9 (sc9 rfl) sz9 (fun _ => rfl))) (sk9 (sa9 O ⟨X.mg_law_cell, rfl, rfl⟩ X.kp_law_cell (SC.le (sc_law_cell O X) (by decide)) (sk9 (sn9 rfl (.inl rfl) rfl rfl) (sk9 (se_lst (sk9 (sc9 rfl) (sk9 (sn9 rfl (.inl rfl) rfl rfl) sz9 (fun _ => rfl)) (fun _ => rfl))) sz9 (fun _ => rfl)) (fun _ => rfl)) (fun _ => rfl)) sz9 (fun _ => rfl)) (fun _ => rfl)) (fun _ => rfl)) (fun _ => rfl)) sz9 (fun _ => rfl))) ⟨rfl, (.inl rfl)⟩ (fun _ => rfl)) (sq9 (ss_if (st_cmp O (sa9 O ⟨X.mg_law_next, rfl, rfl⟩ X.kp_law_next (SC.le (sc_law_next O X) (by decide)) (sk9 (sn9 rfl (.inl rfl) rfl rfl) (sk9 (sc9 rfl) sz9 (fun _ => rfl)) (fun _ => rfl)) (fun _ => rfl)) (sc9 rfl) rfl) (sq9 (ss_append O ⟨rfl, (.inl rfl), rfl, rfl⟩ (sa9 O ⟨X.mg_Alt, rfl, rfl⟩ X.kp_Alt (SC.le (sc_class O X.cls_Alt (d := 0)) (by decide)) (sk9 (se_tup (sk9 (sc9 rfl) (sk9 (sc9 rfl) sz9 (fun _ => rfl)) (fun _ => rfl))) (sk9 (se_lst (sk9 (sc9 rfl) (sk9 (sc9 rfl) sz9 (fun _ => rfl)) (fun _ => rfl))) (sk9 (sa9 O ⟨X.mg_law_cell, rfl, rfl⟩ X.kp_law_cell (SC.le (sc_law_cell O X) (by decide)) (sk9 (sn9 rfl (.inl rfl) rfl rfl) (sk9 (se_lst (sk9 (sc9 rfl) (sk9 (sc9 rfl) (sk9 (sn9 rfl (.inl rfl) rfl rfl) sz9 (fun _ => rfl)) (fun _ => rfl)) (fun _ => rfl))) sz9 (fun _ => rfl)) (fun _ => rfl)) (fun _ => rfl)) sz9 (fun _ => rfl)) (fun _ => rfl)) (fun _ => rfl)) (fun _ => rfl)) (fun _ => rfl) (fun _ => rfl) _ (fun _ => rfl)) ss_nil) ss_nil) (sq9 (ss_set (se_if (st_cmp O (sa9 O ⟨X.mg_law_next, rfl, rfl⟩ X.kp_law_next (SC.le (sc_law_next O X) (by decide)) (sk9 (sn9 rfl (.inl rfl) rfl rfl) (sk9 (sc9 rfl) sz9 (fun _ => rfl)) (fun _ => rfl)) (fun _ => rfl)) (sc9 rfl) rfl) (sa9 O ⟨X.mg_Lit, rfl, rfl⟩ X.kp_Lit (SC.le (sc_class O X.cls_Lit (d := 0)) (by decide)) (sk9 (sc9 rfl) (sk9 (sc9 rfl) sz9 (fun _ => rfl)) (fun _ => rfl)) (fun _ => rfl)) (sa9 O ⟨X.mg_law_cell, rfl, rfl⟩ X.kp_law_cell (SC.le (sc_law_cell O X) (by decide)) (sk9 (sn9 rfl (.inl rfl) rfl rfl) (sk9 (se_lst (sk9 (sn9 rfl (.inl rfl) rfl rfl) sz9 (fun _ => rfl))) sz9 (fun _ => rfl)) (fun _ => rfl)) (fun _ => rfl))) ⟨rfl, (.inl rfl)⟩ (fun _ => rfl)) (sq9 (ss_ret (sa9 O ⟨X.mg_Case, rfl, rfl⟩ X.kp_Case (SC.le (sc_class O X.cls_Case (d := 0)) (by decide)) (sk9 (sa9 O ⟨X.mg_Var, rfl, rfl⟩ X.kp_Var (SC.le (sc_class O X.cls_Var (d := 0)) (by decide)) (sk9 (se_idx (se_lst (sk9 (sc9 rfl) (sk9 (sc9 rfl) sz9 (fun _ => rfl)) (fun _ => rfl))) (sa9 O ⟨X.mg_law_next, rfl, rfl⟩ X.kp_law_next (SC.le (sc_law_next O X) (by decide)) (sk9 (sn9 rfl (.inl rfl) rfl rfl) (sk9 (sc9 rfl) sz9 (fun _ => rfl)) (fun _ => rfl)) (fun _ => rfl)) (fun _ _ => rfl)) sz9 (fun _ => rfl)) (fun _ => rfl)) (sk9 (sn9 rfl (.inl rfl) rfl rfl) (sk9 (sn9 rfl (.inl rfl) rfl rfl) (sk9 (sn9 rfl (.inl rfl) rfl rfl) sz9 (fun _ => rfl)) (fun _ => rfl)) (fun _ => rfl)) (fun _ => rfl)) (fun _ => rfl))) ss_nil)))))
noncomputable def S_law_inner : List MV → Gst → Option (MV × Gst) := specOf 1 3 F_law_inner
theorem sc_law_inner (O : Ok C) (X : Fx C) : SC C 5 (.ref A_law_inner) S_law_inner := sc_fn O X.fn_law_inner ⟨rfl, rfl, rfl, by decide +kernel, by decide +kernel, by decide⟩ (b_law_inner O X)
noncomputable def F_law_end : Ab → Option (Fl × Ab) :=
  (sSeq (sRet (fA9 (clsSpec 7) (lC9 (fK9 (.str "T")) (lC9 (fComp 1 [0, 1] (fIt (fK9 (.int 3)) itRange) (tName 1) (fA9 S_law_atom (lC9 (gv9 2) (lC9 (gv9 3) l09)))) l09)))) sNil)
set_option maxHeartbeats 4000000 in
set_option maxRecDepth 100000 in
theorem b_law_end (O : Ok C) (X : Fx C) : SSs C ⟨fScope (stAt 34), [("pen" : Str), ("names" : Str)] ++ [], true, .none⟩ 3 (fBody (stAt 34)) F_law_end :=
  (sq9 (ss_ret (sa9 O ⟨X.mg_Con, rfl, rfl⟩ X.kp_Con (SC.le (sc_class O X.cls_Con (d := 0)) (by decide)) (sk9 (sc9 rfl) (sk9 (se_comp (K := (⟨rfl, rfl, rfl, rfl, rfl, rfl, by decide, rfl, rfl⟩ : CompOk _ _ [("turn" : Str)] [("pen" : Str), ("names" : Str)] [0, 1])) (si_range O ⟨X.no_range, X.b_range, rfl, rfl⟩ (sc9 rfl) (fun _ => rfl)) (tg_name ⟨rfl, (.inl rfl)⟩) (sa9 O ⟨X.mg_law_atom, rfl, rfl⟩ X.kp_law_atom (SC.le (sc_law_atom O X) (by decide)) (sk9 (sn9 rfl (.inr (.inl rfl)) rfl rfl) (sk9 (sn9 rfl (.inr (.inl rfl)) rfl rfl) sz9 (fun _ => rfl)) (fun _ => rfl)) (fun _ => rfl)) (fun _ _ => rfl)) sz9 (fun _ => rfl)) (fun _ => rfl)) (fun _ => rfl))) ss_nil)
noncomputable def S_law_end : List MV → Gst → Option (MV × Gst) := specOf 2 0 F_law_end
theorem sc_law_end (O : Ok C) (X : Fx C) : SC C 4 (.ref A_law_end) S_law_end := sc_fn O X.fn_law_end ⟨rfl, rfl, rfl, by decide +kernel, by decide +kernel, by decide⟩ (b_law_end O X)
noncomputable def F_law_outer : Ab → Option (Fl × Ab) :=
  (sSeq (sPair 3 4 (pVal (f2 (fK9 (.str "pqr")) (fA9 S_law_next (lC9 (gv9 0) (lC9 (fK9 (.int 3)) l09))) fIdx) (gLst l09))) (sSeq (sFor (fIt (fK9 (.str "ABCD")) itMV) (tName 5) (sSeq (sIf (asBool (f2 (fA9 S_law_next (lC9 (gv9 0) (lC9 (fK9 (.int 3)) l09))) (fK9 (.int 0)) (pureOp (cmpMV .Gt)))) (sSeq (sSet 6 (f2 (fLst (lC9 (fK9 (.str "q")) (lC9 (fK9 (.str "r")) (lC9 (fK9 (.str "s")) l09)))) (fBase sizes (gv9 5)) (pureOp takeMV))) (sSeq (sApp 4 (fA9 (clsSpec 5) (lC9 (fTup (lC9 (fK9 (.str "con")) (lC9 (gv9 5) l09))) (lC9 (gv9 6) (lC9 (fA9 S_law_end (lC9 (gv9 0) (lC9 (f2 (f2 (fLst (lC9 (gv9 3) l09)) (gv9 6) (pureOp (binMV .Add))) (gv9 6) (pureOp (binMV .Add))) l09))) l09))))) sNil)) sNil) sNil)) (sSeq (sIf (asBool (f2 (fA9 S_law_next (lC9 (gv9 0) (lC9 (fK9 (.int 2)) l09))) (fK9 (.int 0)) (pureOp (cmpMV .Eq)))) (sSeq (sApp 4 (fA9 (clsSpec 5) (lC9 (fTup (lC9 (fK9 (.str "lit")) (lC9 (fK9 (.str "int")) (lC9 (fK9 (.int 7)) l09)))) (lC9 (fLst l09) (lC9 (fA9 S_law_end (lC9 (gv9 0) (lC9 (fLst (lC9 (gv9 3) l09)) l09))) l09))))) sNil) sNil) (sSeq (sSet 4 (f2 (gv9 4) (gv9 2) (pureOp takeMV))) (sSeq (sRet (fA9 (clsSpec 6) (lC9 (gv9 1) (lC9 (gv9 3) (lC9 (gv9 4) (lC9 (fA9 S_law_end (lC9 (gv9 0) (lC9 (fLst (lC9 (gv9 3) (lC9 (gv9 3) l09))) l09))) l09)))))) sNil)))))
set_option maxHeartbeats 4000000 in
set_option maxRecDepth 100000 in
theorem b_law_outer (O : Ok C) (X : Fx C) : SSs C ⟨fScope (stAt 35), [("pen" : Str), ("value" : Str), ("few" : Str)] ++ [("own" : Str), ("alts" : Str), ("name" : Str), ("fields" : Str)], true, .none⟩ 4 (fBody (stAt 35)) F_law_outer :=
  (sq9 (ss_pair (sp_val (se_idx (sc9 rfl) (sa9 O ⟨X.mg_law_next, rfl, rfl⟩ X.kp_law_next (SC.le (sc_law_next O X) (by decide)) (sk9 (sn9 rfl (.inl rfl) rfl rfl) (sk9 (sc9 rfl) sz9 (fun _ => rfl)) (fun _ => rfl)) (fun _ => rfl)) (fun _ _ => rfl)) (sg_list sz9) (fun _ => ⟨rfl, rfl⟩)) rfl rfl rfl rfl (fun _ => rfl) (fun env h => by cases env; cases h; rfl)) (sq9 (ss_for (si_val (sc9 rfl)) (tg_name ⟨rfl, (.inl rfl)⟩) (sq9 (ss_if (st_cmp O (sa9 O ⟨X.mg_law_next, rfl, rfl⟩ X.kp_law_next (SC.le (sc_law_next O X) (by decide)) (sk9 (sn9 rfl (.inl rfl) rfl rfl) (sk9 (sc9 rfl) sz9 (fun _ => rfl)) (fun _ => rfl)) (fun _ => rfl)) (sc9 rfl) rfl) (sq9 (ss_set (se_take (se_lst (sk9 (sc9 rfl) (sk9 (sc9 rfl) (sk9 (sc9 rfl) sz9 (fun _ => rfl)) (fun _ => rfl)) (fun _ => rfl))) (se_base O ⟨X.mg_law_sizes, rfl, rfl⟩ X.sizes (sn9 rfl (.inl rfl) rfl rfl) (fun _ _ => rfl))) ⟨rfl, (.inl rfl)⟩ (fun _ => rfl)) (sq9 (ss_append O ⟨rfl, (.inl rfl), rfl, rfl⟩ (sa9 O ⟨X.mg_Alt, rfl, rfl⟩ X.kp_Alt (SC.le (sc_class O X.cls_Alt (d := 0)) (by decide)) (sk9 (se_tup (sk9 (sc9 rfl) (sk9 (sn9 rfl (.inl rfl) rfl rfl) sz9 (fun _ => rfl)) (fun _ => rfl))) (sk9 (sn9 rfl (.inl rfl) rfl rfl) (sk9 (sa9 O ⟨X.mg_law_end, rfl, rfl⟩ X.kp_law_end (SC.le (sc_law_end O X) (by decide)) (sk9 (sn9 rfl (.inl rfl) rfl rfl) (sk9 (se_bin (se_bin (se_lst (sk9 (sn9 rfl (.inl rfl) rfl rfl) sz9 (fun _ => rfl))) (sn9 rfl (.inl rfl) rfl rfl)) (sn9 rfl (.inl rfl) rfl rfl)) sz9 (fun _ => rfl)) (fun _ => rfl)) (fun _ => rfl)) sz9 (fun _ => rfl)) (fun _ => rfl)) (fun _ => rfl)) (fun _ => rfl)) (fun _ => rfl) (fun _ => rfl) _ (fun _ => rfl)) ss_nil)) ss_nil) ss_nil) (fun _ _ => rfl)) (sq9 (ss_if (st_cmp O (sa9 O ⟨X.mg_law_next, rfl, rfl⟩ X.kp_law_next (SC.le (sc_law_next O X) (by decide)) (sk9 (sn9 rfl (.inl rfl) rfl rfl) (sk9 (sc9 rfl) sz9 (fun _ => rfl)) (fun _ => rfl)) (fun _ => rfl)) (sc9 rfl) rfl) (sq9 (ss_append O ⟨rfl, (.inl rfl), rfl, rfl⟩ (sa9 O ⟨X.mg_Alt, rfl, rfl⟩ X.kp_Alt (SC.le (sc_class O X.cls_Alt (d := 0)) (by decide)) (sk9 (se_tup (sk9 (sc9 rfl) (sk9 (sc9 rfl) (sk9 (sc9 rfl) sz9 (fun _ => rfl)) (fun _ => rfl)) (fun _ => rfl))) (sk9 (se_lst sz9) (sk9 (sa9 O ⟨X.mg_law_end, rfl, rfl⟩ X.kp_law_end (SC.le (sc_law_end O X) (by decide)) (sk9 (sn9 rfl (.inl rfl) rfl rfl) (sk9 (se_lst (sk9 (sn9 rfl (.inl rfl) rfl rfl) sz9 (fun _ => rfl))) sz9 (fun _ => rfl)) (fun _ => rfl)) (fun _ => rfl)) sz9 (fun _ => rfl)) (fun _ => rfl)) (fun _ => rfl)) (fun _ => rfl)) (fun _ => rfl) (fun _ => rfl) _ (fun _ => rfl)) ss_nil) ss_nil) (sq9 (ss_set (se_take (sn9 rfl (.inl rfl) rfl rfl) (sn9 rfl (.inl rfl) rfl rfl)) ⟨rfl, (.inl rfl)⟩ (fun _ => rfl)) (sq9 (ss_ret (sa9 O ⟨X.mg_Case, rfl, rfl⟩ X.kp_Case (SC.le (sc_class O X.cls_Case (d := 0)) (by decide)) (sk9 (sn9 rfl (.inl rfl) rfl rfl) (sk9 (sn9 rfl (.inl rfl) rfl rfl) (sk9 (sn9 rfl (.inl rfl) rfl rfl) (sk9 (sa9 O ⟨X.mg_law_end, rfl, rfl⟩ X.kp_law_end (SC.le (sc_law_end O X) (by decide)) (sk9 (sn9 rfl (.inl rfl) rfl rfl) (sk9 (se_lst (sk9 (sn9 rfl (.inl rfl) rfl rfl) (sk9 (sn9 rfl (.inl rfl) rfl rfl) sz9 (fun _ => rfl)) (fun _ => rfl))) sz9 (fun _ => rfl)) (fun _ => rfl)) (fun _ => rfl)) sz9 (fun _ => rfl)) (fun _ => rfl)) (fun _ => rfl)) (fun _ => rfl)) (fun _ => rfl))) ss_nil)))))
noncomputable def S_law_outer : List MV → Gst → Option (MV × Gst) := specOf 3 4 F_law_outer
theorem sc_law_outer (O : Ok C) (X : Fx C) : SC C 5 (.ref A_law_outer) S_law_outer := sc_fn O X.fn_law_outer ⟨rfl, rfl, rfl, by decide +kernel, by decide +kernel, by decide⟩ (b_law_outer O X)
noncomputable def F_law_within_lets : Ab → Option (Fl × Ab) :=
  (sSeq (sWhile (asBool (f1 (gv9 0) (opIsi 4))) (sSeq (sSet 0 (f1 (gv9 0) (fAttr "body"))) sNil) N) (sSeq (sRet (gv9 0)) sNil))
set_option maxHeartbeats 4000000 in
set_option maxRecDepth 100000 in
theorem b_law_within_lets (O : Ok C) (X : Fx C) : SSs C ⟨fScope (stAt 38), [("expr" : Str)] ++ [], true, .none⟩ 0 (fBody (stAt 38)) F_law_within_lets :=
  (sq9 (ss_while N (st_val (se_isi O ⟨X.no_isinstance, X.b_isinstance, rfl, rfl⟩ (by decide) ⟨X.mg_Let, rfl, rfl⟩ (sn9 rfl (.inl rfl) rfl rfl) (fun _ => rfl)) (fun _ _ => rfl)) (sq9 (ss_set (se_attr O (sn9 rfl (.inl rfl) rfl rfl) (fun _ => rfl)) ⟨rfl, (.inl rfl)⟩ (fun _ => rfl)) ss_nil)) (sq9 (ss_ret (sn9 rfl (.inl rfl) rfl rfl)) ss_nil))
noncomputable def S_law_within_lets : List MV → Gst → Option (MV × Gst) := specOf 1 0 F_law_within_lets
theorem sc_law_within_lets (O : Ok C) (X : Fx C) : SC C 1 (.ref A_law_within_lets) S_law_within_lets := sc_fn O X.fn_law_within_lets ⟨rfl, rfl, rfl, by decide +kernel, by decide +kernel, by decide⟩ (b_law_within_lets O X)
noncomputable def F_Var_groups : Ab → Option (Fl × Ab) :=
  (sSeq (sRet (fLst l09)) sNil)
set_option maxHeartbeats 4000000 in
set_option maxRecDepth 100000 in
theorem b_Var_groups (O : Ok C) (X : Fx C) : SSs C ⟨fScope (within (stAt 1) 1), [("self" : Str)] ++ [], true, .none⟩ 0 (fBody (within (stAt 1) 1)) F_Var_groups :=
  (sq9 (ss_ret (se_lst sz9)) ss_nil)
noncomputable def S_Var_groups : List MV → Gst → Option (MV × Gst) := specOf 1 0 F_Var_groups
theorem sc_Var_groups (O : Ok C) (X : Fx C) : SC C 1 (.ref A_Var_groups) S_Var_groups := sc_fn O X.fn_Var_groups ⟨rfl, rfl, rfl, by decide +kernel, by decide +kernel, by decide⟩ (b_Var_groups O X)
noncomputable def F_Lit_groups : Ab → Option (Fl × Ab) :=
  (sSeq (sRet (fLst l09)) sNil)
set_option maxHeartbeats 4000000 in
set_option maxRecDepth 100000 in
theorem b_Lit_groups (O : Ok C) (X : Fx C) : SSs C ⟨fScope (within (stAt 2) 1), [("self" : Str)] ++ [], true, .none⟩ 0 (fBody (within (stAt 2) 1)) F_Lit_groups :=
  (sq9 (ss_ret (se_lst sz9)) ss_nil)
noncomputable def S_Lit_groups : List MV → Gst → Option (MV × Gst) := specOf 1 0 F_Lit_groups
theorem sc_Lit_groups (O : Ok C) (X : Fx C) : SC C 1 (.ref A_Lit_groups) S_Lit_groups := sc_fn O X.fn_Lit_groups ⟨rfl, rfl, rfl, by decide +kernel, by decide +kernel, by decide⟩ (b_Lit_groups O X)
noncomputable def F_Let_groups : Ab → Option (Fl × Ab) :=
  (sSeq (sRet (fLst (lC9 (fComp 2 [] (fIt (f1 (gv9 0) (fAttr "binds")) itMV) (tTup [1, 2]) (gv9 1)) l09))) sNil)
set_option maxHeartbeats 4000000 in
set_option maxRecDepth 100000 in
theorem b_Let_groups (O : Ok C) (X : Fx C) : SSs C ⟨fScope (within (stAt 5) 1), [("self" : Str)] ++ [], true, .none⟩ 0 (fBody (within (stAt 5) 1)) F_Let_groups :=
  (sq9 (ss_ret (se_lst (sk9 (se_comp (K := (⟨rfl, rfl, rfl, rfl, rfl, rfl, by decide, rfl, rfl⟩ : CompOk _ _ [("name" : Str), ("expr" : Str)] [] [])) (si_val (se_attr O (sn9 rfl (.inl rfl) rfl rfl) (fun _ => rfl))) (tg_tuple (.cons ⟨rfl, (.inl rfl)⟩ (.cons ⟨rfl, (.inl rfl)⟩ .nil))) (sn9 rfl (.inl rfl) rfl rfl) (fun _ _ => rfl)) sz9 (fun _ => rfl)))) ss_nil)
noncomputable def S_Let_groups : List MV → Gst → Option (MV × Gst) := specOf 1 0 F_Let_groups
theorem sc_Let_groups (O : Ok C) (X : Fx C) : SC C 1 (.ref A_Let_groups) S_Let_groups := sc_fn O X.fn_Let_groups ⟨rfl, rfl, rfl, by decide +kernel, by decide +kernel, by decide⟩ (b_Let_groups O X)
noncomputable def F_Case_groups : Ab → Option (Fl × Ab) :=
  (sSeq (sRet (f2 (fLst (lC9 (fLst (lC9 (f1 (gv9 0) (fAttr "name")) l09)) l09)) (fComp 1 [] (fIt (f1 (gv9 0) (fAttr "alts")) itMV) (tName 1) (f1 (gv9 1) (fAttr "names"))) (pureOp (binMV .Add)))) sNil)
set_option maxHeartbeats 4000000 in
set_option maxRecDepth 100000 in
theorem b_Case_groups (O : Ok C) (X : Fx C) : SSs C ⟨fScope (within (stAt 7) 1), [("self" : Str)] ++ [], true, .none⟩ 0 (fBody (within (stAt 7) 1)) F_Case_groups :=
  (sq9 (ss_ret (se_bin (se_lst (sk9 (se_lst (sk9 (se_attr O (sn9 rfl (.inl rfl) rfl rfl) (fun _ => rfl)) sz9 (fun _ => rfl))) sz9 (fun _ => rfl))) (se_comp (K := (⟨rfl, rfl, rfl, rfl, rfl, rfl, by decide, rfl, rfl⟩ : CompOk _ _ [("alt" : Str)] [] [])) (si_val (se_attr O (sn9 rfl (.inl rfl) rfl rfl) (fun _ => rfl))) (tg_name ⟨rfl, (.inl rfl)⟩) (se_attr O (sn9 rfl (.inl rfl) rfl rfl) (fun _ => rfl)) (fun _ _ => rfl)))) ss_nil)
noncomputable def S_Case_groups : List MV → Gst → Option (MV × Gst) := specOf 1 0 F_Case_groups
theorem sc_Case_groups (O : Ok C) (X : Fx C) : SC C 1 (.ref A_Case_groups) S_Case_groups := sc_fn O X.fn_Case_groups ⟨rfl, rfl, rfl, by decide +kernel, by decide +kernel, by decide⟩ (b_Case_groups O X)
noncomputable def F_Con_groups : Ab → Option (Fl × Ab) :=
  (sSeq (sRet (fLst l09)) sNil)
set_option maxHeartbeats 4000000 in
set_option maxRecDepth 100000 in
theorem b_Con_groups (O : Ok C) (X : Fx C) : SSs C ⟨fScope (within (stAt 8) 1), [("self" : Str)] ++ [], true, .none⟩ 0 (fBody (within (stAt 8) 1)) F_Con_groups :=
  (sq9 (ss_ret (se_lst sz9)) ss_nil)
noncomputable def S_Con_groups : List MV → Gst → Option (MV × Gst) := specOf 1 0 F_Con_groups
theorem sc_Con_groups (O : Ok C) (X : Fx C) : SC C 1 (.ref A_Con_groups) S_Con_groups := sc_fn O X.fn_Con_groups ⟨rfl, rfl, rfl, by decide +kernel, by decide +kernel, by decide⟩ (b_Con_groups O X)
noncomputable def D_groups : Nat → Option (List MV → Gst → Option (MV × Gst))
  | 0 => some S_Var_groups
  | 1 => some S_Lit_groups
  | 4 => some S_Let_groups
  | 6 => some S_Case_groups
  | 7 => some S_Con_groups
  | _ => none
theorem dp_groups (O : Ok C) (X : Fx C) : Disp C 1 "groups" D_groups := by
  intro c sp h
  unfold D_groups at h
  split at h
  · cases h; exact ⟨A_Var_groups, by decide, X.m_Var_groups.1, X.m_Var_groups.2.1, X.m_Var_groups.2.2.1, X.m_Var_groups.2.2.2, by decide, SC.le (sc_Var_groups O X) (by decide)⟩
  · cases h; exact ⟨A_Lit_groups, by decide, X.m_Lit_groups.1, X.m_Lit_groups.2.1, X.m_Lit_groups.2.2.1, X.m_Lit_groups.2.2.2, by decide, SC.le (sc_Lit_groups O X) (by decide)⟩
  · cases h; exact ⟨A_Let_groups, by decide, X.m_Let_groups.1, X.m_Let_groups.2.1, X.m_Let_groups.2.2.1, X.m_Let_groups.2.2.2, by decide, SC.le (sc_Let_groups O X) (by decide)⟩
  · cases h; exact ⟨A_Case_groups, by decide, X.m_Case_groups.1, X.m_Case_groups.2.1, X.m_Case_groups.2.2.1, X.m_Case_groups.2.2.2, by decide, SC.le (sc_Case_groups O X) (by decide)⟩
  · cases h; exact ⟨A_Con_groups, by decide, X.m_Con_groups.1, X.m_Con_groups.2.1, X.m_Con_groups.2.2.1, X.m_Con_groups.2.2.2, by decide, SC.le (sc_Con_groups O X) (by decide)⟩
  · exact ns9 h
noncomputable def F_Renamer_inner : Ab → Option (Fl × Ab) :=
  (sSeq (sIf (asBool (f2 (gv9 2) (fTup l09) (pureOp (cmpMV .Eq)))) (sSeq (sRet (gv9 1)) sNil) sNil) (sSeq (sNew 5 (gDict (gv9 1))) (sSeq (sFor (fIt (gv9 2) itMV) (tName 6) (sSeq (sFor (fIt (fA9 opLen (lC9 (f2 (gv9 3) (gv9 6) fIdx) l09)) itRange) (tName 7) (sSeq (sSetD 5 (f2 (f2 (gv9 4) (gv9 6) fIdx) (gv9 7) fIdx) (f2 (f2 (gv9 3) (gv9 6) fIdx) (gv9 7) fIdx)) sNil)) sNil)) (sSeq (sRet (gv9 5)) sNil))))
set_option maxHeartbeats 4000000 in
set_option maxRecDepth 100000 in
theorem b_Renamer_inner (O : Ok C) (X : Fx C) : SSs C ⟨fScope (within (stAt 10) 2), [("self" : Str), ("names" : Str), ("scope" : Str), ("groups" : Str), ("news" : Str)] ++ [("found" : Str), ("number" : Str), ("at" : Str)], true, .none⟩ 0 (fBody (within (stAt 10) 2)) F_Renamer_inner :=
  (sq9 (ss_if (st_cmp O (sn9 rfl (.inl rfl) rfl rfl) (se_tup sz9) rfl) (sq9 (ss_ret (sn9 rfl (.inl rfl) rfl rfl)) ss_nil) ss_nil) (sq9 (ss_new (sg_dict O ⟨X.no_dict, X.b_dict, rfl, rfl⟩ (sn9 rfl (.inl rfl) rfl rfl) (fun _ => rfl)) ⟨rfl, (.inl rfl)⟩ (fun _ => rfl)) (sq9 (ss_for (si_val (sn9 rfl (.inl rfl) rfl rfl)) (tg_name ⟨rfl, (.inl rfl)⟩) (sq9 (ss_for (si_range O ⟨X.no_range, X.b_range, rfl, rfl⟩ (se_callV O ⟨X.no_len, X.b_len, rfl, rfl⟩ (callee_b "len") op_len (sk9 (se_idx (sn9 rfl (.inl rfl) rfl rfl) (sn9 rfl (.inl rfl) rfl rfl) (fun _ _ => rfl)) sz9 (fun _ => rfl)) (fun _ => rfl)) (fun _ => rfl)) (tg_name ⟨rfl, (.inl rfl)⟩) (sq9 (ss_setD ⟨rfl, (.inl rfl), rfl, rfl⟩ (se_idx (se_idx (sn9 rfl (.inl rfl) rfl rfl) (sn9 rfl (.inl rfl) rfl rfl) (fun _ _ => rfl)) (sn9 rfl (.inl rfl) rfl rfl) (fun _ _ => rfl)) (se_idx (se_idx (sn9 rfl (.inl rfl) rfl rfl) (sn9 rfl (.inl rfl) rfl rfl) (fun _ _ => rfl)) (sn9 rfl (.inl rfl) rfl rfl) (fun _ _ => rfl)) (fun _ => rfl)) ss_nil) (fun _ _ => rfl)) ss_nil) (fun _ _ => rfl)) (sq9 (ss_ret (sn9 rfl (.inl rfl) rfl rfl)) ss_nil))))
noncomputable def S_Renamer_inner : List MV → Gst → Option (MV × Gst) := specOf 5 3 F_Renamer_inner
theorem sc_Renamer_inner (O : Ok C) (X : Fx C) : SC C 1 (.ref A_Renamer_inner) S_Renamer_inner := sc_fn O X.fn_Renamer_inner ⟨rfl, rfl, rfl, by decide +kernel, by decide +kernel, by decide⟩ (b_Renamer_inner O X)
noncomputable def D_inner : Nat → Option (List MV → Gst → Option (MV × Gst))
  | 8 => some S_Renamer_inner
  | _ => none
theorem dp_inner (O : Ok C) (X : Fx C) : Disp C 1 "inner" D_inner := by
  intro c sp h
  unfold D_inner at h
  split at h
  · cases h; exact ⟨A_Renamer_inner, by decide, X.m_Renamer_inner.1, X.m_Renamer_inner.2.1, X.m_Renamer_inner.2.2.1, X.m_Renamer_inner.2.2.2, by decide, SC.le (sc_Renamer_inner O X) (by decide)⟩
  · exact ns9 h
noncomputable def F_Renamer_leaf : Ab → Option (Fl × Ab) :=
  (sSeq (sIf (tNot (asBool (f1 (gv9 1) (opIsi 0)))) (sSeq (sRet (gv9 1)) sNil) sNil) (sSeq (sIf (asBool (f2 (f1 (gv9 1) (fAttr "name")) (gv9 2) opIn)) (sSeq (sRet (fA9 (clsSpec 0) (lC9 (f2 (gv9 2) (f1 (gv9 1) (fAttr "name")) fIdx) l09))) sNil) sNil) (sSeq (sSet 3 (fCallB okDict opGet (f1 (gv9 0) (fAttr "instead")) (lC9 (f1 (gv9 1) (fAttr "name")) l09))) (sSeq (sRet (fIf (asBool (f2 (gv9 3) (fK9 .none) (pureOp (cmpMV .Is)))) (gv9 1) nvr)) sNil))))
set_option maxHeartbeats 4000000 in
set_option maxRecDepth 100000 in
theorem b_Renamer_leaf (O : Ok C) (X : Fx C) : SSs C ⟨fScope (within (stAt 10) 3), [("self" : Str), ("node" : Str), ("names" : Str)] ++ [("found" : Str)], true, .none⟩ 2 (fBody (within (stAt 10) 3)) F_Renamer_leaf :=
  (sq9 (ss_if (st_not (st_val (se_isi O ⟨X.no_isinstance, X.b_isinstance, rfl, rfl⟩ (by decide) ⟨X.mg_Var, rfl, rfl⟩ (sn9 rfl (.inl rfl) rfl rfl) (fun _ => rfl)) (fun _ _ => rfl))) (sq9 (ss_ret (sn9 rfl (.inl rfl) rfl rfl)) ss_nil) ss_nil) (sq9 (ss_if (st_in O (se_attr O (sn9 rfl (.inl rfl) rfl rfl) (fun _ => rfl)) (sn9 rfl (.inl rfl) rfl rfl) rfl) (sq9 (ss_ret (sa9 O ⟨X.mg_Var, rfl, rfl⟩ X.kp_Var (SC.le (sc_class O X.cls_Var (d := 0)) (by decide)) (sk9 (se_idx (sn9 rfl (.inl rfl) rfl rfl) (se_attr O (sn9 rfl (.inl rfl) rfl rfl) (fun _ => rfl)) (fun _ _ => rfl)) sz9 (fun _ => rfl)) (fun _ => rfl))) ss_nil) ss_nil) (sq9 (ss_set (se_callB get_dict (op_get O) (se_attr O (sn9 rfl (.inl rfl) rfl rfl) (fun _ => rfl)) (sk9 (se_attr O (sn9 rfl (.inl rfl) rfl rfl) (fun _ => rfl)) sz9 (fun _ => rfl)) (fun _ => rfl) _ (fun _ => rfl)) ⟨rfl, (.inl rfl)⟩ (fun _ => rfl)) (sq9 (ss_ret (se_if (st_cmp O (sn9 rfl (.inl rfl) rfl rfl) (sc9 rfl) rfl) (sn9 rfl (.inl rfl) rfl rfl) se_never)) ss_nil))))
noncomputable def S_Renamer_leaf : List MV → Gst → Option (MV × Gst) := specOf 3 1 F_Renamer_leaf
theorem sc_Renamer_leaf (O : Ok C) (X : Fx C) : SC C 3 (.ref A_Renamer_leaf) S_Renamer_leaf := sc_fn O X.fn_Renamer_leaf ⟨rfl, rfl, rfl, by decide +kernel, by decide +kernel, by decide⟩ (b_Renamer_leaf O X)
noncomputable def D_leaf : Nat → Option (List MV → Gst → Option (MV × Gst))
  | 8 => some S_Renamer_leaf
  | _ => none
theorem dp_leaf (O : Ok C) (X : Fx C) : Disp C 3 "leaf" D_leaf := by
  intro c sp h
  unfold D_leaf at h
  split at h
  · cases h; exact ⟨A_Renamer_leaf, by decide, X.m_Renamer_leaf.1, X.m_Renamer_leaf.2.1, X.m_Renamer_leaf.2.2.1, X.m_Renamer_leaf.2.2.2, by decide, SC.le (sc_Renamer_leaf O X) (by decide)⟩
  · exact ns9 h
noncomputable def F_Fresh_next : Ab → Option (Fl × Ab) :=
  (sSeq (sSet 2 (fA9 S_base_of (lC9 (gv9 1) l09))) (sSeq (sSet 3 (f2 (fCallB okDict opGet (f1 (gv9 0) (fAttr "numbers")) (lC9 (gv9 2) (lC9 (fK9 (.int 0)) l09))) (fK9 (.int 1)) (pureOp (binMV .Add)))) (sSeq (sWhile (asBool (f2 (f2 (f2 (gv9 2) (fK9 (.str ".")) (pureOp (binMV .Add))) (fA9 opStr (lC9 (gv9 3) l09)) (pureOp (binMV .Add))) (f1 (gv9 0) (fAttr "avoided")) opIn)) (sSeq (sAug 3 (fK9 (.int 1))) sNil) N) (sSeq (sSetG (f1 (gv9 0) (fAttr "numbers")) (gv9 3) (gv9 2)) (sSeq (sRet (f2 (f2 (gv9 2) (fK9 (.str ".")) (pureOp (binMV .Add))) (fA9 opStr (lC9 (gv9 3) l09)) (pureOp (binMV .Add)))) sNil)))))
set_option maxHeartbeats 4000000 in
set_option maxRecDepth 100000 in
theorem b_Fresh_next (O : Ok C) (X : Fx C) : SSs C ⟨fScope (within (stAt 27) 2), [("self" : Str), ("base" : Str)] ++ [("told" : Str), ("number" : Str)], true, .none⟩ 1 (fBody (within (stAt 27) 2)) F_Fresh_next :=
  (sq9 (ss_set (sa9 O ⟨X.mg_base_of, rfl, rfl⟩ X.kp_base_of (SC.le (sc_base_of O X) (by decide)) (sk9 (sn9 rfl (.inl rfl) rfl rfl) sz9 (fun _ => rfl)) (fun _ => rfl)) ⟨rfl, (.inl rfl)⟩ (fun _ => rfl)) (sq9 (ss_set (se_bin (se_callB get_dict (op_get O) (se_attr O (sn9 rfl (.inl rfl) rfl rfl) (fun _ => rfl)) (sk9 (sn9 rfl (.inl rfl) rfl rfl) (sk9 (sc9 rfl) sz9 (fun _ => rfl)) (fun _ => rfl)) (fun _ => rfl) _ (fun _ => rfl)) (sc9 rfl)) ⟨rfl, (.inl rfl)⟩ (fun _ => rfl)) (sq9 (ss_while N (st_in O (se_bin (se_bin (sn9 rfl (.inl rfl) rfl rfl) (sc9 rfl)) (se_callV O ⟨X.no_str, X.b_str, rfl, rfl⟩ (callee_t "str") op_str (sk9 (sn9 rfl (.inl rfl) rfl rfl) sz9 (fun _ => rfl)) (fun _ => rfl))) (se_attr O (sn9 rfl (.inl rfl) rfl rfl) (fun _ => rfl)) rfl) (sq9 (ss_aug ⟨rfl, (.inl rfl), rfl, rfl⟩ ⟨rfl, (.inl rfl)⟩ (sc9 rfl)) ss_nil)) (sq9 (ss_setG (se_attr O (sn9 rfl (.inl rfl) rfl rfl) (fun _ => rfl)) (sn9 rfl (.inl rfl) rfl rfl) (sn9 rfl (.inl rfl) rfl rfl) (fun _ => rfl)) (sq9 (ss_ret (se_bin (se_bin (sn9 rfl (.inl rfl) rfl rfl) (sc9 rfl)) (se_callV O ⟨X.no_str, X.b_str, rfl, rfl⟩ (callee_t "str") op_str (sk9 (sn9 rfl (.inl rfl) rfl rfl) sz9 (fun _ => rfl)) (fun _ => rfl)))) ss_nil)))))
noncomputable def S_Fresh_next : List MV → Gst → Option (MV × Gst) := specOf 2 2 F_Fresh_next
theorem sc_Fresh_next (O : Ok C) (X : Fx C) : SC C 2 (.ref A_Fresh_next) S_Fresh_next := sc_fn O X.fn_Fresh_next ⟨rfl, rfl, rfl, by decide +kernel, by decide +kernel, by decide⟩ (b_Fresh_next O X)
noncomputable def D_next : Nat → Option (List MV → Gst → Option (MV × Gst))
  | 9 => some S_Fresh_next
  | _ => none
theorem dp_next (O : Ok C) (X : Fx C) : Disp C 2 "next" D_next := by
  intro c sp h
  unfold D_next at h
  split at h
  · cases h; exact ⟨A_Fresh_next, by decide, X.m_Fresh_next.1, X.m_Fresh_next.2.1, X.m_Fresh_next.2.2.1, X.m_Fresh_next.2.2.2, by decide, SC.le (sc_Fresh_next O X) (by decide)⟩
  · exact ns9 h
noncomputable def F_Renamer_new_groups : Ab → Option (Fl × Ab) :=
  (sSeq (sRet (fComp 1 [0] (fIt (gv9 1) itMV) (tName 1) (fComp 1 [2] (fIt (gv9 1) itMV) (tName 1) (fCallM D_next (f1 (gv9 2) (fAttr "fresh")) (lC9 (gv9 1) l09))))) sNil)
set_option maxHeartbeats 4000000 in
set_option maxRecDepth 100000 in
theorem b_Renamer_new_groups (O : Ok C) (X : Fx C) : SSs C ⟨fScope (within (stAt 10) 1), [("self" : Str), ("groups" : Str)] ++ [], true, .none⟩ 2 (fBody (within (stAt 10) 1)) F_Renamer_new_groups :=
  (sq9 (ss_ret (se_comp (K := (⟨rfl, rfl, rfl, rfl, rfl, rfl, by decide, rfl, rfl⟩ : CompOk _ _ [("group" : Str)] [("self" : Str)] [0])) (si_val (sn9 rfl (.inl rfl) rfl rfl)) (tg_name ⟨rfl, (.inl rfl)⟩) (se_comp (K := (⟨rfl, rfl, rfl, rfl, rfl, rfl, by decide, rfl, rfl⟩ : CompOk _ _ [("name" : Str)] [("self" : Str)] [2])) (si_val (sn9 rfl (.inl rfl) rfl rfl)) (tg_name ⟨rfl, (.inl rfl)⟩) (se_callM O (Disp.le (dp_next O X) (by decide)) (se_attr O (sn9 rfl (.inr (.inl rfl)) rfl rfl) (fun _ => rfl)) (sk9 (sn9 rfl (.inl rfl) rfl rfl) sz9 (fun _ => rfl)) (fun _ => rfl) _ (fun _ => rfl)) (fun _ _ => rfl)) (fun _ _ => rfl))) ss_nil)
noncomputable def S_Renamer_new_groups : List MV → Gst → Option (MV × Gst) := specOf 2 0 F_Renamer_new_groups
theorem sc_Renamer_new_groups (O : Ok C) (X : Fx C) : SC C 3 (.ref A_Renamer_new_groups) S_Renamer_new_groups := sc_fn O X.fn_Renamer_new_groups ⟨rfl, rfl, rfl, by decide +kernel, by decide +kernel, by decide⟩ (b_Renamer_new_groups O X)
noncomputable def D_new_groups : Nat → Option (List MV → Gst → Option (MV × Gst))
  | 8 => some S_Renamer_new_groups
  | _ => none
theorem dp_new_groups (O : Ok C) (X : Fx C) : Disp C 3 "new_groups" D_new_groups := by
  intro c sp h
  unfold D_new_groups at h
  split at h
  · cases h; exact ⟨A_Renamer_new_groups, by decide, X.m_Renamer_new_groups.1, X.m_Renamer_new_groups.2.1, X.m_Renamer_new_groups.2.2.1, X.m_Renamer_new_groups.2.2.2, by decide, SC.le (sc_Renamer_new_groups O X) (by decide)⟩
  · exact ns9 h
noncomputable def F_Var_parts : Ab → Option (Fl × Ab) :=
  (sSeq (sRet (fLst l09)) sNil)
set_option maxHeartbeats 4000000 in
set_option maxRecDepth 100000 in
theorem b_Var_parts (O : Ok C) (X : Fx C) : SSs C ⟨fScope (within (stAt 1) 2), [("self" : Str)] ++ [], true, .none⟩ 0 (fBody (within (stAt 1) 2)) F_Var_parts :=
  (sq9 (ss_ret (se_lst sz9)) ss_nil)
noncomputable def S_Var_parts : List MV → Gst → Option (MV × Gst) := specOf 1 0 F_Var_parts
theorem sc_Var_parts (O : Ok C) (X : Fx C) : SC C 1 (.ref A_Var_parts) S_Var_parts := sc_fn O X.fn_Var_parts ⟨rfl, rfl, rfl, by decide +kernel, by decide +kernel, by decide⟩ (b_Var_parts O X)
noncomputable def F_Lit_parts : Ab → Option (Fl × Ab) :=
  (sSeq (sRet (fLst l09)) sNil)
set_option maxHeartbeats 4000000 in
set_option maxRecDepth 100000 in
theorem b_Lit_parts (O : Ok C) (X : Fx C) : SSs C ⟨fScope (within (stAt 2) 2), [("self" : Str)] ++ [], true, .none⟩ 0 (fBody (within (stAt 2) 2)) F_Lit_parts :=
  (sq9 (ss_ret (se_lst sz9)) ss_nil)
noncomputable def S_Lit_parts : List MV → Gst → Option (MV × Gst) := specOf 1 0 F_Lit_parts
theorem sc_Lit_parts (O : Ok C) (X : Fx C) : SC C 1 (.ref A_Lit_parts) S_Lit_parts := sc_fn O X.fn_Lit_parts ⟨rfl, rfl, rfl, by decide +kernel, by decide +kernel, by decide⟩ (b_Lit_parts O X)
noncomputable def F_Let_parts : Ab → Option (Fl × Ab) :=
  (sSeq (sSet 1 (fIf (asBool (f1 (gv9 0) (fAttr "is_rec"))) (fTup (lC9 (fK9 (.int 0)) l09)) (fTup l09))) (sSeq (sRet (f2 (fComp 2 [1] (fIt (f1 (gv9 0) (fAttr "binds")) itMV) (tTup [1, 2]) (fTup (lC9 (gv9 2) (lC9 (gv9 3) l09)))) (fLst (lC9 (fTup (lC9 (f1 (gv9 0) (fAttr "body")) (lC9 (fTup (lC9 (fK9 (.int 0)) l09)) l09))) l09)) (pureOp (binMV .Add)))) sNil))
set_option maxHeartbeats 4000000 in
set_option maxRecDepth 100000 in
theorem b_Let_parts (O : Ok C) (X : Fx C) : SSs C ⟨fScope (within (stAt 5) 2), [("self" : Str)] ++ [("scope" : Str)], true, .none⟩ 0 (fBody (within (stAt 5) 2)) F_Let_parts :=
  (sq9 (ss_set (se_if (st_val (se_attr O (sn9 rfl (.inl rfl) rfl rfl) (fun _ => rfl)) (fun _ _ => rfl)) (se_tup (sk9 (sc9 rfl) sz9 (fun _ => rfl))) (se_tup sz9)) ⟨rfl, (.inr ⟨rfl, rfl⟩)⟩ (fun _ => rfl)) (sq9 (ss_ret (se_bin (se_comp (K := (⟨rfl, rfl, rfl, rfl, rfl, rfl, by decide, rfl, rfl⟩ : CompOk _ _ [("name" : Str), ("expr" : Str)] [("scope" : Str)] [1])) (si_val (se_attr O (sn9 rfl (.inl rfl) rfl rfl) (fun _ => rfl))) (tg_tuple (.cons ⟨rfl, (.inl rfl)⟩ (.cons ⟨rfl, (.inl rfl)⟩ .nil))) (se_tup (sk9 (sn9 rfl (.inl rfl) rfl rfl) (sk9 (sn9 rfl (.inr (.inl rfl)) rfl rfl) sz9 (fun _ => rfl)) (fun _ => rfl))) (fun _ _ => rfl)) (se_lst (sk9 (se_tup (sk9 (se_attr O (sn9 rfl (.inl rfl) rfl rfl) (fun _ => rfl)) (sk9 (se_tup (sk9 (sc9 rfl) sz9 (fun _ => rfl))) sz9 (fun _ => rfl)) (fun _ => rfl))) sz9 (fun _ => rfl))))) ss_nil))
noncomputable def S_Let_parts : List MV → Gst → Option (MV × Gst) := specOf 1 1 F_Let_parts
theorem sc_Let_parts (O : Ok C) (X : Fx C) : SC C 1 (.ref A_Let_parts) S_Let_parts := sc_fn O X.fn_Let_parts ⟨rfl, rfl, rfl, by decide +kernel, by decide +kernel, by decide⟩ (b_Let_parts O X)
noncomputable def F_Case_parts : Ab → Option (Fl × Ab) :=
  (sSeq (sNew 1 (gLst (lC9 (fTup (lC9 (f1 (gv9 0) (fAttr "value")) (lC9 (fTup l09) l09))) l09))) (sSeq (sFor (fIt (fA9 opLen (lC9 (f1 (gv9 0) (fAttr "alts")) l09)) itRange) (tName 2) (sSeq (sApp 1 (fTup (lC9 (f1 (f2 (f1 (gv9 0) (fAttr "alts")) (gv9 2) fIdx) (fAttr "body")) (lC9 (fTup (lC9 (fK9 (.int 0)) (lC9 (f2 (gv9 2) (fK9 (.int 1)) (pureOp (binMV .Add))) l09))) l09)))) sNil)) (sSeq (sRet (fIf (asBool (f2 (f1 (gv9 0) (fAttr "other")) (fK9 .none) (pureOp (cmpMV .Is)))) (gv9 1) (f2 (gv9 1) (fLst (lC9 (fTup (lC9 (f1 (gv9 0) (fAttr "other")) (lC9 (fTup (lC9 (fK9 (.int 0)) l09)) l09))) l09)) (pureOp (binMV .Add))))) sNil)))
set_option maxHeartbeats 4000000 in
set_option maxRecDepth 100000 in
theorem b_Case_parts (O : Ok C) (X : Fx C) : SSs C ⟨fScope (within (stAt 7) 2), [("self" : Str)] ++ [("found" : Str), ("at" : Str)], true, .none⟩ 0 (fBody (within (stAt 7) 2)) F_Case_parts :=
  (sq9 (ss_new (sg_list (sk9 (se_tup (sk9 (se_attr O (sn9 rfl (.inl rfl) rfl rfl) (fun _ => rfl)) (sk9 (se_tup sz9) sz9 (fun _ => rfl)) (fun _ => rfl))) sz9 (fun _ => rfl))) ⟨rfl, (.inl rfl)⟩ (fun _ => rfl)) (sq9 (ss_for (si_range O ⟨X.no_range, X.b_range, rfl, rfl⟩ (se_callV O ⟨X.no_len, X.b_len, rfl, rfl⟩ (callee_b "len") op_len (sk9 (se_attr O (sn9 rfl (.inl rfl) rfl rfl) (fun _ => rfl)) sz9 (fun _ => rfl)) (fun _ => rfl)) (fun _ => rfl)) (tg_name ⟨rfl, (.inl rfl)⟩) (sq9 (ss_append O ⟨rfl, (.inl rfl), rfl, rfl⟩ (se_tup (sk9 (se_attr O (se_idx (se_attr O (sn9 rfl (.inl rfl) rfl rfl) (fun _ => rfl)) (sn9 rfl (.inl rfl) rfl rfl) (fun _ _ => rfl)) (fun _ => rfl)) (sk9 (se_tup (sk9 (sc9 rfl) (sk9 (se_bin (sn9 rfl (.inl rfl) rfl rfl) (sc9 rfl)) sz9 (fun _ => rfl)) (fun _ => rfl))) sz9 (fun _ => rfl)) (fun _ => rfl))) (fun _ => rfl) (fun _ => rfl) _ (fun _ => rfl)) ss_nil) (fun _ _ => rfl)) (sq9 (ss_ret (se_if (st_cmp O (se_attr O (sn9 rfl (.inl rfl) rfl rfl) (fun _ => rfl)) (sc9 rfl) rfl) (sn9 rfl (.inl rfl) rfl rfl) (se_bin (sn9 rfl (.inl rfl) rfl rfl) (se_lst (sk9 (se_tup (sk9 (se_attr O (sn9 rfl (.inl rfl) rfl rfl) (fun _ => rfl)) (sk9 (se_tup (sk9 (sc9 rfl) sz9 (fun _ => rfl))) sz9 (fun _ => rfl)) (fun _ => rfl))) sz9 (fun _ => rfl)))))) ss_nil)))
noncomputable def S_Case_parts : List MV → Gst → Option (MV × Gst) := specOf 1 2 F_Case_parts
theorem sc_Case_parts (O : Ok C) (X : Fx C) : SC C 1 (.ref A_Case_parts) S_Case_parts := sc_fn O X.fn_Case_parts ⟨rfl, rfl, rfl, by decide +kernel, by decide +kernel, by decide⟩ (b_Case_parts O X)
noncomputable def F_Con_parts : Ab → Option (Fl × Ab) :=
  (sSeq (sRet (fComp 1 [] (fIt (f1 (gv9 0) (fAttr "args")) itMV) (tName 1) (fTup (lC9 (gv9 1) (lC9 (fTup l09) l09))))) sNil)
set_option maxHeartbeats 4000000 in
set_option maxRecDepth 100000 in
theorem b_Con_parts (O : Ok C) (X : Fx C) : SSs C ⟨fScope (within (stAt 8) 2), [("self" : Str)] ++ [], true, .none⟩ 0 (fBody (within (stAt 8) 2)) F_Con_parts :=
  (sq9 (ss_ret (se_comp (K := (⟨rfl, rfl, rfl, rfl, rfl, rfl, by decide, rfl, rfl⟩ : CompOk _ _ [("arg" : Str)] [] [])) (si_val (se_attr O (sn9 rfl (.inl rfl) rfl rfl) (fun _ => rfl))) (tg_name ⟨rfl, (.inl rfl)⟩) (se_tup (sk9 (sn9 rfl (.inl rfl) rfl rfl) (sk9 (se_tup sz9) sz9 (fun _ => rfl)) (fun _ => rfl))) (fun _ _ => rfl))) ss_nil)
noncomputable def S_Con_parts : List MV → Gst → Option (MV × Gst) := specOf 1 0 F_Con_parts
theorem sc_Con_parts (O : Ok C) (X : Fx C) : SC C 1 (.ref A_Con_parts) S_Con_parts := sc_fn O X.fn_Con_parts ⟨rfl, rfl, rfl, by decide +kernel, by decide +kernel, by decide⟩ (b_Con_parts O X)
noncomputable def D_parts : Nat → Option (List MV → Gst → Option (MV × Gst))
  | 0 => some S_Var_parts
  | 1 => some S_Lit_parts
  | 4 => some S_Let_parts
  | 6 => some S_Case_parts
  | 7 => some S_Con_parts
  | _ => none
theorem dp_parts (O : Ok C) (X : Fx C) : Disp C 1 "parts" D_parts := by
  intro c sp h
  unfold D_parts at h
  split at h
  · cases h; exact ⟨A_Var_parts, by decide, X.m_Var_parts.1, X.m_Var_parts.2.1, X.m_Var_parts.2.2.1, X.m_Var_parts.2.2.2, by decide, SC.le (sc_Var_parts O X) (by decide)⟩
  · cases h; exact ⟨A_Lit_parts, by decide, X.m_Lit_parts.1, X.m_Lit_parts.2.1, X.m_Lit_parts.2.2.1, X.m_Lit_parts.2.2.2, by decide, SC.le (sc_Lit_parts O X) (by decide)⟩
  · cases h; exact ⟨A_Let_parts, by decide, X.m_Let_parts.1, X.m_Let_parts.2.1, X.m_Let_parts.2.2.1, X.m_Let_parts.2.2.2, by decide, SC.le (sc_Let_parts O X) (by decide)⟩
  · cases h; exact ⟨A_Case_parts, by decide, X.m_Case_parts.1, X.m_Case_parts.2.1, X.m_Case_parts.2.2.1, X.m_Case_parts.2.2.2, by decide, SC.le (sc_Case_parts O X) (by decide)⟩
  · cases h; exact ⟨A_Con_parts, by decide, X.m_Con_parts.1, X.m_Con_parts.2.1, X.m_Con_parts.2.2.1, X.m_Con_parts.2.2.2, by decide, SC.le (sc_Con_parts O X) (by decide)⟩
  · exact ns9 h
noncomputable def F_Let_rebuilt : Ab → Option (Fl × Ab) :=
  (sSeq (sSet 3 (fComp 1 [1, 2] (fIt (fA9 opLen (lC9 (f1 (gv9 0) (fAttr "binds")) l09)) itRange) (tName 1) (fTup (lC9 (f2 (f2 (gv9 2) (fK9 (.int 0)) fIdx) (gv9 1) fIdx) (lC9 (f2 (gv9 3) (gv9 1) fIdx) l09))))) (sSeq (sRet (fA9 (clsSpec 4) (lC9 (gv9 3) (lC9 (f2 (gv9 2) (f1 (fK9 (.int 1)) fNeg) fIdx) (lC9 (f1 (gv9 0) (fAttr "is_rec")) l09))))) sNil))
set_option maxHeartbeats 4000000 in
set_option maxRecDepth 100000 in
theorem b_Let_rebuilt (O : Ok C) (X : Fx C) : SSs C ⟨fScope (within (stAt 5) 3), [("self" : Str), ("groups" : Str), ("parts" : Str)] ++ [("binds" : Str)], true, .none⟩ 2 (fBody (within (stAt 5) 3)) F_Let_rebuilt :=
  (sq9 (ss_setComp (K := (⟨rfl, rfl, rfl, rfl, rfl, rfl, by decide, rfl, rfl⟩ : CompOk _ _ [("at" : Str)] [("groups" : Str), ("parts" : Str)] [1, 2])) (si_range O ⟨X.no_range, X.b_range, rfl, rfl⟩ (se_callV O ⟨X.no_len, X.b_len, rfl, rfl⟩ (callee_b "len") op_len (sk9 (se_attr O (sn9 rfl (.inl rfl) rfl rfl) (fun _ => rfl)) sz9 (fun _ => rfl)) (fun _ => rfl)) (fun _ => rfl)) (tg_name ⟨rfl, (.inl rfl)⟩) (se_tup (sk9 (se_idx (se_idx (sn9 rfl (.inr (.inl rfl)) rfl rfl) (sc9 rfl) (fun _ _ => rfl)) (sn9 rfl (.inl rfl) rfl rfl) (fun _ _ => rfl)) (sk9 (se_idx (sn9 rfl (.inr (.inl rfl)) rfl rfl) (sn9 rfl (.inl rfl) rfl rfl) (fun _ _ => rfl)) sz9 (fun _ => rfl)) (fun _ => rfl))) (fun _ _ => rfl) ⟨rfl, (.inl rfl)⟩ (fun env h => by cases env; cases h; rfl)) (sq9 (ss_ret (sa9 O ⟨X.mg_Let, rfl, rfl⟩ X.kp_Let (SC.le (sc_class O X.cls_Let (d := 0)) (by decide)) (sk9 (sn9 rfl (.inl rfl) rfl rfl) (sk9 (se_idx (sn9 rfl (.inr (.inl rfl)) rfl rfl) (se_neg (sc9 rfl)) (fun _ _ => rfl)) (sk9 (se_attr O (sn9 rfl (.inl rfl) rfl rfl) (fun _ => rfl)) sz9 (fun _ => rfl)) (fun _ => rfl)) (fun _ => rfl)) (fun _ => rfl))) ss_nil))
noncomputable def S_Let_rebuilt : List MV → Gst → Option (MV × Gst) := specOf 3 1 F_Let_rebuilt
theorem sc_Let_rebuilt (O : Ok C) (X : Fx C) : SC C 3 (.ref A_Let_rebuilt) S_Let_rebuilt := sc_fn O X.fn_Let_rebuilt ⟨rfl, rfl, rfl, by decide +kernel, by decide +kernel, by decide⟩ (b_Let_rebuilt O X)
noncomputable def F_Case_rebuilt : Ab → Option (Fl × Ab) :=
  (sSeq (sNew 3 (gLst l09)) (sSeq (sFor (fIt (fA9 opLen (lC9 (f1 (gv9 0) (fAttr "alts")) l09)) itRange) (tName 4) (sSeq (sApp 3 (fA9 (clsSpec 5) (lC9 (f1 (f2 (f1 (gv9 0) (fAttr "alts")) (gv9 4) fIdx) (fAttr "key")) (lC9 (f2 (gv9 1) (f2 (gv9 4) (fK9 (.int 1)) (pureOp (binMV .Add))) fIdx) (lC9 (f2 (gv9 2) (f2 (gv9 4) (fK9 (.int 1)) (pureOp (binMV .Add))) fIdx) l09))))) sNil)) (sSeq (sRet (fA9 (clsSpec 6) (lC9 (f2 (gv9 2) (fK9 (.int 0)) fIdx) (lC9 (f2 (f2 (gv9 1) (fK9 (.int 0)) fIdx) (fK9 (.int 0)) fIdx) (lC9 (gv9 3) (lC9 (fIf (asBool (f2 (f1 (gv9 0) (fAttr "other")) (fK9 .none) (pureOp (cmpMV .Is)))) (fK9 .none) (f2 (gv9 2) (f1 (fK9 (.int 1)) fNeg) fIdx)) l09)))))) sNil)))
set_option maxHeartbeats 4000000 in
set_option maxRecDepth 100000 in
theorem b_Case_rebuilt (O : Ok C) (X : Fx C) : SSs C ⟨fScope (within (stAt 7) 3), [("self" : Str), ("groups" : Str), ("parts" : Str)] ++ [("alts" : Str), ("at" : Str)], true, .none⟩ 2 (fBody (within (stAt 7) 3)) F_Case_rebuilt :=
  (sq9 (ss_new (sg_list sz9) ⟨rfl, (.inl rfl)⟩ (fun _ => rfl)) (sq9 (ss_for (si_range O ⟨X.no_range, X.b_range, rfl, rfl⟩ (se_callV O ⟨X.no_len, X.b_len, rfl, rfl⟩ (callee_b "len") op_len (sk9 (se_attr O (sn9 rfl (.inl rfl) rfl rfl) (fun _ => rfl)) sz9 (fun _ => rfl)) (fun _ => rfl)) (fun _ => rfl)) (tg_name ⟨rfl, (.inl rfl)⟩) (sq9 (ss_append O ⟨rfl, (.inl rfl), rfl, rfl⟩ (sa9 O ⟨X.mg_Alt, rfl, rfl⟩ X.kp_Alt (SC.le (sc_class O X.cls_Alt (d := 0)) (by decide)) (sk9 (se_attr O (se_idx (se_attr O (sn9 rfl (.inl rfl) rfl rfl) (fun _ => rfl)) (sn9 rfl (.inl rfl) rfl rfl) (fun _ _ => rfl)) (fun _ => rfl)) (sk9 (se_idx (sn9 rfl (.inl rfl) rfl rfl) (se_bin (sn9 rfl (.inl rfl) rfl rfl) (sc9 rfl)) (fun _ _ => rfl)) (sk9 (se_idx (sn9 rfl (.inl rfl) rfl rfl) (se_bin (sn9 rfl (.inl rfl) rfl rfl) (sc9 rfl)) (fun _ _ => rfl)) sz9 (fun _ => rfl)) (fun _ => rfl)) (fun _ => rfl)) (fun _ => rfl)) (fun _ => rfl) (fun _ => rfl) _ (fun _ => rfl)) ss_nil) (fun _ _ => rfl)) (sq9 (ss_ret (sa9 O ⟨X.mg_Case, rfl, rfl⟩ X.kp_Case (SC.le (sc_class O X.cls_Case (d := 0)) (by decide)) (sk9 (se_idx (sn9 rfl (.inl rfl) rfl rfl) (sc9 rfl) (fun _ _ => rfl)) (sk9 (se_idx (se_idx (sn9 rfl (.inl rfl) rfl rfl) (sc9 rfl) (fun _ _ => rfl)) (sc9 rfl) (fun _ _ => rfl)) (sk9 (sn9 rfl (.inl rfl) rfl rfl) (sk9 (se_if (st_cmp O (se_attr O (sn9 rfl (.inl rfl) rfl rfl) (fun _ => rfl)) (sc9 rfl) rfl) (sc9 rfl) (se_idx (sn9 rfl (.inl rfl) rfl rfl) (se_neg (sc9 rfl)) (fun _ _ => rfl))) sz9 (fun _ => rfl)) (fun _ => rfl)) (fun _ => rfl)) (fun _ => rfl)) (fun _ => rfl))) ss_nil)))
noncomputable def S_Case_rebuilt : List MV → Gst → Option (MV × Gst) := specOf 3 2 F_Case_rebuilt
theorem sc_Case_rebuilt (O : Ok C) (X : Fx C) : SC C 3 (.ref A_Case_rebuilt) S_Case_rebuilt := sc_fn O X.fn_Case_rebuilt ⟨rfl, rfl, rfl, by decide +kernel, by decide +kernel, by decide⟩ (b_Case_rebuilt O X)
noncomputable def F_Con_rebuilt : Ab → Option (Fl × Ab) :=
  (sSeq (sRet (fA9 (clsSpec 7) (lC9 (f1 (gv9 0) (fAttr "name")) (lC9 (gv9 2) l09)))) sNil)
set_option maxHeartbeats 4000000 in
set_option maxRecDepth 100000 in
theorem b_Con_rebuilt (O : Ok C) (X : Fx C) : SSs C ⟨fScope (within (stAt 8) 3), [("self" : Str), ("groups" : Str), ("parts" : Str)] ++ [], true, .none⟩ 2 (fBody (within (stAt 8) 3)) F_Con_rebuilt :=
  (sq9 (ss_ret (sa9 O ⟨X.mg_Con, rfl, rfl⟩ X.kp_Con (SC.le (sc_class O X.cls_Con (d := 0)) (by decide)) (sk9 (se_attr O (sn9 rfl (.inl rfl) rfl rfl) (fun _ => rfl)) (sk9 (sn9 rfl (.inl rfl) rfl rfl) sz9 (fun _ => rfl)) (fun _ => rfl)) (fun _ => rfl))) ss_nil)
noncomputable def S_Con_rebuilt : List MV → Gst → Option (MV × Gst) := specOf 3 0 F_Con_rebuilt
theorem sc_Con_rebuilt (O : Ok C) (X : Fx C) : SC C 3 (.ref A_Con_rebuilt) S_Con_rebuilt := sc_fn O X.fn_Con_rebuilt ⟨rfl, rfl, rfl, by decide +kernel, by decide +kernel, by decide⟩ (b_Con_rebuilt O X)
noncomputable def D_rebuilt : Nat → Option (List MV → Gst → Option (MV × Gst))
  | 4 => some S_Let_rebuilt
  | 6 => some S_Case_rebuilt
  | 7 => some S_Con_rebuilt
  | _ => none
theorem dp_rebuilt (O : Ok C) (X : Fx C) : Disp C 3 "rebuilt" D_rebuilt := by
  intro c sp h
  unfold D_rebuilt at h
  split at h
  · cases h; exact ⟨A_Let_rebuilt, by decide, X.m_Let_rebuilt.1, X.m_Let_rebuilt.2.1, X.m_Let_rebuilt.2.2.1, X.m_Let_rebuilt.2.2.2, by decide, SC.le (sc_Let_rebuilt O X) (by decide)⟩
  · cases h; exact ⟨A_Case_rebuilt, by decide, X.m_Case_rebuilt.1, X.m_Case_rebuilt.2.1, X.m_Case_rebuilt.2.2.1, X.m_Case_rebuilt.2.2.2, by decide, SC.le (sc_Case_rebuilt O X) (by decide)⟩
  · cases h; exact ⟨A_Con_rebuilt, by decide, X.m_Con_rebuilt.1, X.m_Con_rebuilt.2.1, X.m_Con_rebuilt.2.2.1, X.m_Con_rebuilt.2.2.2, by decide, SC.le (sc_Con_rebuilt O X) (by decide)⟩
  · exact ns9 h
noncomputable def F_Renamer_run : Ab → Option (Fl × Ab) :=
  (sSeq (sPair 2 3 (pNil (gLst (lC9 (fTup (lC9 (gv9 1) (lC9 fD0 (lC9 (fK9 .none) l09)))) l09)))) (sSeq (sWhile (tOwn 2) (sSeq (sUnp (fPop 2) (tTup [4, 5, 6])) (sSeq (sSet 7 (fCallM D_parts (gv9 4) l09)) (sSeq (sIf (asBool (f2 (gv9 7) (fLst l09) (pureOp (cmpMV .Eq)))) (sSeq (sApp 3 (fCallM D_leaf (gv9 0) (lC9 (gv9 4) (lC9 (gv9 5) l09)))) sNil) (sSeq (sIf (asBool (f2 (gv9 6) (fK9 .none) (pureOp (cmpMV .Is)))) (sSeq (sSet 8 (fCallM D_groups (gv9 4) l09)) (sSeq (sSet 6 (fCallM D_new_groups (gv9 0) (lC9 (gv9 8) l09))) (sSeq (sApp 2 (fTup (lC9 (gv9 4) (lC9 (gv9 5) (lC9 (gv9 6) l09))))) (sSeq (sFor (fIt (gv9 7) itRev) (tTup [9, 10]) (sSeq (sApp 2 (fTup (lC9 (gv9 9) (lC9 (fCallM D_inner (gv9 0) (lC9 (gv9 5) (lC9 (gv9 10) (lC9 (gv9 8) (lC9 (gv9 6) l09))))) (lC9 (fK9 .none) l09))))) sNil)) sNil)))) (sSeq (sSet 11 (fA9 opLen (lC9 (gv9 7) l09))) (sSeq (sSet 12 (fCallM D_rebuilt (gv9 4) (lC9 (gv9 6) (lC9 (fDrop 3 (f2 (fLenOwn 3) (gv9 11) (pureOp (binMV .Sub)))) l09)))) (sSeq (sDel 3 (f2 (fLenOwn 3) (gv9 11) (pureOp (binMV .Sub)))) (sSeq (sApp 3 (gv9 12)) sNil))))) sNil)) sNil))) N) (sSeq (sRet (f2 (gv9 3) (fK9 (.int 0)) fIdx)) sNil)))
set_option maxHeartbeats 4000000 in
set_option maxRecDepth 100000 in
theorem b_Renamer_run (O : Ok C) (X : Fx C) : SSs C ⟨fScope (within (stAt 10) 4), [("self" : Str), ("expr" : Str)] ++ [("tasks" : Str), ("done" : Str), ("node" : Str), ("names" : Str), ("news" : Str), ("parts" : Str), ("groups" : Str), ("part" : Str), ("scope" : Str), ("many" : Str), ("found" : Str)], true, .none⟩ 3 (fBody (within (stAt 10) 4)) F_Renamer_run :=
  (sq9 (ss_pair (sp_nil (sg_list (sk9 (se_tup (sk9 (sn9 rfl (.inl rfl) rfl rfl) (sk9 se_dict0 (sk9 (sc9 rfl) sz9 (fun _ => rfl)) (fun _ => rfl)) (fun _ => rfl))) sz9 (fun _ => rfl))) (fun _ => ⟨rfl, rfl⟩)) rfl rfl rfl rfl (fun _ => rfl) (fun env h => by cases env; cases h; rfl)) (sq9 (ss_while N (st_own ⟨rfl, (.inl rfl), rfl, rfl⟩) (sq9 (ss_unp (se_pop O ⟨rfl, (.inl rfl), rfl, rfl⟩ (fun _ => rfl) _ (fun _ => rfl)) (tg_tuple (.cons ⟨rfl, (.inl rfl)⟩ (.cons ⟨rfl, (.inl rfl)⟩ (.cons ⟨rfl, (.inl rfl)⟩ .nil)))) (fun _ => rfl) (fun env h => by cases env; cases h; rfl)) (sq9 (ss_set (se_callM O (Disp.le (dp_parts O X) (by decide)) (sn9 rfl (.inl rfl) rfl rfl) sz9 (fun _ => rfl) _ (fun _ => rfl)) ⟨rfl, (.inl rfl)⟩ (fun _ => rfl)) (sq9 (ss_if (st_cmp O (sn9 rfl (.inl rfl) rfl rfl) (se_lst sz9) rfl) (sq9 (ss_append O ⟨rfl, (.inl rfl), rfl, rfl⟩ (se_callM O (Disp.le (dp_leaf O X) (by decide)) (sn9 rfl (.inl rfl) rfl rfl) (sk9 (sn9 rfl (.inl rfl) rfl rfl) (sk9 (sn9 rfl (.inl rfl) rfl rfl) sz9 (fun _ => rfl)) (fun _ => rfl)) (fun _ => rfl) _ (fun _ => rfl)) (fun _ => rfl) (fun _ => rfl) _ (fun _ => rfl)) ss_nil) (sq9 (ss_if (st_cmp O (sn9 rfl (.inl rfl) rfl rfl) (sc9 rfl) rfl) (sq9 (ss_set (se_callM O (Disp.le (dp_groups O X) (by decide)) (sn9 rfl (.inl rfl) rfl rfl) sz9 (fun _ => rfl) _ (fun _ => rfl)) ⟨rfl, (.inl rfl)⟩ (fun _ => rfl)) (sq9 (ss_set (se_callM O (Disp.le (dp_new_groups O X) (by decide)) (sn9 rfl (.inl rfl) rfl rfl) (sk9 (sn9 rfl (.inl rfl) rfl rfl) sz9 (fun _ => rfl)) (fun _ => rfl) _ (fun _ => rfl)) ⟨rfl, (.inl rfl)⟩ (fun _ => rfl)) (sq9 (ss_append O ⟨rfl, (.inl rfl), rfl, rfl⟩ (se_tup (sk9 (sn9 rfl (.inl rfl) rfl rfl) (sk9 (sn9 rfl (.inl rfl) rfl rfl) (sk9 (sn9 rfl (.inl rfl) rfl rfl) sz9 (fun _ => rfl)) (fun _ => rfl)) (fun _ => rfl))) (fun _ => rfl) (fun _ => rfl) _ (fun _ => rfl)) (sq9 (ss_for (si_reversed O ⟨X.no_reversed, X.b_reversed, rfl, rfl⟩ (sn9 rfl (.inl rfl) rfl rfl) (fun _ => rfl)) (tg_tuple (.cons ⟨rfl, (.inl rfl)⟩ (.cons ⟨rfl, (.inl rfl)⟩ .nil))) (sq9 (ss_append O ⟨rfl, (.inl rfl), rfl, rfl⟩ (se_tup (sk9 (sn9 rfl (.inl rfl) rfl rfl) (sk9 (se_callM O (Disp.le (dp_inner O X) (by decide)) (sn9 rfl (.inl rfl) rfl rfl) (sk9 (sn9 rfl (.inl rfl) rfl rfl) (sk9 (sn9 rfl (.inl rfl) rfl rfl) (sk9 (sn9 rfl (.inl rfl) rfl rfl) (sk9 (sn9 rfl (.inl rfl) rfl rfl) sz9 (fun _ => rfl)) (fun _ => rfl)) (fun _ => rfl)) (fun _ => rfl)) (fun _ => rfl) _ (fun _ => rfl)) (sk9 (sc9 rfl) sz9 (fun _ => rfl)) (fun _ => rfl)) (fun _ => rfl))) (fun _ => rfl) (fun _ => rfl) _ (fun _ => rfl)) ss_nil) (fun _ _ => rfl)) ss_nil)))) (sq9 (ss_set (se_callV O ⟨X.no_len, X.b_len, rfl, rfl⟩ (callee_b "len") op_len (sk9 (sn9 rfl (.inl rfl) rfl rfl) sz9 (fun _ => rfl)) (fun _ => rfl)) ⟨rfl, (.inl rfl)⟩ (fun _ => rfl)) (sq9 (ss_set (se_callM O (Disp.le (dp_rebuilt O X) (by decide)) (sn9 rfl (.inl rfl) rfl rfl) (sk9 (sn9 rfl (.inl rfl) rfl rfl) (sk9 (se_dropOwn ⟨rfl, (.inl rfl), rfl, rfl⟩ (se_bin (se_lenOwn O ⟨X.no_len, X.b_len, rfl, rfl⟩ ⟨rfl, (.inl rfl), rfl, rfl⟩ (fun _ => rfl)) (sn9 rfl (.inl rfl) rfl rfl))) sz9 (fun _ => rfl)) (fun _ => rfl)) (fun _ => rfl) _ (fun _ => rfl)) ⟨rfl, (.inl rfl)⟩ (fun _ => rfl)) (sq9 (ss_del ⟨rfl, (.inl rfl), rfl, rfl⟩ (se_bin (se_lenOwn O ⟨X.no_len, X.b_len, rfl, rfl⟩ ⟨rfl, (.inl rfl), rfl, rfl⟩ (fun _ => rfl)) (sn9 rfl (.inl rfl) rfl rfl))) (sq9 (ss_append O ⟨rfl, (.inl rfl), rfl, rfl⟩ (sn9 rfl (.inl rfl) rfl rfl) (fun _ => rfl) (fun _ => rfl) _ (fun _ => rfl)) ss_nil))))) ss_nil)) ss_nil)))) (sq9 (ss_ret (se_idx (sn9 rfl (.inl rfl) rfl rfl) (sc9 rfl) (fun _ _ => rfl))) ss_nil)))
noncomputable def S_Renamer_run : List MV → Gst → Option (MV × Gst) := specOf 2 11 F_Renamer_run
theorem sc_Renamer_run (O : Ok C) (X : Fx C) : SC C 4 (.ref A_Renamer_run) S_Renamer_run := sc_fn O X.fn_Renamer_run ⟨rfl, rfl, rfl, by decide +kernel, by decide +kernel, by decide⟩ (b_Renamer_run O X)
noncomputable def D_run : Nat → Option (List MV → Gst → Option (MV × Gst))
  | 8 => some S_Renamer_run
  | _ => none
theorem dp_run (O : Ok C) (X : Fx C) : Disp C 4 "run" D_run := by
  intro c sp h
  unfold D_run at h
  split at h
  · cases h; exact ⟨A_Renamer_run, by decide, X.m_Renamer_run.1, X.m_Renamer_run.2.1, X.m_Renamer_run.2.2.1, X.m_Renamer_run.2.2.2, by decide, SC.le (sc_Renamer_run O X) (by decide)⟩
  · exact ns9 h
noncomputable def F_renamed : Ab → Option (Fl × Ab) :=
  (sSeq (sRet (fCallM D_run (fA9 (clsSpec 8) (lC9 (gv9 1) (lC9 fD0 l09))) (lC9 (gv9 0) l09))) sNil)
set_option maxHeartbeats 4000000 in
set_option maxRecDepth 100000 in
theorem b_renamed (O : Ok C) (X : Fx C) : SSs C ⟨fScope (stAt 11), [("expr" : Str), ("fresh" : Str)] ++ [], true, .none⟩ 4 (fBody (stAt 11)) F_renamed :=
  (sq9 (ss_ret (se_callM O (Disp.le (dp_run O X) (by decide)) (sa9 O ⟨X.mg_Renamer, rfl, rfl⟩ X.kp_Renamer (SC.le (sc_class O X.cls_Renamer (d := 0)) (by decide)) (sk9 (sn9 rfl (.inl rfl) rfl rfl) (sk9 se_dict0 sz9 (fun _ => rfl)) (fun _ => rfl)) (fun _ => rfl)) (sk9 (sn9 rfl (.inl rfl) rfl rfl) sz9 (fun _ => rfl)) (fun _ => rfl) _ (fun _ => rfl))) ss_nil)
noncomputable def S_renamed : List MV → Gst → Option (MV × Gst) := specOf 2 0 F_renamed
theorem sc_renamed (O : Ok C) (X : Fx C) : SC C 5 (.ref A_renamed) S_renamed := sc_fn O X.fn_renamed ⟨rfl, rfl, rfl, by decide +kernel, by decide +kernel, by decide⟩ (b_renamed O X)
noncomputable def F_outer_case : Ab → Option (Fl × Ab) :=
  (sSeq (sSet 3 (fA9 S_renamed (lC9 (fA9 (clsSpec 6) (lC9 (fA9 (clsSpec 0) (lC9 (fK9 (.str "value")) l09)) (lC9 (f1 (gv9 0) (fAttr "name")) (lC9 (f1 (gv9 0) (fAttr "alts")) (lC9 (f1 (gv9 0) (fAttr "other")) l09))))) (lC9 (gv9 2) l09)))) (sSeq (sRet (fA9 (clsSpec 6) (lC9 (gv9 1) (lC9 (f1 (gv9 3) (fAttr "name")) (lC9 (f1 (gv9 3) (fAttr "alts")) (lC9 (f1 (gv9 3) (fAttr "other")) l09)))))) sNil))
set_option maxHeartbeats 4000000 in
set_option maxRecDepth 100000 in
theorem b_outer_case (O : Ok C) (X : Fx C) : SSs C ⟨fScope (stAt 22), [("expr" : Str), ("value" : Str), ("fresh" : Str)] ++ [("opened" : Str)], true, .none⟩ 5 (fBody (stAt 22)) F_outer_case :=
  (sq9 (ss_set (sa9 O ⟨X.mg_renamed, rfl, rfl⟩ X.kp_renamed (SC.le (sc_renamed O X) (by decide)) (sk9 (sa9 O ⟨X.mg_Case, rfl, rfl⟩ X.kp_Case (SC.le (sc_class O X.cls_Case (d := 0)) (by decide)) (sk9 (sa9 O ⟨X.mg_Var, rfl, rfl⟩ X.kp_Var (SC.le (sc_class O X.cls_Var (d := 0)) (by decide)) (sk9 (sc9 rfl) sz9 (fun _ => rfl)) (fun _ => rfl)) (sk9 (se_attr O (sn9 rfl (.inl rfl) rfl rfl) (fun _ => rfl)) (sk9 (se_attr O (sn9 rfl (.inl rfl) rfl rfl) (fun _ => rfl)) (sk9 (se_attr O (sn9 rfl (.inl rfl) rfl rfl) (fun _ => rfl)) sz9 (fun _ => rfl)) (fun _ => rfl)) (fun _ => rfl)) (fun _ => rfl)) (fun _ => rfl)) (sk9 (sn9 rfl (.inl rfl) rfl rfl) sz9 (fun _ => rfl)) (fun _ => rfl)) (fun _ => rfl)) ⟨rfl, (.inl rfl)⟩ (fun _ => rfl)) (sq9 (ss_ret (sa9 O ⟨X.mg_Case, rfl, rfl⟩ X.kp_Case (SC.le (sc_class O X.cls_Case (d := 0)) (by decide)) (sk9 (sn9 rfl (.inl rfl) rfl rfl) (sk9 (se_attr O (sn9 rfl (.inl rfl) rfl rfl) (fun _ => rfl)) (sk9 (se_attr O (sn9 rfl (.inl rfl) rfl rfl) (fun _ => rfl)) (sk9 (se_attr O (sn9 rfl (.inl rfl) rfl rfl) (fun _ => rfl)) sz9 (fun _ => rfl)) (fun _ => rfl)) (fun _ => rfl)) (fun _ => rfl)) (fun _ => rfl))) ss_nil))
noncomputable def S_outer_case : List MV → Gst → Option (MV × Gst) := specOf 3 1 F_outer_case
theorem sc_outer_case (O : Ok C) (X : Fx C) : SC C 6 (.ref A_outer_case) S_outer_case := sc_fn O X.fn_outer_case ⟨rfl, rfl, rfl, by decide +kernel, by decide +kernel, by decide⟩ (b_outer_case O X)
noncomputable def F_go0 : Ab → Option (Fl × Ab) :=
  (sSeq (sSet 1 (fCallM D_next (gv9 3) (lC9 (fK9 (.str "v")) l09))) (sSeq (sRet (fA9 (clsSpec 6) (lC9 (gv9 0) (lC9 (gv9 1) (lC9 (fLst l09) (lC9 (fA9 (clsSpec 2) (lC9 (fA9 (clsSpec 0) (lC9 (gv9 2) l09)) (lC9 (fLst (lC9 (fA9 (clsSpec 0) (lC9 (gv9 1) l09)) l09)) l09))) l09)))))) sNil))
set_option maxRecDepth 100000 in
theorem b_go0 (O : Ok C) (X : Fx C) : SSs C (cloFrm D0) 6 D0.body F_go0 :=
  (sq9 (ss_set (se_callM O (Disp.le (dp_next O X) (by decide)) (sn9 rfl (.inr (.inr rfl)) rfl rfl) (sk9 (sc9 rfl) sz9 (fun _ => rfl)) (fun _ => rfl) _ (fun _ => rfl)) ⟨rfl, (.inl rfl)⟩ (fun _ => rfl)) (sq9 (ss_ret (sa9 O ⟨X.mg_Case, rfl, rfl⟩ X.kp_Case (SC.le (sc_class O X.cls_Case (d := 0)) (by decide)) (sk9 (sn9 rfl (.inl rfl) rfl rfl) (sk9 (sn9 rfl (.inl rfl) rfl rfl) (sk9 (se_lst sz9) (sk9 (sa9 O ⟨X.mg_App, rfl, rfl⟩ X.kp_App (SC.le (sc_class O X.cls_App (d := 0)) (by decide)) (sk9 (sa9 O ⟨X.mg_Var, rfl, rfl⟩ X.kp_Var (SC.le (sc_class O X.cls_Var (d := 0)) (by decide)) (sk9 (sn9 rfl (.inr (.inr rfl)) rfl rfl) sz9 (fun _ => rfl)) (fun _ => rfl)) (sk9 (se_lst (sk9 (sa9 O ⟨X.mg_Var, rfl, rfl⟩ X.kp_Var (SC.le (sc_class O X.cls_Var (d := 0)) (by decide)) (sk9 (sn9 rfl (.inl rfl) rfl rfl) sz9 (fun _ => rfl)) (fun _ => rfl)) sz9 (fun _ => rfl))) sz9 (fun _ => rfl)) (fun _ => rfl)) (fun _ => rfl)) sz9 (fun _ => rfl)) (fun _ => rfl)) (fun _ => rfl)) (fun _ => rfl)) (fun _ => rfl))) ss_nil))
noncomputable def F_go1 : Ab → Option (Fl × Ab) :=
  (sSeq (sRet (fA9 S_outer_case (lC9 (gv9 2) (lC9 (gv9 0) (lC9 (gv9 1) l09))))) sNil)
set_option maxRecDepth 100000 in
theorem b_go1 (O : Ok C) (X : Fx C) : SSs C (cloFrm D1) 6 D1.body F_go1 :=
  (sq9 (ss_ret (sa9 O ⟨X.mg_outer_case, rfl, rfl⟩ X.kp_outer_case (SC.le (sc_outer_case O X) (by decide)) (sk9 (sn9 rfl (.inr (.inr rfl)) rfl rfl) (sk9 (sn9 rfl (.inl rfl) rfl rfl) (sk9 (sn9 rfl (.inr (.inr rfl)) rfl rfl) sz9 (fun _ => rfl)) (fun _ => rfl)) (fun _ => rfl)) (fun _ => rfl))) ss_nil)
noncomputable def cloSpec (k : Nat) (cs ms : List MV) (G : Gst) : Option (MV × Gst) := if ms.length = 1 then (match k with
  | 0 => finish (F_go0 (cloStart D0 ms cs, G))
  | 1 => finish (F_go1 (cloStart D1 ms cs, G))
  | _ => none) else none
theorem scc (O : Ok C) (X : Fx C) : SCC C 7 cloSpec := by
  intro A κ G G' s xs k ms cs r R a hR I hx hv hq k'
  unfold cloSpec at hq
  split at hq
  case isFalse => exact ns9 hq
  rename_i hlen
  split at hq
  · exact clo_call O (D := D0) ⟨rfl, rfl, rfl, by decide +kernel, by decide +kernel, by decide +kernel, by decide +kernel, by decide⟩ (sx_of (b_go0 O X)) (fun o cl c oc h => (X.isClo0 o cl c oc).mp h) hR I hx hv hlen hq k'
  · exact clo_call O (D := D1) ⟨rfl, rfl, rfl, by decide +kernel, by decide +kernel, by decide +kernel, by decide +kernel, by decide⟩ (sx_of (b_go1 O X)) (fun o cl c oc h => (X.isClo1 o cl c oc).mp h) hR I hx hv hlen hq k'
  · exact ns9 hq
noncomputable def F_joined : Ab → Option (Fl × Ab) :=
  (sSeq (sUnp (fTup (lC9 (fCallM D_next (gv9 1) (lC9 (fK9 (.str "j")) l09)) (lC9 (fCallM D_next (gv9 1) (lC9 (fK9 (.str "v")) l09)) l09))) (tTup [2, 3])) (sSeq (sSet 4 (fA9 S_outer_case (lC9 (gv9 0) (lC9 (fA9 (clsSpec 0) (lC9 (gv9 3) l09)) (lC9 (gv9 1) l09))))) (sDx (dDef 0 0 5 [2, 1]) (sSeq (sRet (fTup (lC9 (fLst (lC9 (fTup (lC9 (gv9 2) (lC9 (fA9 (clsSpec 3) (lC9 (fLst (lC9 (gv9 3) l09)) (lC9 (gv9 4) l09))) l09))) l09)) (lC9 (gv9 5) l09)))) sNil))))
set_option maxHeartbeats 4000000 in
set_option maxRecDepth 100000 in
theorem b_joined (O : Ok C) (X : Fx C) : SX C ⟨fScope (stAt 23), [("expr" : Str), ("fresh" : Str)] ++ [("join" : Str), ("value" : Str), ("inner" : Str), ("go_on" : Str)], true, (.ref Cd_joined)⟩ 6 (fBody (stAt 23)) F_joined :=
  (sx_cons (ss_unp (se_tup (sk9 (se_callM O (Disp.le (dp_next O X) (by decide)) (sn9 rfl (.inr (.inl rfl)) rfl rfl) (sk9 (sc9 rfl) sz9 (fun _ => rfl)) (fun _ => rfl) _ (fun _ => rfl)) (sk9 (se_callM O (Disp.le (dp_next O X) (by decide)) (sn9 rfl (.inr (.inl rfl)) rfl rfl) (sk9 (sc9 rfl) sz9 (fun _ => rfl)) (fun _ => rfl) _ (fun _ => rfl)) sz9 (fun _ => rfl)) (fun _ => rfl))) (tg_tuple (.cons ⟨rfl, (.inr ⟨rfl, rfl⟩)⟩ (.cons ⟨rfl, (.inl rfl)⟩ .nil))) (fun _ => rfl) (fun env h => by cases env; cases h; rfl)) (sx_cons (ss_set (sa9 O ⟨X.mg_outer_case, rfl, rfl⟩ X.kp_outer_case (SC.le (sc_outer_case O X) (by decide)) (sk9 (sn9 rfl (.inl rfl) rfl rfl) (sk9 (sa9 O ⟨X.mg_Var, rfl, rfl⟩ X.kp_Var (SC.le (sc_class O X.cls_Var (d := 0)) (by decide)) (sk9 (sn9 rfl (.inl rfl) rfl rfl) sz9 (fun _ => rfl)) (fun _ => rfl)) (sk9 (sn9 rfl (.inr (.inl rfl)) rfl rfl) sz9 (fun _ => rfl)) (fun _ => rfl)) (fun _ => rfl)) (fun _ => rfl)) ⟨rfl, (.inl rfl)⟩ (fun _ => rfl)) (sx_dx (dx_def O (D := D0) (i := 5) (k := 0) (cis := [2, 1]) ⟨by decide +kernel, rfl, rfl, by decide, rfl, rfl, (.inl rfl), by decide, rfl, rfl⟩ X.nest0 rfl (fun o cl c oc h => (X.isClo0 o cl c oc).mpr h) (fun _ => rfl) (fun qual cl doc pm ctv c' s vs h => by match vs, h with | [v], _ => exact BindsTo.of_eq rfl)) (sx_of (sq9 (ss_ret (se_tup (sk9 (se_lst (sk9 (se_tup (sk9 (sn9 rfl (.inr (.inl rfl)) rfl rfl) (sk9 (sa9 O ⟨X.mg_Lam, rfl, rfl⟩ X.kp_Lam (SC.le (sc_class O X.cls_Lam (d := 0)) (by decide)) (sk9 (se_lst (sk9 (sn9 rfl (.inl rfl) rfl rfl) sz9 (fun _ => rfl))) (sk9 (sn9 rfl (.inl rfl) rfl rfl) sz9 (fun _ => rfl)) (fun _ => rfl)) (fun _ => rfl)) sz9 (fun _ => rfl)) (fun _ => rfl))) sz9 (fun _ => rfl))) (sk9 (sn9 rfl (.inl rfl) rfl rfl) sz9 (fun _ => rfl)) (fun _ => rfl)))) ss_nil)))))
noncomputable def S_joined : List MV → Gst → Option (MV × Gst) := specOf 2 4 F_joined
theorem sc_joined (O : Ok C) (X : Fx C) : SC C 7 (.ref A_joined) S_joined := sc_fnX O X.fn_joined ⟨rfl, rfl, rfl, by decide +kernel, by decide +kernel, by decide⟩ (b_joined O X)
noncomputable def F_size_of : Ab → Option (Fl × Ab) :=
  (sSeq (sPair 2 3 (pVal (fK9 (.int 0)) (gLst (lC9 (gv9 0) l09)))) (sSeq (sWhile (tAnd (tOwn 3) (tAnd (asBool (f2 (gv9 2) (gv9 1) (pureOp (cmpMV .LtE)))) (tLit true))) (sSeq (sSet 4 (fPop 3)) (sSeq (sAug 2 (fK9 (.int 1))) (sSeq (sFor (fIt (fCallM D_parts (gv9 4) l09) itMV) (tTup [5, 6]) (sSeq (sApp 3 (gv9 5)) sNil)) sNil))) N) (sSeq (sRet (fIf (tNot (tOwn 3)) (gv9 2) (f2 (gv9 1) (fK9 (.int 1)) (pureOp (binMV .Add))))) sNil)))
set_option maxHeartbeats 4000000 in
set_option maxRecDepth 100000 in
theorem b_size_of (O : Ok C) (X : Fx C) : SSs C ⟨fScope (stAt 13), [("expr" : Str), ("most" : Str)] ++ [("many" : Str), ("tasks" : Str), ("node" : Str), ("part" : Str), ("scope" : Str)], true, .none⟩ 1 (fBody (stAt 13)) F_size_of :=
  (sq9 (ss_pair (sp_val (sc9 rfl) (sg_list (sk9 (sn9 rfl (.inl rfl) rfl rfl) sz9 (fun _ => rfl))) (fun _ => ⟨rfl, rfl⟩)) rfl rfl rfl rfl (fun _ => rfl) (fun env h => by cases env; cases h; rfl)) (sq9 (ss_while N (st_bool (sa_and (st_own ⟨rfl, (.inl rfl), rfl, rfl⟩) (sa_and (st_cmp O (sn9 rfl (.inl rfl) rfl rfl) (sn9 rfl (.inl rfl) rfl rfl) rfl) sa_nil_and))) (sq9 (ss_set (se_pop O ⟨rfl, (.inl rfl), rfl, rfl⟩ (fun _ => rfl) _ (fun _ => rfl)) ⟨rfl, (.inl rfl)⟩ (fun _ => rfl)) (sq9 (ss_aug ⟨rfl, (.inl rfl), rfl, rfl⟩ ⟨rfl, (.inl rfl)⟩ (sc9 rfl)) (sq9 (ss_for (si_val (se_callM O (Disp.le (dp_parts O X) (by decide)) (sn9 rfl (.inl rfl) rfl rfl) sz9 (fun _ => rfl) _ (fun _ => rfl))) (tg_tuple (.cons ⟨rfl, (.inl rfl)⟩ (.cons ⟨rfl, (.inl rfl)⟩ .nil))) (sq9 (ss_append O ⟨rfl, (.inl rfl), rfl, rfl⟩ (sn9 rfl (.inl rfl) rfl rfl) (fun _ => rfl) (fun _ => rfl) _ (fun _ => rfl)) ss_nil) (fun _ _ => rfl)) ss_nil)))) (sq9 (ss_ret (se_if (st_not (st_own ⟨rfl, (.inl rfl), rfl, rfl⟩)) (sn9 rfl (.inl rfl) rfl rfl) (se_bin (sn9 rfl (.inl rfl) rfl rfl) (sc9 rfl)))) ss_nil)))
noncomputable def S_size_of : List MV → Gst → Option (MV × Gst) := specOf 2 5 F_size_of
theorem sc_size_of (O : Ok C) (X : Fx C) : SC C 2 (.ref A_size_of) S_size_of := sc_fn O X.fn_size_of ⟨rfl, rfl, rfl, by decide +kernel, by decide +kernel, by decide⟩ (b_size_of O X)
noncomputable def F_case_of_case : Ab → Option (Fl × Ab) :=
  (sSeq (sIf (tOr (tNot (asBool (f1 (gv9 0) (opIsi 6)))) (tOr (tNot (asBool (f1 (f1 (gv9 0) (fAttr "value")) (opIsi 6)))) (tLit false))) (sSeq (sRet (gv9 0)) sNil) sNil) (sSeq (sSet 3 (fA9 S_renamed (lC9 (f1 (gv9 0) (fAttr "value")) (lC9 (gv9 1) l09)))) (sSeq (sSet 4 (f2 (fA9 opLen (lC9 (f1 (gv9 3) (fAttr "alts")) l09)) (fA9 opInt (lC9 (f2 (f1 (gv9 3) (fAttr "other")) (fK9 .none) (pureOp (cmpMV .IsNot))) l09)) (pureOp (binMV .Add)))) (sSeq (sSet 5 (fA9 (clsSpec 6) (lC9 (fA9 (clsSpec 0) (lC9 (fK9 (.str "value")) l09)) (lC9 (f1 (gv9 0) (fAttr "name")) (lC9 (f1 (gv9 0) (fAttr "alts")) (lC9 (f1 (gv9 0) (fAttr "other")) l09)))))) (sSeq (sSet 6 (fLst l09)) (sDx (dIf (tAnd (asBool (f2 (gv9 4) (fK9 (.int 1)) (pureOp (cmpMV .Gt)))) (tAnd (asBool (f2 (fA9 S_size_of (lC9 (gv9 5) (lC9 (gv9 2) l09))) (gv9 2) (pureOp (cmpMV .Gt)))) (tLit true))) (sSeq (sUnp (fA9 S_joined (lC9 (gv9 0) (lC9 (gv9 1) l09))) (tTup [6, 7])) sNil) (dDef 1 1 7 [1, 0])) (sSeq (sSet 8 (fComp 1 [7] (fIt (f1 (gv9 3) (fAttr "alts")) itMV) (tName 1) (fA9 (clsSpec 5) (lC9 (f1 (gv9 1) (fAttr "key")) (lC9 (f1 (gv9 1) (fAttr "names")) (lC9 (fCallC cloSpec (gv9 2) (lC9 (f1 (gv9 1) (fAttr "body")) l09)) l09)))))) (sSeq (sSet 9 (fIf (asBool (f2 (f1 (gv9 3) (fAttr "other")) (fK9 .none) (pureOp (cmpMV .Is)))) (fK9 .none) (fCallC cloSpec (gv9 7) (lC9 (f1 (gv9 3) (fAttr "other")) l09)))) (sSeq (sSet 10 (fA9 (clsSpec 6) (lC9 (f1 (gv9 3) (fAttr "value")) (lC9 (f1 (gv9 3) (fAttr "name")) (lC9 (gv9 8) (lC9 (gv9 9) l09)))))) (sSeq (sRet (fIf (asBool (f2 (gv9 6) (fLst l09) (pureOp (cmpMV .Eq)))) (gv9 10) (fA9 (clsSpec 4) (lC9 (gv9 6) (lC9 (gv9 10) (lC9 (fK9 (.bool false)) l09)))))) sNil))))))))))
set_option maxHeartbeats 4000000 in
set_option maxRecDepth 100000 in
theorem b_case_of_case (O : Ok C) (X : Fx C) : SX C ⟨fScope (stAt 24), [("expr" : Str), ("fresh" : Str), ("most" : Str)] ++ [("inner" : Str), ("ways" : Str), ("outer" : Str), ("binds" : Str), ("go_on" : Str), ("alts" : Str), ("other" : Str), ("found" : Str)], true, (.ref Cd_case_of_case)⟩ 7 (fBody (stAt 24)) F_case_of_case :=
  (sx_cons (ss_if (st_bool (sa_or (st_not (st_val (se_isi O ⟨X.no_isinstance, X.b_isinstance, rfl, rfl⟩ (by decide) ⟨X.mg_Case, rfl, rfl⟩ (sn9 rfl (.inr (.inl rfl)) rfl rfl) (fun _ => rfl)) (fun _ _ => rfl))) (sa_or (st_not (st_val (se_isi O ⟨X.no_isinstance, X.b_isinstance, rfl, rfl⟩ (by decide) ⟨X.mg_Case, rfl, rfl⟩ (se_attr O (sn9 rfl (.inr (.inl rfl)) rfl rfl) (fun _ => rfl)) (fun _ => rfl)) (fun _ _ => rfl))) sa_nil_or))) (sq9 (ss_ret (sn9 rfl (.inr (.inl rfl)) rfl rfl)) ss_nil) ss_nil) (sx_cons (ss_set (sa9 O ⟨X.mg_renamed, rfl, rfl⟩ X.kp_renamed (SC.le (sc_renamed O X) (by decide)) (sk9 (se_attr O (sn9 rfl (.inr (.inl rfl)) rfl rfl) (fun _ => rfl)) (sk9 (sn9 rfl (.inr (.inl rfl)) rfl rfl) sz9 (fun _ => rfl)) (fun _ => rfl)) (fun _ => rfl)) ⟨rfl, (.inl rfl)⟩ (fun _ => rfl)) (sx_cons (ss_set (se_bin (se_callV O ⟨X.no_len, X.b_len, rfl, rfl⟩ (callee_b "len") op_len (sk9 (se_attr O (sn9 rfl (.inl rfl) rfl rfl) (fun _ => rfl)) sz9 (fun _ => rfl)) (fun _ => rfl)) (se_callV O ⟨X.no_int, X.b_int, rfl, rfl⟩ (callee_t "int") op_int (sk9 (se_cmp O (se_attr O (sn9 rfl (.inl rfl) rfl rfl) (fun _ => rfl)) (sc9 rfl) rfl) sz9 (fun _ => rfl)) (fun _ => rfl))) ⟨rfl, (.inl rfl)⟩ (fun _ => rfl)) (sx_cons (ss_set (sa9 O ⟨X.mg_Case, rfl, rfl⟩ X.kp_Case (SC.le (sc_class O X.cls_Case (d := 0)) (by decide)) (sk9 (sa9 O ⟨X.mg_Var, rfl, rfl⟩ X.kp_Var (SC.le (sc_class O X.cls_Var (d := 0)) (by decide)) (sk9 (sc9 rfl) sz9 (fun _ => rfl)) (fun _ => rfl)) (sk9 (se_attr O (sn9 rfl (.inr (.inl rfl)) rfl rfl) (fun _ => rfl)) (sk9 (se_attr O (sn9 rfl (.inr (.inl rfl)) rfl rfl) (fun _ => rfl)) (sk9 (se_attr O (sn9 rfl (.inr (.inl rfl)) rfl rfl) (fun _ => rfl)) sz9 (fun _ => rfl)) (fun _ => rfl)) (fun _ => rfl)) (fun _ => rfl)) (fun _ => rfl)) ⟨rfl, (.inl rfl)⟩ (fun _ => rfl)) (sx_cons (ss_set (se_lst sz9) ⟨rfl, (.inl rfl)⟩ (fun _ => rfl)) (sx_dx (dx_if (st_bool (sa_and (st_cmp O (sn9 rfl (.inl rfl) rfl rfl) (sc9 rfl) rfl) (sa_and (st_cmp O (sa9 O ⟨X.mg_size_of, rfl, rfl⟩ X.kp_size_of (SC.le (sc_size_of O X) (by decide)) (sk9 (sn9 rfl (.inl rfl) rfl rfl) (sk9 (sn9 rfl (.inl rfl) rfl rfl) sz9 (fun _ => rfl)) (fun _ => rfl)) (fun _ => rfl)) (sn9 rfl (.inl rfl) rfl rfl) rfl) sa_nil_and))) (sq9 (ss_unp (sa9 O ⟨X.mg_joined, rfl, rfl⟩ X.kp_joined (SC.le (sc_joined O X) (by decide)) (sk9 (sn9 rfl (.inr (.inl rfl)) rfl rfl) (sk9 (sn9 rfl (.inr (.inl rfl)) rfl rfl) sz9 (fun _ => rfl)) (fun _ => rfl)) (fun _ => rfl)) (tg_tuple (.cons ⟨rfl, (.inl rfl)⟩ (.cons ⟨rfl, (.inr ⟨rfl, rfl⟩)⟩ .nil))) (fun _ => rfl) (fun env h => by cases env; cases h; rfl)) ss_nil) (dx_def O (D := D1) (i := 7) (k := 1) (cis := [1, 0]) ⟨by decide +kernel, rfl, rfl, by decide, rfl, rfl, (.inr rfl), by decide, rfl, rfl⟩ X.nest1 rfl (fun o cl c oc h => (X.isClo1 o cl c oc).mpr h) (fun _ => rfl) (fun qual cl doc pm ctv c' s vs h => by match vs, h with | [v], _ => exact BindsTo.of_eq rfl))) (sx_of (sq9 (ss_setComp (K := (⟨rfl, rfl, rfl, rfl, rfl, rfl, by decide, rfl, rfl⟩ : CompOk _ _ [("alt" : Str)] [("go_on" : Str)] [7])) (si_val (se_attr O (sn9 rfl (.inl rfl) rfl rfl) (fun _ => rfl))) (tg_name ⟨rfl, (.inl rfl)⟩) (sa9 O ⟨X.mg_Alt, rfl, rfl⟩ X.kp_Alt (SC.le (sc_class O X.cls_Alt (d := 0)) (by decide)) (sk9 (se_attr O (sn9 rfl (.inl rfl) rfl rfl) (fun _ => rfl)) (sk9 (se_attr O (sn9 rfl (.inl rfl) rfl rfl) (fun _ => rfl)) (sk9 (se_callC (SCC.le (scc O X) (by decide)) (sn9 rfl (.inr (.inl rfl)) rfl rfl) (sk9 (se_attr O (sn9 rfl (.inl rfl) rfl rfl) (fun _ => rfl)) sz9 (fun _ => rfl)) X.isFn (fun _ => rfl)) sz9 (fun _ => rfl)) (fun _ => rfl)) (fun _ => rfl)) (fun _ => rfl)) (fun _ _ => rfl) ⟨rfl, (.inl rfl)⟩ (fun env h => by cases env; cases h; rfl)) (sq9 (ss_set (se_if (st_cmp O (se_attr O (sn9 rfl (.inl rfl) rfl rfl) (fun _ => rfl)) (sc9 rfl) rfl) (sc9 rfl) (se_callC (SCC.le (scc O X) (by decide)) (sn9 rfl (.inr (.inl rfl)) rfl rfl) (sk9 (se_attr O (sn9 rfl (.inl rfl) rfl rfl) (fun _ => rfl)) sz9 (fun _ => rfl)) X.isFn (fun _ => rfl))) ⟨rfl, (.inl rfl)⟩ (fun _ => rfl)) (sq9 (ss_set (sa9 O ⟨X.mg_Case, rfl, rfl⟩ X.kp_Case (SC.le (sc_class O X.cls_Case (d := 0)) (by decide)) (sk9 (se_attr O (sn9 rfl (.inl rfl) rfl rfl) (fun _ => rfl)) (sk9 (se_attr O (sn9 rfl (.inl rfl) rfl rfl) (fun _ => rfl)) (sk9 (sn9 rfl (.inl rfl) rfl rfl) (sk9 (sn9 rfl (.inl rfl) rfl rfl) sz9 (fun _ => rfl)) (fun _ => rfl)) (fun _ => rfl)) (fun _ => rfl)) (fun _ => rfl)) ⟨rfl, (.inl rfl)⟩ (fun _ => rfl)) (sq9 (ss_ret (se_if (st_cmp O (sn9 rfl (.inl rfl) rfl rfl) (se_lst sz9) rfl) (sn9 rfl (.inl rfl) rfl rfl) (sa9 O ⟨X.mg_Let, rfl, rfl⟩ X.kp_Let (SC.le (sc_class O X.cls_Let (d := 0)) (by decide)) (sk9 (sn9 rfl (.inl rfl) rfl rfl) (sk9 (sn9 rfl (.inl rfl) rfl rfl) (sk9 (sc9 rfl) sz9 (fun _ => rfl)) (fun _ => rfl)) (fun _ => rfl)) (fun _ => rfl)))) ss_nil)))))))))))
noncomputable def S_case_of_case : List MV → Gst → Option (MV × Gst) := specOf 3 8 F_case_of_case
theorem sc_case_of_case (O : Ok C) (X : Fx C) : SC C 8 (.ref A_case_of_case) S_case_of_case := sc_fnX O X.fn_case_of_case ⟨rfl, rfl, rfl, by decide +kernel, by decide +kernel, by decide⟩ (b_case_of_case O X)
noncomputable def F_case_of_let : Ab → Option (Fl × Ab) :=
  (sSeq (sIf (tOr (tNot (asBool (f1 (gv9 0) (opIsi 6)))) (tOr (tNot (asBool (f1 (f1 (gv9 0) (fAttr "value")) (opIsi 4)))) (tLit false))) (sSeq (sRet (gv9 0)) sNil) sNil) (sSeq (sSet 2 (fA9 S_renamed (lC9 (f1 (gv9 0) (fAttr "value")) (lC9 (gv9 1) l09)))) (sSeq (sRet (fA9 (clsSpec 4) (lC9 (f1 (gv9 2) (fAttr "binds")) (lC9 (fA9 (clsSpec 6) (lC9 (f1 (gv9 2) (fAttr "body")) (lC9 (f1 (gv9 0) (fAttr "name")) (lC9 (f1 (gv9 0) (fAttr "alts")) (lC9 (f1 (gv9 0) (fAttr "other")) l09))))) (lC9 (f1 (gv9 2) (fAttr "is_rec")) l09))))) sNil)))
set_option maxHeartbeats 4000000 in
set_option maxRecDepth 100000 in
theorem b_case_of_let (O : Ok C) (X : Fx C) : SSs C ⟨fScope (stAt 21), [("expr" : Str), ("fresh" : Str)] ++ [("let" : Str)], true, .none⟩ 5 (fBody (stAt 21)) F_case_of_let :=
  (sq9 (ss_if (st_bool (sa_or (st_not (st_val (se_isi O ⟨X.no_isinstance, X.b_isinstance, rfl, rfl⟩ (by decide) ⟨X.mg_Case, rfl, rfl⟩ (sn9 rfl (.inl rfl) rfl rfl) (fun _ => rfl)) (fun _ _ => rfl))) (sa_or (st_not (st_val (se_isi O ⟨X.no_isinstance, X.b_isinstance, rfl, rfl⟩ (by decide) ⟨X.mg_Let, rfl, rfl⟩ (se_attr O (sn9 rfl (.inl rfl) rfl rfl) (fun _ => rfl)) (fun _ => rfl)) (fun _ _ => rfl))) sa_nil_or))) (sq9 (ss_ret (sn9 rfl (.inl rfl) rfl rfl)) ss_nil) ss_nil) (sq9 (ss_set (sa9 O ⟨X.mg_renamed, rfl, rfl⟩ X.kp_renamed (SC.le (sc_renamed O X) (by decide)) (sk9 (se_attr O (sn9 rfl (.inl rfl) rfl rfl) (fun _ => rfl)) (sk9 (sn9 rfl (.inl rfl) rfl rfl) sz9 (fun _ => rfl)) (fun _ => rfl)) (fun _ => rfl)) ⟨rfl, (.inl rfl)⟩ (fun _ => rfl)) (sq9 (ss_ret (sa9 O ⟨X.mg_Let, rfl, rfl⟩ X.kp_Let (SC.le (sc_class O X.cls_Let (d := 0)) (by decide)) (sk9 (se_attr O (sn9 rfl (.inl rfl) rfl rfl) (fun _ => rfl)) (sk9 (sa9 O ⟨X.mg_Case, rfl, rfl⟩ X.kp_Case (SC.le (sc_class O X.cls_Case (d := 0)) (by decide)) (sk9 (se_attr O (sn9 rfl (.inl rfl) rfl rfl) (fun _ => rfl)) (sk9 (se_attr O (sn9 rfl (.inl rfl) rfl rfl) (fun _ => rfl)) (sk9 (se_attr O (sn9 rfl (.inl rfl) rfl rfl) (fun _ => rfl)) (sk9 (se_attr O (sn9 rfl (.inl rfl) rfl rfl) (fun _ => rfl)) sz9 (fun _ => rfl)) (fun _ => rfl)) (fun _ => rfl)) (fun _ => rfl)) (fun _ => rfl)) (sk9 (se_attr O (sn9 rfl (.inl rfl) rfl rfl) (fun _ => rfl)) sz9 (fun _ => rfl)) (fun _ => rfl)) (fun _ => rfl)) (fun _ => rfl))) ss_nil)))
noncomputable def S_case_of_let : List MV → Gst → Option (MV × Gst) := specOf 2 1 F_case_of_let
theorem sc_case_of_let (O : Ok C) (X : Fx C) : SC C 6 (.ref A_case_of_let) S_case_of_let := sc_fn O X.fn_case_of_let ⟨rfl, rfl, rfl, by decide +kernel, by decide +kernel, by decide⟩ (b_case_of_let O X)
noncomputable def F_fields_bound : Ab → Option (Fl × Ab) :=
  (sSeq (sSet 2 (fComp 1 [1] (fIt (f1 (gv9 0) (fAttr "args")) itMV) (tName 1) (fTup (lC9 (fCallM D_next (gv9 2) (lC9 (fK9 (.str "f")) l09)) (lC9 (gv9 1) l09))))) (sSeq (sRet (fTup (lC9 (gv9 2) (lC9 (fA9 (clsSpec 7) (lC9 (f1 (gv9 0) (fAttr "name")) (lC9 (fComp 2 [] (fIt (gv9 2) itMV) (tTup [1, 2]) (fA9 (clsSpec 0) (lC9 (gv9 1) l09))) l09))) l09)))) sNil))
set_option maxHeartbeats 4000000 in
set_option maxRecDepth 100000 in
theorem b_fields_bound (O : Ok C) (X : Fx C) : SSs C ⟨fScope (stAt 15), [("con" : Str), ("fresh" : Str)] ++ [("binds" : Str)], true, .none⟩ 2 (fBody (stAt 15)) F_fields_bound :=
  (sq9 (ss_setComp (K := (⟨rfl, rfl, rfl, rfl, rfl, rfl, by decide, rfl, rfl⟩ : CompOk _ _ [("arg" : Str)] [("fresh" : Str)] [1])) (si_val (se_attr O (sn9 rfl (.inl rfl) rfl rfl) (fun _ => rfl))) (tg_name ⟨rfl, (.inl rfl)⟩) (se_tup (sk9 (se_callM O (Disp.le (dp_next O X) (by decide)) (sn9 rfl (.inr (.inl rfl)) rfl rfl) (sk9 (sc9 rfl) sz9 (fun _ => rfl)) (fun _ => rfl) _ (fun _ => rfl)) (sk9 (sn9 rfl (.inl rfl) rfl rfl) sz9 (fun _ => rfl)) (fun _ => rfl))) (fun _ _ => rfl) ⟨rfl, (.inl rfl)⟩ (fun env h => by cases env; cases h; rfl)) (sq9 (ss_ret (se_tup (sk9 (sn9 rfl (.inl rfl) rfl rfl) (sk9 (sa9 O ⟨X.mg_Con, rfl, rfl⟩ X.kp_Con (SC.le (sc_class O X.cls_Con (d := 0)) (by decide)) (sk9 (se_attr O (sn9 rfl (.inl rfl) rfl rfl) (fun _ => rfl)) (sk9 (se_comp (K := (⟨rfl, rfl, rfl, rfl, rfl, rfl, by decide, rfl, rfl⟩ : CompOk _ _ [("name" : Str), ("arg" : Str)] [] [])) (si_val (sn9 rfl (.inl rfl) rfl rfl)) (tg_tuple (.cons ⟨rfl, (.inl rfl)⟩ (.cons ⟨rfl, (.inl rfl)⟩ .nil))) (sa9 O ⟨X.mg_Var, rfl, rfl⟩ X.kp_Var (SC.le (sc_class O X.cls_Var (d := 0)) (by decide)) (sk9 (sn9 rfl (.inl rfl) rfl rfl) sz9 (fun _ => rfl)) (fun _ => rfl)) (fun _ _ => rfl)) sz9 (fun _ => rfl)) (fun _ => rfl)) (fun _ => rfl)) sz9 (fun _ => rfl)) (fun _ => rfl)))) ss_nil))
noncomputable def S_fields_bound : List MV → Gst → Option (MV × Gst) := specOf 2 1 F_fields_bound
theorem sc_fields_bound (O : Ok C) (X : Fx C) : SC C 3 (.ref A_fields_bound) S_fields_bound := sc_fn O X.fn_fields_bound ⟨rfl, rfl, rfl, by decide +kernel, by decide +kernel, by decide⟩ (b_fields_bound O X)
noncomputable def F_way_of_con : Ab → Option (Fl × Ab) :=
  (sSeq (sFor (fIt (f1 (gv9 0) (fAttr "alts")) itMV) (tName 2) (sSeq (sIf (asBool (f2 (f1 (gv9 2) (fAttr "key")) (fTup (lC9 (fK9 (.str "con")) (lC9 (gv9 1) l09))) (pureOp (cmpMV .Eq)))) (sSeq (sRet (gv9 2)) sNil) sNil) sNil)) (sSeq (sRet (fK9 .none)) sNil))
set_option maxHeartbeats 4000000 in
set_option maxRecDepth 100000 in
theorem b_way_of_con (O : Ok C) (X : Fx C) : SSs C ⟨fScope (stAt 17), [("case" : Str), ("name" : Str)] ++ [("alt" : Str)], true, .none⟩ 0 (fBody (stAt 17)) F_way_of_con :=
  (sq9 (ss_for (si_val (se_attr O (sn9 rfl (.inl rfl) rfl rfl) (fun _ => rfl))) (tg_name ⟨rfl, (.inl rfl)⟩) (sq9 (ss_if (st_cmp O (se_attr O (sn9 rfl (.inl rfl) rfl rfl) (fun _ => rfl)) (se_tup (sk9 (sc9 rfl) (sk9 (sn9 rfl (.inl rfl) rfl rfl) sz9 (fun _ => rfl)) (fun _ => rfl))) rfl) (sq9 (ss_ret (sn9 rfl (.inl rfl) rfl rfl)) ss_nil) ss_nil) ss_nil) (fun _ _ => rfl)) (sq9 (ss_ret (sc9 rfl)) ss_nil))
noncomputable def S_way_of_con : List MV → Gst → Option (MV × Gst) := specOf 2 1 F_way_of_con
theorem sc_way_of_con (O : Ok C) (X : Fx C) : SC C 1 (.ref A_way_of_con) S_way_of_con := sc_fn O X.fn_way_of_con ⟨rfl, rfl, rfl, by decide +kernel, by decide +kernel, by decide⟩ (b_way_of_con O X)
noncomputable def F_with_lets : Ab → Option (Fl × Ab) :=
  (sSeq (sFor (fIt (gv9 0) itRev) (tName 2) (sSeq (sIf (asBool (f2 (gv9 2) (fLst l09) (pureOp (cmpMV .NotEq)))) (sSeq (sSet 1 (fA9 (clsSpec 4) (lC9 (gv9 2) (lC9 (gv9 1) (lC9 (fK9 (.bool false)) l09))))) sNil) sNil) sNil)) (sSeq (sRet (gv9 1)) sNil))
set_option maxHeartbeats 4000000 in
set_option maxRecDepth 100000 in
theorem b_with_lets (O : Ok C) (X : Fx C) : SSs C ⟨fScope (stAt 16), [("rows" : Str), ("body" : Str)] ++ [("binds" : Str)], true, .none⟩ 2 (fBody (stAt 16)) F_with_lets :=
  (sq9 (ss_for (si_reversed O ⟨X.no_reversed, X.b_reversed, rfl, rfl⟩ (sn9 rfl (.inl rfl) rfl rfl) (fun _ => rfl)) (tg_name ⟨rfl, (.inl rfl)⟩) (sq9 (ss_if (st_cmp O (sn9 rfl (.inl rfl) rfl rfl) (se_lst sz9) rfl) (sq9 (ss_set (sa9 O ⟨X.mg_Let, rfl, rfl⟩ X.kp_Let (SC.le (sc_class O X.cls_Let (d := 0)) (by decide)) (sk9 (sn9 rfl (.inl rfl) rfl rfl) (sk9 (sn9 rfl (.inl rfl) rfl rfl) (sk9 (sc9 rfl) sz9 (fun _ => rfl)) (fun _ => rfl)) (fun _ => rfl)) (fun _ => rfl)) ⟨rfl, (.inl rfl)⟩ (fun _ => rfl)) ss_nil) ss_nil) ss_nil) (fun _ _ => rfl)) (sq9 (ss_ret (sn9 rfl (.inl rfl) rfl rfl)) ss_nil))
noncomputable def S_with_lets : List MV → Gst → Option (MV × Gst) := specOf 2 1 F_with_lets
theorem sc_with_lets (O : Ok C) (X : Fx C) : SC C 3 (.ref A_with_lets) S_with_lets := sc_fn O X.fn_with_lets ⟨rfl, rfl, rfl, by decide +kernel, by decide +kernel, by decide⟩ (b_with_lets O X)
noncomputable def F_known_con : Ab → Option (Fl × Ab) :=
  (sSeq (sSet 2 (fA9 (clsSpec 6) (lC9 (f1 (gv9 0) (fAttr "value")) (lC9 (f1 (gv9 0) (fAttr "name")) (lC9 (f1 (gv9 0) (fAttr "alts")) (lC9 (f1 (gv9 0) (fAttr "other")) l09)))))) (sSeq (sUnp (fA9 S_fields_bound (lC9 (f1 (gv9 2) (fAttr "value")) (lC9 (gv9 1) l09))) (tTup [3, 4])) (sSeq (sSet 5 (fA9 S_renamed (lC9 (fA9 (clsSpec 6) (lC9 (gv9 4) (lC9 (f1 (gv9 2) (fAttr "name")) (lC9 (f1 (gv9 2) (fAttr "alts")) (lC9 (f1 (gv9 2) (fAttr "other")) l09))))) (lC9 (gv9 1) l09)))) (sSeq (sSet 6 (fA9 S_way_of_con (lC9 (gv9 5) (lC9 (f1 (gv9 4) (fAttr "name")) l09)))) (sSeq (sIf (asBool (f2 (gv9 6) (fK9 .none) (pureOp (cmpMV .Is)))) (sSeq (sRet (fIf (asBool (f2 (f1 (gv9 5) (fAttr "other")) (fK9 .none) (pureOp (cmpMV .Is)))) (gv9 0) (fA9 S_with_lets (lC9 (fLst (lC9 (gv9 3) (lC9 (fLst (lC9 (fTup (lC9 (f1 (gv9 5) (fAttr "name")) (lC9 (gv9 4) l09))) l09)) l09))) (lC9 (f1 (gv9 5) (fAttr "other")) l09))))) sNil) sNil) (sSeq (sSet 7 (fComp 1 [6, 4] (fIt (fA9 opLen (lC9 (f1 (gv9 6) (fAttr "names")) l09)) itRange) (tName 1) (fTup (lC9 (f2 (f1 (gv9 2) (fAttr "names")) (gv9 1) fIdx) (lC9 (f2 (f1 (gv9 3) (fAttr "args")) (gv9 1) fIdx) l09))))) (sSeq (sRet (fA9 S_with_lets (lC9 (fLst (lC9 (gv9 3) (lC9 (fLst (lC9 (fTup (lC9 (f1 (gv9 5) (fAttr "name")) (lC9 (gv9 4) l09))) l09)) (lC9 (gv9 7) l09)))) (lC9 (f1 (gv9 6) (fAttr "body")) l09)))) sNil)))))))
set_option maxHeartbeats 4000000 in
set_option maxRecDepth 100000 in
theorem b_known_con (O : Ok C) (X : Fx C) : SSs C ⟨fScope (stAt 18), [("expr" : Str), ("fresh" : Str)] ++ [("case" : Str), ("binds" : Str), ("cell" : Str), ("opened" : Str), ("alt" : Str), ("fields" : Str)], true, .none⟩ 5 (fBody (stAt 18)) F_known_con :=
  (sq9 (ss_set (sa9 O ⟨X.mg_Case, rfl, rfl⟩ X.kp_Case (SC.le (sc_class O X.cls_Case (d := 0)) (by decide)) (sk9 (se_attr O (sn9 rfl (.inl rfl) rfl rfl) (fun _ => rfl)) (sk9 (se_attr O (sn9 rfl (.inl rfl) rfl rfl) (fun _ => rfl)) (sk9 (se_attr O (sn9 rfl (.inl rfl) rfl rfl) (fun _ => rfl)) (sk9 (se_attr O (sn9 rfl (.inl rfl) rfl rfl) (fun _ => rfl)) sz9 (fun _ => rfl)) (fun _ => rfl)) (fun _ => rfl)) (fun _ => rfl)) (fun _ => rfl)) ⟨rfl, (.inl rfl)⟩ (fun _ => rfl)) (sq9 (ss_unp (sa9 O ⟨X.mg_fields_bound, rfl, rfl⟩ X.kp_fields_bound (SC.le (sc_fields_bound O X) (by decide)) (sk9 (se_attr O (sn9 rfl (.inl rfl) rfl rfl) (fun _ => rfl)) (sk9 (sn9 rfl (.inl rfl) rfl rfl) sz9 (fun _ => rfl)) (fun _ => rfl)) (fun _ => rfl)) (tg_tuple (.cons ⟨rfl, (.inl rfl)⟩ (.cons ⟨rfl, (.inr ⟨rfl, rfl⟩)⟩ .nil))) (fun _ => rfl) (fun env h => by cases env; cases h; rfl)) (sq9 (ss_set (sa9 O ⟨X.mg_renamed, rfl, rfl⟩ X.kp_renamed (SC.le (sc_renamed O X) (by decide)) (sk9 (sa9 O ⟨X.mg_Case, rfl, rfl⟩ X.kp_Case (SC.le (sc_class O X.cls_Case (d := 0)) (by decide)) (sk9 (sn9 rfl (.inr (.inl rfl)) rfl rfl) (sk9 (se_attr O (sn9 rfl (.inl rfl) rfl rfl) (fun _ => rfl)) (sk9 (se_attr O (sn9 rfl (.inl rfl) rfl rfl) (fun _ => rfl)) (sk9 (se_attr O (sn9 rfl (.inl rfl) rfl rfl) (fun _ => rfl)) sz9 (fun _ => rfl)) (fun _ => rfl)) (fun _ => rfl)) (fun _ => rfl)) (fun _ => rfl)) (sk9 (sn9 rfl (.inl rfl) rfl rfl) sz9 (fun _ => rfl)) (fun _ => rfl)) (fun _ => rfl)) ⟨rfl, (.inl rfl)⟩ (fun _ => rfl)) (sq9 (ss_set (sa9 O ⟨X.mg_way_of_con, rfl, rfl⟩ X.kp_way_of_con (SC.le (sc_way_of_con O X) (by decide)) (sk9 (sn9 rfl (.inl rfl) rfl rfl) (sk9 (se_attr O (sn9 rfl (.inr (.inl rfl)) rfl rfl) (fun _ => rfl)) sz9 (fun _ => rfl)) (fun _ => rfl)) (fun _ => rfl)) ⟨rfl, (.inr ⟨rfl, rfl⟩)⟩ (fun _ => rfl)) (sq9 (ss_if (st_cmp O (sn9 rfl (.inr (.inl rfl)) rfl rfl) (sc9 rfl) rfl) (sq9 (ss_ret (se_if (st_cmp O (se_attr O (sn9 rfl (.inl rfl) rfl rfl) (fun _ => rfl)) (sc9 rfl) rfl) (sn9 rfl (.inl rfl) rfl rfl) (sa9 O ⟨X.mg_with_lets, rfl, rfl⟩ X.kp_with_lets (SC.le (sc_with_lets O X) (by decide)) (sk9 (se_lst (sk9 (sn9 rfl (.inl rfl) rfl rfl) (sk9 (se_lst (sk9 (se_tup (sk9 (se_attr O (sn9 rfl (.inl rfl) rfl rfl) (fun _ => rfl)) (sk9 (sn9 rfl (.inr (.inl rfl)) rfl rfl) sz9 (fun _ => rfl)) (fun _ => rfl))) sz9 (fun _ => rfl))) sz9 (fun _ => rfl)) (fun _ => rfl))) (sk9 (se_attr O (sn9 rfl (.inl rfl) rfl rfl) (fun _ => rfl)) sz9 (fun _ => rfl)) (fun _ => rfl)) (fun _ => rfl)))) ss_nil) ss_nil) (sq9 (ss_setComp (K := (⟨rfl, rfl, rfl, rfl, rfl, rfl, by decide, rfl, rfl⟩ : CompOk _ _ [("at" : Str)] [("alt" : Str), ("cell" : Str)] [6, 4])) (si_range O ⟨X.no_range, X.b_range, rfl, rfl⟩ (se_callV O ⟨X.no_len, X.b_len, rfl, rfl⟩ (callee_b "len") op_len (sk9 (se_attr O (sn9 rfl (.inr (.inl rfl)) rfl rfl) (fun _ => rfl)) sz9 (fun _ => rfl)) (fun _ => rfl)) (fun _ => rfl)) (tg_name ⟨rfl, (.inl rfl)⟩) (se_tup (sk9 (se_idx (se_attr O (sn9 rfl (.inr (.inl rfl)) rfl rfl) (fun _ => rfl)) (sn9 rfl (.inl rfl) rfl rfl) (fun _ _ => rfl)) (sk9 (se_idx (se_attr O (sn9 rfl (.inr (.inl rfl)) rfl rfl) (fun _ => rfl)) (sn9 rfl (.inl rfl) rfl rfl) (fun _ _ => rfl)) sz9 (fun _ => rfl)) (fun _ => rfl))) (fun _ _ => rfl) ⟨rfl, (.inl rfl)⟩ (fun env h => by cases env; cases h; rfl)) (sq9 (ss_ret (sa9 O ⟨X.mg_with_lets, rfl, rfl⟩ X.kp_with_lets (SC.le (sc_with_lets O X) (by decide)) (sk9 (se_lst (sk9 (sn9 rfl (.inl rfl) rfl rfl) (sk9 (se_lst (sk9 (se_tup (sk9 (se_attr O (sn9 rfl (.inl rfl) rfl rfl) (fun _ => rfl)) (sk9 (sn9 rfl (.inr (.inl rfl)) rfl rfl) sz9 (fun _ => rfl)) (fun _ => rfl))) sz9 (fun _ => rfl))) (sk9 (sn9 rfl (.inl rfl) rfl rfl) sz9 (fun _ => rfl)) (fun _ => rfl)) (fun _ => rfl))) (sk9 (se_attr O (sn9 rfl (.inr (.inl rfl)) rfl rfl) (fun _ => rfl)) sz9 (fun _ => rfl)) (fun _ => rfl)) (fun _ => rfl))) ss_nil)))))))
noncomputable def S_known_con : List MV → Gst → Option (MV × Gst) := specOf 2 6 F_known_con
theorem sc_known_con (O : Ok C) (X : Fx C) : SC C 6 (.ref A_known_con) S_known_con := sc_fn O X.fn_known_con ⟨rfl, rfl, rfl, by decide +kernel, by decide +kernel, by decide⟩ (b_known_con O X)
noncomputable def F_known_lit : Ab → Option (Fl × Ab) :=
  (sSeq (sSet 2 (fA9 S_renamed (lC9 (gv9 0) (lC9 (gv9 1) l09)))) (sSeq (sSet 3 (fTup (lC9 (fK9 (.str "lit")) (lC9 (f1 (f1 (gv9 0) (fAttr "value")) (fAttr "kind")) (lC9 (f1 (f1 (gv9 0) (fAttr "value")) (fAttr "value")) l09))))) (sSeq (sFor (fIt (f1 (gv9 2) (fAttr "alts")) itMV) (tName 4) (sSeq (sIf (asBool (f2 (f1 (gv9 4) (fAttr "key")) (gv9 3) (pureOp (cmpMV .Eq)))) (sSeq (sRet (fA9 (clsSpec 4) (lC9 (fLst (lC9 (fTup (lC9 (f1 (gv9 2) (fAttr "name")) (lC9 (f1 (gv9 0) (fAttr "value")) l09))) l09)) (lC9 (f1 (gv9 4) (fAttr "body")) (lC9 (fK9 (.bool false)) l09))))) sNil) sNil) sNil)) (sSeq (sRet (fIf (asBool (f2 (f1 (gv9 2) (fAttr "other")) (fK9 .none) (pureOp (cmpMV .Is)))) (gv9 0) (fA9 (clsSpec 4) (lC9 (fLst (lC9 (fTup (lC9 (f1 (gv9 2) (fAttr "name")) (lC9 (f1 (gv9 0) (fAttr "value")) l09))) l09)) (lC9 (f1 (gv9 2) (fAttr "other")) (lC9 (fK9 (.bool false)) l09)))))) sNil))))
set_option maxHeartbeats 4000000 in
set_option maxRecDepth 100000 in
theorem b_known_lit (O : Ok C) (X : Fx C) : SSs C ⟨fScope (stAt 19), [("expr" : Str), ("fresh" : Str)] ++ [("opened" : Str), ("key" : Str), ("alt" : Str)], true, .none⟩ 5 (fBody (stAt 19)) F_known_lit :=
  (sq9 (ss_set (sa9 O ⟨X.mg_renamed, rfl, rfl⟩ X.kp_renamed (SC.le (sc_renamed O X) (by decide)) (sk9 (sn9 rfl (.inl rfl) rfl rfl) (sk9 (sn9 rfl (.inl rfl) rfl rfl) sz9 (fun _ => rfl)) (fun _ => rfl)) (fun _ => rfl)) ⟨rfl, (.inl rfl)⟩ (fun _ => rfl)) (sq9 (ss_set (se_tup (sk9 (sc9 rfl) (sk9 (se_attr O (se_attr O (sn9 rfl (.inl rfl) rfl rfl) (fun _ => rfl)) (fun _ => rfl)) (sk9 (se_attr O (se_attr O (sn9 rfl (.inl rfl) rfl rfl) (fun _ => rfl)) (fun _ => rfl)) sz9 (fun _ => rfl)) (fun _ => rfl)) (fun _ => rfl))) ⟨rfl, (.inl rfl)⟩ (fun _ => rfl)) (sq9 (ss_for (si_val (se_attr O (sn9 rfl (.inl rfl) rfl rfl) (fun _ => rfl))) (tg_name ⟨rfl, (.inl rfl)⟩) (sq9 (ss_if (st_cmp O (se_attr O (sn9 rfl (.inl rfl) rfl rfl) (fun _ => rfl)) (sn9 rfl (.inl rfl) rfl rfl) rfl) (sq9 (ss_ret (sa9 O ⟨X.mg_Let, rfl, rfl⟩ X.kp_Let (SC.le (sc_class O X.cls_Let (d := 0)) (by decide)) (sk9 (se_lst (sk9 (se_tup (sk9 (se_attr O (sn9 rfl (.inl rfl) rfl rfl) (fun _ => rfl)) (sk9 (se_attr O (sn9 rfl (.inl rfl) rfl rfl) (fun _ => rfl)) sz9 (fun _ => rfl)) (fun _ => rfl))) sz9 (fun _ => rfl))) (sk9 (se_attr O (sn9 rfl (.inl rfl) rfl rfl) (fun _ => rfl)) (sk9 (sc9 rfl) sz9 (fun _ => rfl)) (fun _ => rfl)) (fun _ => rfl)) (fun _ => rfl))) ss_nil) ss_nil) ss_nil) (fun _ _ => rfl)) (sq9 (ss_ret (se_if (st_cmp O (se_attr O (sn9 rfl (.inl rfl) rfl rfl) (fun _ => rfl)) (sc9 rfl) rfl) (sn9 rfl (.inl rfl) rfl rfl) (sa9 O ⟨X.mg_Let, rfl, rfl⟩ X.kp_Let (SC.le (sc_class O X.cls_Let (d := 0)) (by decide)) (sk9 (se_lst (sk9 (se_tup (sk9 (se_attr O (sn9 rfl (.inl rfl) rfl rfl) (fun _ => rfl)) (sk9 (se_attr O (sn9 rfl (.inl rfl) rfl rfl) (fun _ => rfl)) sz9 (fun _ => rfl)) (fun _ => rfl))) sz9 (fun _ => rfl))) (sk9 (se_attr O (sn9 rfl (.inl rfl) rfl rfl) (fun _ => rfl)) (sk9 (sc9 rfl) sz9 (fun _ => rfl)) (fun _ => rfl)) (fun _ => rfl)) (fun _ => rfl)))) ss_nil))))
noncomputable def S_known_lit : List MV → Gst → Option (MV × Gst) := specOf 2 3 F_known_lit
theorem sc_known_lit (O : Ok C) (X : Fx C) : SC C 6 (.ref A_known_lit) S_known_lit := sc_fn O X.fn_known_lit ⟨rfl, rfl, rfl, by decide +kernel, by decide +kernel, by decide⟩ (b_known_lit O X)
noncomputable def F_known_case : Ab → Option (Fl × Ab) :=
  (sSeq (sIf (tNot (asBool (f1 (gv9 0) (opIsi 6)))) (sSeq (sRet (gv9 0)) sNil) sNil) (sSeq (sIf (asBool (f1 (f1 (gv9 0) (fAttr "value")) (opIsi 7))) (sSeq (sRet (fA9 S_known_con (lC9 (gv9 0) (lC9 (gv9 1) l09)))) sNil) sNil) (sSeq (sIf (asBool (f1 (f1 (gv9 0) (fAttr "value")) (opIsi 1))) (sSeq (sRet (fA9 S_known_lit (lC9 (gv9 0) (lC9 (gv9 1) l09)))) sNil) sNil) (sSeq (sIf (tAnd (asBool (f1 (f1 (gv9 0) (fAttr "value")) (opIsi 3))) (tAnd (asBool (f2 (f1 (gv9 0) (fAttr "alts")) (fLst l09) (pureOp (cmpMV .Eq)))) (tAnd (asBool (f2 (f1 (gv9 0) (fAttr "other")) (fK9 .none) (pureOp (cmpMV .IsNot)))) (tLit true)))) (sSeq (sSet 2 (fA9 S_renamed (lC9 (gv9 0) (lC9 (gv9 1) l09)))) (sSeq (sRet (fA9 (clsSpec 4) (lC9 (fLst (lC9 (fTup (lC9 (f1 (gv9 2) (fAttr "name")) (lC9 (f1 (gv9 2) (fAttr "value")) l09))) l09)) (lC9 (f1 (gv9 2) (fAttr "other")) (lC9 (fK9 (.bool false)) l09))))) sNil)) sNil) (sSeq (sRet (gv9 0)) sNil)))))
set_option maxHeartbeats 4000000 in
set_option maxRecDepth 100000 in
theorem b_known_case (O : Ok C) (X : Fx C) : SSs C ⟨fScope (stAt 20), [("expr" : Str), ("fresh" : Str)] ++ [("opened" : Str)], true, .none⟩ 6 (fBody (stAt 20)) F_known_case :=
  (sq9 (ss_if (st_not (st_val (se_isi O ⟨X.no_isinstance, X.b_isinstance, rfl, rfl⟩ (by decide) ⟨X.mg_Case, rfl, rfl⟩ (sn9 rfl (.inl rfl) rfl rfl) (fun _ => rfl)) (fun _ _ => rfl))) (sq9 (ss_ret (sn9 rfl (.inl rfl) rfl rfl)) ss_nil) ss_nil) (sq9 (ss_if (st_val (se_isi O ⟨X.no_isinstance, X.b_isinstance, rfl, rfl⟩ (by decide) ⟨X.mg_Con, rfl, rfl⟩ (se_attr O (sn9 rfl (.inl rfl) rfl rfl) (fun _ => rfl)) (fun _ => rfl)) (fun _ _ => rfl)) (sq9 (ss_ret (sa9 O ⟨X.mg_known_con, rfl, rfl⟩ X.kp_known_con (SC.le (sc_known_con O X) (by decide)) (sk9 (sn9 rfl (.inl rfl) rfl rfl) (sk9 (sn9 rfl (.inl rfl) rfl rfl) sz9 (fun _ => rfl)) (fun _ => rfl)) (fun _ => rfl))) ss_nil) ss_nil) (sq9 (ss_if (st_val (se_isi O ⟨X.no_isinstance, X.b_isinstance, rfl, rfl⟩ (by decide) ⟨X.mg_Lit, rfl, rfl⟩ (se_attr O (sn9 rfl (.inl rfl) rfl rfl) (fun _ => rfl)) (fun _ => rfl)) (fun _ _ => rfl)) (sq9 (ss_ret (sa9 O ⟨X.mg_known_lit, rfl, rfl⟩ X.kp_known_lit (SC.le (sc_known_lit O X) (by decide)) (sk9 (sn9 rfl (.inl rfl) rfl rfl) (sk9 (sn9 rfl (.inl rfl) rfl rfl) sz9 (fun _ => rfl)) (fun _ => rfl)) (fun _ => rfl))) ss_nil) ss_nil) (sq9 (ss_if (st_bool (sa_and (st_val (se_isi O ⟨X.no_isinstance, X.b_isinstance, rfl, rfl⟩ (by decide) ⟨X.mg_Lam, rfl, rfl⟩ (se_attr O (sn9 rfl (.inl rfl) rfl rfl) (fun _ => rfl)) (fun _ => rfl)) (fun _ _ => rfl)) (sa_and (st_cmp O (se_attr O (sn9 rfl (.inl rfl) rfl rfl) (fun _ => rfl)) (se_lst sz9) rfl) (sa_and (st_cmp O (se_attr O (sn9 rfl (.inl rfl) rfl rfl) (fun _ => rfl)) (sc9 rfl) rfl) sa_nil_and)))) (sq9 (ss_set (sa9 O ⟨X.mg_renamed, rfl, rfl⟩ X.kp_renamed (SC.le (sc_renamed O X) (by decide)) (sk9 (sn9 rfl (.inl rfl) rfl rfl) (sk9 (sn9 rfl (.inl rfl) rfl rfl) sz9 (fun _ => rfl)) (fun _ => rfl)) (fun _ => rfl)) ⟨rfl, (.inl rfl)⟩ (fun _ => rfl)) (sq9 (ss_ret (sa9 O ⟨X.mg_Let, rfl, rfl⟩ X.kp_Let (SC.le (sc_class O X.cls_Let (d := 0)) (by decide)) (sk9 (se_lst (sk9 (se_tup (sk9 (se_attr O (sn9 rfl (.inl rfl) rfl rfl) (fun _ => rfl)) (sk9 (se_attr O (sn9 rfl (.inl rfl) rfl rfl) (fun _ => rfl)) sz9 (fun _ => rfl)) (fun _ => rfl))) sz9 (fun _ => rfl))) (sk9 (se_attr O (sn9 rfl (.inl rfl) rfl rfl) (fun _ => rfl)) (sk9 (sc9 rfl) sz9 (fun _ => rfl)) (fun _ => rfl)) (fun _ => rfl)) (fun _ => rfl))) ss_nil)) ss_nil) (sq9 (ss_ret (sn9 rfl (.inl rfl) rfl rfl)) ss_nil)))))
noncomputable def S_known_case : List MV → Gst → Option (MV × Gst) := specOf 2 1 F_known_case
theorem sc_known_case (O : Ok C) (X : Fx C) : SC C 7 (.ref A_known_case) S_known_case := sc_fn O X.fn_known_case ⟨rfl, rfl, rfl, by decide +kernel, by decide +kernel, by decide⟩ (b_known_case O X)
noncomputable def F_law_pen : Ab → Option (Fl × Ab) :=
  (sSeq (sSet 2 (fIf (asBool (f2 (gv9 1) (fK9 (.int 0)) (pureOp (cmpMV .GtE)))) (f2 (fK9 (.int 2)) (gv9 1) (pureOp (binMV .Mult))) (f2 (f1 (fK9 (.int 1)) fNeg) (f2 (fK9 (.int 2)) (gv9 1) (pureOp (binMV .Mult))) (pureOp (binMV .Sub))))) (sSeq (sRet (fD2 "great" "small" (fIf (asBool (f2 (gv9 2) (f2 (fK9 (.int 10)) (fK9 (.int 15)) (pureOp (binMV .Pow))) (pureOp (cmpMV .Gt)))) (gv9 2) (fK9 (.int 0))) (f2 (f2 (gv9 2) (fK9 (.int 999983)) (pureOp (binMV .Mod))) (fK9 (.int 3)) (pureOp (binMV .Add))))) sNil))
set_option maxHeartbeats 4000000 in
set_option maxRecDepth 100000 in
theorem b_law_pen (O : Ok C) (X : Fx C) : SSs C ⟨fScope (stAt 30), [("script" : Str)] ++ [("cell" : Str), ("great" : Str)], true, .none⟩ 0 (fBody (stAt 30)).tail F_law_pen :=
  (sq9 (ss_set (se_if (st_cmp O (sn9 rfl (.inl rfl) rfl rfl) (sc9 rfl) rfl) (se_bin (sc9 rfl) (sn9 rfl (.inl rfl) rfl rfl)) (se_bin (se_neg (sc9 rfl)) (se_bin (sc9 rfl) (sn9 rfl (.inl rfl) rfl rfl)))) ⟨rfl, (.inl rfl)⟩ (fun _ => rfl)) (sq9 (ss_ret (se_dict2 (by decide) (se_if (st_cmp O (sn9 rfl (.inl rfl) rfl rfl) (se_bin (sc9 rfl) (sc9 rfl)) rfl) (sn9 rfl (.inl rfl) rfl rfl) (sc9 rfl)) (se_bin (se_bin (sn9 rfl (.inl rfl) rfl rfl) (sc9 rfl)) (sc9 rfl)))) ss_nil))
end
end Mine
end

section
namespace Mine
open PySem PySem.Calls PyProof.Rows PySem.W
section
variable {C : Ctx}
noncomputable def F_law : Ab → Option (Fl × Ab) :=
  (sSeq (sUnp (fTup (lC9 (f2 (fLst (lC9 (fK9 (.int 0)) (lC9 (fK9 (.int 0)) (lC9 (fK9 (.int 0)) (lC9 (fK9 (.int 1)) (lC9 (fK9 (.int 2)) l09)))))) (fA9 S_law_next (lC9 (gv9 1) (lC9 (fK9 (.int 5)) l09))) fIdx) (lC9 (f2 (fK9 (.int 1)) (fA9 S_law_next (lC9 (gv9 1) (lC9 (fK9 (.int 5)) l09))) (pureOp (binMV .Add))) (lC9 (fA9 S_Fresh (lC9 (fLst (lC9 (fK9 (.str "p")) (lC9 (fK9 (.str "q")) (lC9 (fK9 (.str "r")) (lC9 (fK9 (.str "s")) (lC9 (fK9 (.str "m")) (lC9 (fK9 (.str "a")) (lC9 (fK9 (.str "b")) l09)))))))) l09)) l09)))) (tRev [4, 3, 2])) (sSeq (sIf (asBool (f2 (gv9 2) (fK9 (.int 0)) (pureOp (cmpMV .Eq)))) (sSeq (sSet 5 (fIf (asBool (f2 (fA9 S_law_next (lC9 (gv9 1) (lC9 (fK9 (.int 4)) l09))) (fK9 (.int 0)) (pureOp (cmpMV .Gt)))) (fA9 S_law_cell (lC9 (gv9 1) (lC9 (fLst l09) l09))) (fA9 (clsSpec 1) (lC9 (fK9 (.str "int")) (lC9 (f2 (fK9 (.int 6)) (fA9 S_law_next (lC9 (gv9 1) (lC9 (fK9 (.int 2)) l09))) (pureOp (binMV .Add))) l09))))) (sSeq (sSet 6 (fA9 S_law_outer (lC9 (gv9 1) (lC9 (gv9 5) (lC9 (gv9 3) l09))))) (sSeq (sSet 7 (fA9 S_known_case (lC9 (gv9 6) (lC9 (gv9 4) l09)))) (sSeq (sRet (fAnd (f1 (fA9 S_law_within_lets (lC9 (gv9 7) l09)) (opIsi 7)) (fA9 S_law_alike (lC9 (gv9 1) (lC9 (gv9 6) (lC9 (gv9 7) l09)))))) sNil)))) sNil) (sSeq (sIf (asBool (f2 (gv9 2) (fK9 (.int 1)) (pureOp (cmpMV .Eq)))) (sSeq (sSet 8 (fLst (lC9 (fTup (lC9 (fK9 (.str "p")) (lC9 (fA9 S_law_atom (lC9 (gv9 1) (lC9 (fLst (lC9 (fK9 (.str "a")) l09)) l09))) l09))) (lC9 (fTup (lC9 (fK9 (.str "r")) (lC9 (fA9 S_law_cell (lC9 (gv9 1) (lC9 (fLst (lC9 (fK9 (.str "b")) l09)) l09))) l09))) l09)))) (sSeq (sSet 6 (fA9 S_law_outer (lC9 (gv9 1) (lC9 (fA9 (clsSpec 4) (lC9 (gv9 8) (lC9 (fA9 S_law_cell (lC9 (gv9 1) (lC9 (fLst (lC9 (fK9 (.str "r")) (lC9 (fK9 (.str "p")) l09))) l09))) (lC9 (fK9 (.bool false)) l09)))) (lC9 (gv9 3) l09))))) (sSeq (sSet 7 (fA9 S_case_of_let (lC9 (gv9 6) (lC9 (gv9 4) l09)))) (sSeq (sRet (fAnd (f1 (gv9 7) (opIsi 4)) (fAnd (f1 (f1 (gv9 7) (fAttr "body")) (opIsi 6)) (fA9 S_law_alike (lC9 (gv9 1) (lC9 (gv9 6) (lC9 (gv9 7) l09))))))) sNil)))) sNil) (sSeq (sSet 6 (fA9 S_law_outer (lC9 (gv9 1) (lC9 (fA9 S_law_inner (lC9 (gv9 1) l09)) (lC9 (gv9 3) l09))))) (sSeq (sSet 9 (f2 (fLst (lC9 (fK9 (.int 0)) (lC9 (fK9 (.int 9)) (lC9 (fK9 (.int 90)) l09)))) (fA9 S_law_next (lC9 (gv9 1) (lC9 (fK9 (.int 3)) l09))) fIdx)) (sSeq (sSet 7 (fA9 S_case_of_case (lC9 (gv9 6) (lC9 (gv9 4) (lC9 (gv9 9) l09))))) (sSeq (sSet 10 (fA9 S_law_within_lets (lC9 (gv9 7) l09))) (sSeq (sIf (asBool (f2 (f1 (gv9 7) (opIsi 4)) (f2 (f2 (fK9 (.int 2)) (f2 (fK9 (.int 4)) (f2 (fA9 opLen (lC9 (f1 (gv9 6) (fAttr "alts")) l09)) (fK9 (.int 1)) (pureOp (binMV .Add))) (pureOp (binMV .Mult))) (pureOp (binMV .Add))) (gv9 9) (pureOp (cmpMV .Gt))) (pureOp (cmpMV .NotEq)))) (sSeq (sRet (fK9 (.bool false))) sNil) sNil) (sSeq (sIf (tOr (tNot (asBool (f1 (gv9 10) (opIsi 6)))) (tOr (tNot (asBool (f1 (f1 (gv9 10) (fAttr "value")) (opIsi 0)))) (tOr (asBool (f2 (f1 (f1 (gv9 10) (fAttr "value")) (fAttr "name")) (fLst (lC9 (fK9 (.str "a")) (lC9 (fK9 (.str "b")) l09))) (pureOp (cmpMV .NotIn)))) (tLit false)))) (sSeq (sRet (fK9 (.bool false))) sNil) sNil) (sSeq (sRet (fAnd (fA9 S_law_alike (lC9 (gv9 1) (lC9 (gv9 6) (lC9 (gv9 7) l09)))) (fSame 10 4))) sNil))))))))))
set_option maxHeartbeats 4000000 in
set_option maxRecDepth 100000 in
theorem b_law (O : Ok C) (X : Fx C) : SSs C ⟨fScope (stAt 40), [("script" : Str)] ++ [("pen" : Str), ("form" : Str), ("few" : Str), ("fresh" : Str), ("value" : Str), ("expr" : Str), ("told" : Str), ("binds" : Str), ("most" : Str), ("inside" : Str)], true, .none⟩ 41 (fBody (stAt 40)).tail F_law :=
  (sq9 (ss_unpR (xs := [("form" : Str), ("few" : Str), ("fresh" : Str)]) (se_tup (sk9 (se_idx (se_lst (sk9 (sc9 rfl) (sk9 (sc9 rfl) (sk9 (sc9 rfl) (sk9 (sc9 rfl) (sk9 (sc9 rfl) sz9 (fun _ => rfl)) (fun _ => rfl)) (fun _ => rfl)) (fun _ => rfl)) (fun _ => rfl))) (sa9 O ⟨X.mg_law_next, rfl, rfl⟩ X.kp_law_next (SC.le (sc_law_next O X) (by decide)) (sk9 (sn9 rfl (.inl rfl) rfl rfl) (sk9 (sc9 rfl) sz9 (fun _ => rfl)) (fun _ => rfl)) (fun _ => rfl)) (fun _ _ => rfl)) (sk9 (se_bin (sc9 rfl) (sa9 O ⟨X.mg_law_next, rfl, rfl⟩ X.kp_law_next (SC.le (sc_law_next O X) (by decide)) (sk9 (sn9 rfl (.inl rfl) rfl rfl) (sk9 (sc9 rfl) sz9 (fun _ => rfl)) (fun _ => rfl)) (fun _ => rfl))) (sk9 (sa9 O ⟨X.mg_Fresh, rfl, rfl⟩ X.kp_Fresh (SC.le (sc_Fresh O X) (by decide)) (sk9 (se_lst (sk9 (sc9 rfl) (sk9 (sc9 rfl) (sk9 (sc9 rfl) (sk9 (sc9 rfl) (sk9 (sc9 rfl) (sk9 (sc9 rfl) (sk9 (sc9 rfl) sz9 (fun _ => rfl)) (fun _ => rfl)) (fun _ => rfl)) (fun _ => rfl)) (fun _ => rfl)) (fun _ => rfl)) (fun _ => rfl))) sz9 (fun _ => rfl)) (fun _ => rfl)) sz9 (fun _ => rfl)) (fun _ => rfl)) (fun _ => rfl))) (.cons rfl rfl (.cons rfl rfl (.cons rfl rfl .nil))) rfl (fun _ => rfl) (fun env h => by cases env; cases h; rfl)) (sq9 (ss_if (st_cmp O (sn9 rfl (.inl rfl) rfl rfl) (sc9 rfl) rfl) (sq9 (ss_set (se_if (st_cmp O (sa9 O ⟨X.mg_law_next, rfl, rfl⟩ X.kp_law_next (SC.le (sc_law_next O X) (by decide)) (sk9 (sn9 rfl (.inl rfl) rfl rfl) (sk9 (sc9 rfl) sz9 (fun _ => rfl)) (fun _ => rfl)) (fun _ => rfl)) (sc9 rfl) rfl) (sa9 O ⟨X.mg_law_cell, rfl, rfl⟩ X.kp_law_cell (SC.le (sc_law_cell O X) (by decide)) (sk9 (sn9 rfl (.inl rfl) rfl rfl) (sk9 (se_lst sz9) sz9 (fun _ => rfl)) (fun _ => rfl)) (fun _ => rfl)) (sa9 O ⟨X.mg_Lit, rfl, rfl⟩ X.kp_Lit (SC.le (sc_class O X.cls_Lit (d := 0)) (by decide)) (sk9 (sc9 rfl) (sk9 (se_bin (sc9 rfl) (sa9 O ⟨X.mg_law_next, rfl, rfl⟩ X.kp_law_next (SC.le (sc_law_next O X) (by decide)) (sk9 (sn9 rfl (.inl rfl) rfl rfl) (sk9 (sc9 rfl) sz9 (fun _ => rfl)) (fun _ => rfl)) (fun _ => rfl))) sz9 (fun _ => rfl)) (fun _ => rfl)) (fun _ => rfl))) ⟨rfl, (.inl rfl)⟩ (fun _ => rfl)) (sq9 (ss_set (sa9 O ⟨X.mg_law_outer, rfl, rfl⟩ X.kp_law_outer (SC.le (sc_law_outer O X) (by decide)) (sk9 (sn9 rfl (.inl rfl) rfl rfl) (sk9 (sn9 rfl (.inl rfl) rfl rfl) (sk9 (sn9 rfl (.inl rfl) rfl rfl) sz9 (fun _ => rfl)) (fun _ => rfl)) (fun _ => rfl)) (fun _ => rfl)) ⟨rfl, (.inl rfl)⟩ (fun _ => rfl)) (sq9 (ss_set (sa9 O ⟨X.mg_known_case, rfl, rfl⟩ X.kp_known_case (SC.le (sc_known_case O X) (by decide)) (sk9 (sn9 rfl (.inl rfl) rfl rfl) (sk9 (sn9 rfl (.inl rfl) rfl rfl) sz9 (fun _ => rfl)) (fun _ => rfl)) (fun _ => rfl)) ⟨rfl, (.inl rfl)⟩ (fun _ => rfl)) (sq9 (ss_ret (se_and (se_isi O ⟨X.no_isinstance, X.b_isinstance, rfl, rfl⟩ (by decide) ⟨X.mg_Con, rfl, rfl⟩ (sa9 O ⟨X.mg_law_within_lets, rfl, rfl⟩ X.kp_law_within_lets (SC.le (sc_law_within_lets O X) (by decide)) (sk9 (sn9 rfl (.inl rfl) rfl rfl) sz9 (fun _ => rfl)) (fun _ => rfl)) (fun _ => rfl)) (sa9 O ⟨X.mg_law_alike, rfl, rfl⟩ X.kp_law_alike (SC.le (sc_law_alike O X) (by decide)) (sk9 (sn9 rfl (.inl rfl) rfl rfl) (sk9 (sn9 rfl (.inl rfl) rfl rfl) (sk9 (sn9 rfl (.inl rfl) rfl rfl) sz9 (fun _ => rfl)) (fun _ => rfl)) (fun _ => rfl)) (fun _ => rfl)))) ss_nil)))) ss_nil) (sq9 (ss_if (st_cmp O (sn9 rfl (.inl rfl) rfl rfl) (sc9 rfl) rfl) (sq9 (ss_set (se_lst (sk9 (se_tup (sk9 (sc9 rfl) (sk9 (sa9 O ⟨X.mg_law_atom, rfl, rfl⟩ X.kp_law_atom (SC.le (sc_law_atom O X) (by decide)) (sk9 (sn9 rfl (.inl rfl) rfl rfl) (sk9 (se_lst (sk9 (sc9 rfl) sz9 (fun _ => rfl))) sz9 (fun _ => rfl)) (fun _ => rfl)) (fun _ => rfl)) sz9 (fun _ => rfl)) (fun _ => rfl))) (sk9 (se_tup (sk9 (sc9 rfl) (sk9 (sa9 O ⟨X.mg_law_cell, rfl, rfl⟩ X.kp_law_cell (SC.le (sc_law_cell O X) (by decide)) (sk9 (sn9 rfl (.inl rfl) rfl rfl) (sk9 (se_lst (sk9 (sc9 rfl) sz9 (fun _ => rfl))) sz9 (fun _ => rfl)) (fun _ => rfl)) (fun _ => rfl)) sz9 (fun _ => rfl)) (fun _ => rfl))) sz9 (fun _ => rfl)) (fun _ => rfl))) ⟨rfl, (.inl rfl)⟩ (fun _ => rfl)) (sq9 (ss_set (sa9 O ⟨X.mg_law_outer, rfl, rfl⟩ X.kp_law_outer (SC.le (sc_law_outer O X) (by decide)) (sk9 (sn9 rfl (.inl rfl) rfl rfl) (sk9 (sa9 O ⟨X.mg_Let, rfl, rfl⟩ X.kp_Let (SC.le (sc_class O X.cls_Let (d := 0)) (by decide)) (sk9 (sn9 rfl (.inl rfl) rfl rfl) (sk9 (sa9 O ⟨X.mg_law_cell, rfl, rfl⟩ X.kp_law_cell (SC.le (sc_law_cell O X) (by decide)) (sk9 (sn9 rfl (.inl rfl) rfl rfl) (sk9 (se_lst (sk9 (sc9 rfl) (sk9 (sc9 rfl) sz9 (fun _ => rfl)) (fun _ => rfl))) sz9 (fun _ => rfl)) (fun _ => rfl)) (fun _ => rfl)) (sk9 (sc9 rfl) sz9 (fun _ => rfl)) (fun _ => rfl)) (fun _ => rfl)) (fun _ => rfl)) (sk9 (sn9 rfl (.inl rfl) rfl rfl) sz9 (fun _ => rfl)) (fun _ => rfl)) (fun _ => rfl)) (fun _ => rfl)) ⟨rfl, (.inl rfl)⟩ (fun _ => rfl)) (sq9 (ss_set (sa9 O ⟨X.mg_case_of_let, rfl, rfl⟩ X.kp_case_of_let (SC.le (sc_case_of_let O X) (by decide)) (sk9 (sn9 rfl (.inl rfl) rfl rfl) (sk9 (sn9 rfl (.inl rfl) rfl rfl) sz9 (fun _ => rfl)) (fun _ => rfl)) (fun _ => rfl)) ⟨rfl, (.inl rfl)⟩ (fun _ => rfl)) (sq9 (ss_ret (se_and3 (se_isi O ⟨X.no_isinstance, X.b_isinstance, rfl, rfl⟩ (by decide) ⟨X.mg_Let, rfl, rfl⟩ (sn9 rfl (.inl rfl) rfl rfl) (fun _ => rfl)) (se_isi O ⟨X.no_isinstance, X.b_isinstance, rfl, rfl⟩ (by decide) ⟨X.mg_Case, rfl, rfl⟩ (se_attr O (sn9 rfl (.inl rfl) rfl rfl) (fun _ => rfl)) (fun _ => rfl)) (sa9 O ⟨X.mg_law_alike, rfl, rfl⟩ X.kp_law_alike (SC.le (sc_law_alike O X) (by decide)) (sk9 (sn9 rfl (.inl rfl) rfl rfl) (sk9 (sn9 rfl (.inl rfl) rfl rfl) (sk9 (sn9 rfl (.inl rfl) rfl rfl) sz9 (fun _ => rfl)) (fun _ => rfl)) (fun _ => rfl)) (fun _ => rfl)))) ss_nil)))) ss_nil) (sq9 (ss_set (sa9 O ⟨X.mg_law_outer, rfl, rfl⟩ X.kp_law_outer (SC.le (sc_law_outer O X) (by decide)) (sk9 (sn9 rfl (.inl rfl) rfl rfl) (sk9 (sa9 O ⟨X.mg_law_inner, rfl, rfl⟩ X.kp_law_inner (SC.le (sc_law_inner O X) (by decide)) (sk9 (sn9 rfl (.inl rfl) rfl rfl) sz9 (fun _ => rfl)) (fun _ => rfl)) (sk9 (sn9 rfl (.inl rfl) rfl rfl) sz9 (fun _ => rfl)) (fun _ => rfl)) (fun _ => rfl)) (fun _ => rfl)) ⟨rfl, (.inl rfl)⟩ (fun _ => rfl)) (sq9 (ss_set (se_idx (se_lst (sk9 (sc9 rfl) (sk9 (sc9 rfl) (sk9 (sc9 rfl) sz9 (fun _ => rfl)) (fun _ => rfl)) (fun _ => rfl))) (sa9 O ⟨X.mg_law_next, rfl, rfl⟩ X.kp_law_next (SC.le (sc_law_next O X) (by decide)) (sk9 (sn9 rfl (.inl rfl) rfl rfl) (sk9 (sc9 rfl) sz9 (fun _ => rfl)) (fun _ => rfl)) (fun _ => rfl)) (fun _ _ => rfl)) ⟨rfl, (.inl rfl)⟩ (fun _ => rfl)) (sq9 (ss_set (sa9 O ⟨X.mg_case_of_case, rfl, rfl⟩ X.kp_case_of_case (SC.le (sc_case_of_case O X) (by decide)) (sk9 (sn9 rfl (.inl rfl) rfl rfl) (sk9 (sn9 rfl (.inl rfl) rfl rfl) (sk9 (sn9 rfl (.inl rfl) rfl rfl) sz9 (fun _ => rfl)) (fun _ => rfl)) (fun _ => rfl)) (fun _ => rfl)) ⟨rfl, (.inl rfl)⟩ (fun _ => rfl)) (sq9 (ss_set (sa9 O ⟨X.mg_law_within_lets, rfl, rfl⟩ X.kp_law_within_lets (SC.le (sc_law_within_lets O X) (by decide)) (sk9 (sn9 rfl (.inl rfl) rfl rfl) sz9 (fun _ => rfl)) (fun _ => rfl)) ⟨rfl, (.inl rfl)⟩ (fun _ => rfl)) (sq9 (ss_if (st_cmp O (se_isi O ⟨X.no_isinstance, X.b_isinstance, rfl, rfl⟩ (by decide) ⟨X.mg_Let, rfl, rfl⟩ (sn9 rfl (.inl rfl) rfl rfl) (fun _ => rfl)) (se_cmp O (se_bin (sc9 rfl) (se_bin (sc9 rfl) (se_bin (se_callV O ⟨X.no_len, X.b_len, rfl, rfl⟩ (callee_b "len") op_len (sk9 (se_attr O (sn9 rfl (.inl rfl) rfl rfl) (fun _ => rfl)) sz9 (fun _ => rfl)) (fun _ => rfl)) (sc9 rfl)))) (sn9 rfl (.inl rfl) rfl rfl) rfl) rfl) (sq9 (ss_ret (sc9 rfl)) ss_nil) ss_nil) (sq9 (ss_if (st_bool (sa_or (st_not (st_val (se_isi O ⟨X.no_isinstance, X.b_isinstance, rfl, rfl⟩ (by decide) ⟨X.mg_Case, rfl, rfl⟩ (sn9 rfl (.inl rfl) rfl rfl) (fun _ => rfl)) (fun _ _ => rfl))) (sa_or (st_not (st_val (se_isi O ⟨X.no_isinstance, X.b_isinstance, rfl, rfl⟩ (by decide) ⟨X.mg_Var, rfl, rfl⟩ (se_attr O (sn9 rfl (.inl rfl) rfl rfl) (fun _ => rfl)) (fun _ => rfl)) (fun _ _ => rfl))) (sa_or (st_cmp O (se_attr O (se_attr O (sn9 rfl (.inl rfl) rfl rfl) (fun _ => rfl)) (fun _ => rfl)) (se_lst (sk9 (sc9 rfl) (sk9 (sc9 rfl) sz9 (fun _ => rfl)) (fun _ => rfl))) rfl) sa_nil_or)))) (sq9 (ss_ret (sc9 rfl)) ss_nil) ss_nil) (sq9 (ss_ret (se_and (sa9 O ⟨X.mg_law_alike, rfl, rfl⟩ X.kp_law_alike (SC.le (sc_law_alike O X) (by decide)) (sk9 (sn9 rfl (.inl rfl) rfl rfl) (sk9 (sn9 rfl (.inl rfl) rfl rfl) (sk9 (sn9 rfl (.inl rfl) rfl rfl) sz9 (fun _ => rfl)) (fun _ => rfl)) (fun _ => rfl)) (fun _ => rfl)) (se_same O X ⟨rfl, .inl rfl, rfl, rfl⟩ ⟨rfl, .inl rfl, rfl, rfl⟩ rfl (by decide) (fun _ => rfl)))) ss_nil))))))))))
end
end Mine
end

section
namespace Mine
open PySem PySem.Calls PyProof.Rows PySem.W
noncomputable def cAd : Nat → Addr
  | 0 => A_cls_Var | 1 => A_cls_Lit | 2 => A_cls_App | 3 => A_cls_Lam | 4 => A_cls_Let | 5 => A_cls_Alt | 6 => A_cls_Case | 7 => A_cls_Con | 8 => A_cls_Renamer | _ => A_cls_Fresh
noncomputable def cloOf : Nat → Obj → List (Str × Addr) → Addr → Obj → Prop
  | 0 => IsCloOf D0
  | 1 => IsCloOf D1
  | _ => fun _ _ _ _ => False
noncomputable def mkC (prog : Program) (w : World) (h₀ : Heap) (K : Frag) (mg mb : Str → Option Value) : Ctx :=
  { prog, w, h₀, K, mg, mb, cAd, isClo := cloOf, tabs := [(Tb_joined, 0), (Tb_case_of_case, 1)] }
noncomputable def fnV (o : Obj) : Option (FuncBody × Scope × Arguments) := match o.data with
  | .func fd => if fd.closure.isEmpty && fd.globals == mainGlobals && fd.builtins == builtinsNs && fd.defaults == .none && fd.kwdefaults == .none then some (fd.body, fd.scope, fd.params) else none
  | _ => none
noncomputable def codeOkAt (K : Frag) (a : Addr) : Bool := match K.lookup a with
  | some o => (match o.data with | .func fd => codeIn K fd.code fd.qualname | _ => false)
  | none => false
noncomputable def codeAtK (K : Frag) (a : Addr) : Option Value := match K.lookup a with
  | some o => (match o.data with | .func fd => some fd.code | _ => none)
  | none => none
section
variable {C : Ctx}
theorem fnV_of {K : Frag} {h : Heap} (X : K.In h) {a : Addr} {b : FuncBody} {scope : Scope} {prm : Arguments} (hv : (K.lookup a).bind fnV = some (b, scope, prm)) (hc : codeOkAt K a = true) :
    ∃ o fd, K.lookup a = some o ∧ h.get? a = some o ∧ o.data = .func fd ∧ fd.body = b ∧ fd.closure = [] ∧ fd.scope = scope ∧ fd.globals = mainGlobals ∧ fd.builtins = builtinsNs ∧ fd.defaults = .none ∧ fd.kwdefaults = .none ∧ fd.params = prm ∧ h.CodeRec fd.code fd.qualname := by
  cases e : K.lookup a with
  | none => rw [e] at hv; exact ns9 hv
  | some o =>
    rw [e] at hv
    have hv' : fnV o = some (b, scope, prm) := hv
    unfold fnV at hv'
    split at hv'
    case h_2 => exact ns9 hv'
    rename_i fd hd
    split at hv'
    case isFalse => exact ns9 hv'
    rename_i q
    cases hv'
    simp only [Bool.and_eq_true, List.isEmpty_iff, beq_iff_eq] at q
    refine ⟨o, fd, rfl, X _ _ e, hd, rfl, q.1.1.1.1, rfl, q.1.1.1.2, q.1.1.2, q.1.2, q.2, rfl, ?_⟩
    unfold codeOkAt at hc
    rw [e] at hc
    dsimp only at hc
    rw [hd] at hc
    exact codeRec_of X hc
noncomputable def Bt (prm : Arguments) (ps : List Str) : Prop := ∀ fd : FuncData, fd.params = prm → fd.defaults = .none → fd.kwdefaults = .none → ∀ (s : Shared) (vs : List Value), vs.length = ps.length → BindsTo s fd ⟨vs, []⟩ (ps.zip vs)
theorem fnAt_of (X : C.K.In C.h₀) {a : Addr} {ps : List Str} {body : List Stmt} {scope : Scope} {prm : Arguments} (hv : (C.K.lookup a).bind fnV = some (.stmts body, scope, prm)) (hc : codeOkAt C.K a = true)
    (hb : Bt prm ps) : FnAt C a ps body scope := by
  obtain ⟨o, fd, _, h1, h2, h3, h4, h5, h6, h7, h8, h9, h10, h11⟩ := fnV_of X hv hc
  exact ⟨o, fd, h1, h2, h3, h4, h5, h6, h7, h11, .inl rfl, fun s vs _ hl => hb fd h10 h8 h9 s vs hl⟩
theorem fnAt_ofC (X : C.K.In C.h₀) {a : Addr} {ps : List Str} {body : List Stmt} {scope : Scope} {prm : Arguments} {cd : Value} (hv : (C.K.lookup a).bind fnV = some (.stmts body, scope, prm)) (hc : codeOkAt C.K a = true) (hcd : codeAtK C.K a = some cd)
    (hb : Bt prm ps) : FnAt C a ps body scope cd := by
  obtain ⟨o, fd, h0, h1, h2, h3, h4, h5, h6, h7, h8, h9, h10, h11⟩ := fnV_of X hv hc
  refine ⟨o, fd, h1, h2, h3, h4, h5, h6, h7, h11, .inr ?_, fun s vs _ hl => hb fd h10 h8 h9 s vs hl⟩
  unfold codeAtK at hcd
  rw [h0] at hcd
  dsimp only at hcd
  rw [h2] at hcd
  exact Option.some.inj hcd
theorem all_of {l : List Str} {p : Str → Option (Option Value)} (h : l.all (fun x => match p x with | some none => true | _ => false) = true) : ∀ x ∈ l, p x = some none := fun x hx => by
  have := List.all_eq_true.mp h x hx
  split at this
  · assumption
  · cases this
theorem isFn_of : ∀ (k : Nat) (o : Obj) (cl : List (Str × Addr)) (c : Addr) (oc : Obj), cloOf k o cl c oc → ∃ fd, o.data = .func fd
  | 0, _, _, _, _, ⟨fd, h, _⟩ => ⟨fd, h⟩
  | 1, _, _, _, _, ⟨fd, h, _⟩ => ⟨fd, h⟩
  | _ + 2, _, _, _, _, h => h.elim
end
theorem len1 {vs : List Value} (h : vs.length = 1) : ∃ a, vs = [a] := List.length_eq_one_iff.mp h
theorem len2 {vs : List Value} (h : vs.length = 2) : ∃ a b, vs = [a, b] := by
  obtain ⟨a, l, rfl⟩ := List.exists_cons_of_length_eq_add_one h
  obtain ⟨b, e⟩ := len1 (Nat.succ.inj h)
  exact ⟨a, b, by rw [e]⟩
theorem len3 {vs : List Value} (h : vs.length = 3) : ∃ a b c, vs = [a, b, c] := by
  obtain ⟨a, l, rfl⟩ := List.exists_cons_of_length_eq_add_one h
  obtain ⟨b, c, e⟩ := len2 (Nat.succ.inj h)
  exact ⟨a, b, c, by rw [e]⟩
theorem len4 {vs : List Value} (h : vs.length = 4) : ∃ a b c d, vs = [a, b, c, d] := by
  obtain ⟨a, l, rfl⟩ := List.exists_cons_of_length_eq_add_one h
  obtain ⟨b, c, d, e⟩ := len3 (Nat.succ.inj h)
  exact ⟨a, b, c, d, by rw [e]⟩
theorem len5 {vs : List Value} (h : vs.length = 5) : ∃ a b c d f, vs = [a, b, c, d, f] := by
  obtain ⟨a, l, rfl⟩ := List.exists_cons_of_length_eq_add_one h
  obtain ⟨b, c, d, f, e⟩ := len4 (Nat.succ.inj h)
  exact ⟨a, b, c, d, f, by rw [e]⟩
theorem bt_core {fd : FuncData} {prm : Arguments} {vs : List Value} {bs : List (Str × Value)} (h1 : fd.params = prm) (h2 : fd.defaults = .none) (h3 : fd.kwdefaults = .none)
    (h : ∀ a b c d e f g i j k l m, bindArgs ⟨a, b, prm, c, d, e, f, .none, .none, g, i, j, k, l, m⟩ ⟨vs, []⟩ = pure bs) (s : Shared) : BindsTo s fd ⟨vs, []⟩ bs := by
  cases fd
  cases h1; cases h2; cases h3
  exact BindsTo.of_eq (h ..)
theorem bt1 {prm : Arguments} {p0 : Str} (h : ∀ v0 a b c d e f g i j k l m, bindArgs ⟨a, b, prm, c, d, e, f, .none, .none, g, i, j, k, l, m⟩ ⟨[v0], []⟩ = pure [(p0, v0)]) : Bt prm [p0] := fun fd h1 h2 h3 s vs hl => by
  obtain ⟨v0, rfl⟩ := len1 hl
  exact bt_core h1 h2 h3 (h v0) s
theorem bt2 {prm : Arguments} {p0 p1 : Str} (h : ∀ v0 v1 a b c d e f g i j k l m, bindArgs ⟨a, b, prm, c, d, e, f, .none, .none, g, i, j, k, l, m⟩ ⟨[v0, v1], []⟩ = pure [(p0, v0), (p1, v1)]) : Bt prm [p0, p1] := fun fd h1 h2 h3 s vs hl => by
  obtain ⟨v0, v1, rfl⟩ := len2 hl
  exact bt_core h1 h2 h3 (h v0 v1) s
theorem bt3 {prm : Arguments} {p0 p1 p2 : Str} (h : ∀ v0 v1 v2 a b c d e f g i j k l m, bindArgs ⟨a, b, prm, c, d, e, f, .none, .none, g, i, j, k, l, m⟩ ⟨[v0, v1, v2], []⟩ = pure [(p0, v0), (p1, v1), (p2, v2)]) : Bt prm [p0, p1, p2] := fun fd h1 h2 h3 s vs hl => by
  obtain ⟨v0, v1, v2, rfl⟩ := len3 hl
  exact bt_core h1 h2 h3 (h v0 v1 v2) s
theorem bt4 {prm : Arguments} {p0 p1 p2 p3 : Str} (h : ∀ v0 v1 v2 v3 a b c d e f g i j k l m, bindArgs ⟨a, b, prm, c, d, e, f, .none, .none, g, i, j, k, l, m⟩ ⟨[v0, v1, v2, v3], []⟩ = pure [(p0, v0), (p1, v1), (p2, v2), (p3, v3)]) : Bt prm [p0, p1, p2, p3] := fun fd h1 h2 h3 s vs hl => by
  obtain ⟨v0, v1, v2, v3, rfl⟩ := len4 hl
  exact bt_core h1 h2 h3 (h v0 v1 v2 v3) s
theorem bt5 {prm : Arguments} {p0 p1 p2 p3 p4 : Str} (h : ∀ v0 v1 v2 v3 v4 a b c d e f g i j k l m, bindArgs ⟨a, b, prm, c, d, e, f, .none, .none, g, i, j, k, l, m⟩ ⟨[v0, v1, v2, v3, v4], []⟩ = pure [(p0, v0), (p1, v1), (p2, v2), (p3, v3), (p4, v4)]) : Bt prm [p0, p1, p2, p3, p4] := fun fd h1 h2 h3 s vs hl => by
  obtain ⟨v0, v1, v2, v3, v4, rfl⟩ := len5 hl
  exact bt_core h1 h2 h3 (h v0 v1 v2 v3 v4) s
theorem bt_Var_init : Bt (fParams (within (stAt 1) 0)) [("self" : Str), ("name" : Str)] := bt2 fun _ _ _ _ _ _ _ _ _ _ _ _ _ _ => rfl
theorem bt_Var_groups : Bt (fParams (within (stAt 1) 1)) [("self" : Str)] := bt1 fun _ _ _ _ _ _ _ _ _ _ _ _ _ => rfl
theorem bt_Var_parts : Bt (fParams (within (stAt 1) 2)) [("self" : Str)] := bt1 fun _ _ _ _ _ _ _ _ _ _ _ _ _ => rfl
theorem bt_Lit_init : Bt (fParams (within (stAt 2) 0)) [("self" : Str), ("kind" : Str), ("value" : Str)] := bt3 fun _ _ _ _ _ _ _ _ _ _ _ _ _ _ _ => rfl
theorem bt_Lit_groups : Bt (fParams (within (stAt 2) 1)) [("self" : Str)] := bt1 fun _ _ _ _ _ _ _ _ _ _ _ _ _ => rfl
theorem bt_Lit_parts : Bt (fParams (within (stAt 2) 2)) [("self" : Str)] := bt1 fun _ _ _ _ _ _ _ _ _ _ _ _ _ => rfl
theorem bt_App_init : Bt (fParams (within (stAt 3) 0)) [("self" : Str), ("fun" : Str), ("args" : Str)] := bt3 fun _ _ _ _ _ _ _ _ _ _ _ _ _ _ _ => rfl
theorem bt_Lam_init : Bt (fParams (within (stAt 4) 0)) [("self" : Str), ("params" : Str), ("body" : Str)] := bt3 fun _ _ _ _ _ _ _ _ _ _ _ _ _ _ _ => rfl
theorem bt_Let_init : Bt (fParams (within (stAt 5) 0)) [("self" : Str), ("binds" : Str), ("body" : Str), ("is_rec" : Str)] := bt4 fun _ _ _ _ _ _ _ _ _ _ _ _ _ _ _ _ => rfl
theorem bt_Let_groups : Bt (fParams (within (stAt 5) 1)) [("self" : Str)] := bt1 fun _ _ _ _ _ _ _ _ _ _ _ _ _ => rfl
theorem bt_Let_parts : Bt (fParams (within (stAt 5) 2)) [("self" : Str)] := bt1 fun _ _ _ _ _ _ _ _ _ _ _ _ _ => rfl
theorem bt_Let_rebuilt : Bt (fParams (within (stAt 5) 3)) [("self" : Str), ("groups" : Str), ("parts" : Str)] := bt3 fun _ _ _ _ _ _ _ _ _ _ _ _ _ _ _ => rfl
theorem bt_Alt_init : Bt (fParams (within (stAt 6) 0)) [("self" : Str), ("key" : Str), ("names" : Str), ("body" : Str)] := bt4 fun _ _ _ _ _ _ _ _ _ _ _ _ _ _ _ _ => rfl
theorem bt_Case_init : Bt (fParams (within (stAt 7) 0)) [("self" : Str), ("value" : Str), ("name" : Str), ("alts" : Str), ("other" : Str)] := bt5 fun _ _ _ _ _ _ _ _ _ _ _ _ _ _ _ _ _ => rfl
theorem bt_Case_groups : Bt (fParams (within (stAt 7) 1)) [("self" : Str)] := bt1 fun _ _ _ _ _ _ _ _ _ _ _ _ _ => rfl
theorem bt_Case_parts : Bt (fParams (within (stAt 7) 2)) [("self" : Str)] := bt1 fun _ _ _ _ _ _ _ _ _ _ _ _ _ => rfl
theorem bt_Case_rebuilt : Bt (fParams (within (stAt 7) 3)) [("self" : Str), ("groups" : Str), ("parts" : Str)] := bt3 fun _ _ _ _ _ _ _ _ _ _ _ _ _ _ _ => rfl
theorem bt_Con_init : Bt (fParams (within (stAt 8) 0)) [("self" : Str), ("name" : Str), ("args" : Str)] := bt3 fun _ _ _ _ _ _ _ _ _ _ _ _ _ _ _ => rfl
theorem bt_Con_groups : Bt (fParams (within (stAt 8) 1)) [("self" : Str)] := bt1 fun _ _ _ _ _ _ _ _ _ _ _ _ _ => rfl
theorem bt_Con_parts : Bt (fParams (within (stAt 8) 2)) [("self" : Str)] := bt1 fun _ _ _ _ _ _ _ _ _ _ _ _ _ => rfl
theorem bt_Con_rebuilt : Bt (fParams (within (stAt 8) 3)) [("self" : Str), ("groups" : Str), ("parts" : Str)] := bt3 fun _ _ _ _ _ _ _ _ _ _ _ _ _ _ _ => rfl
theorem bt_Renamer_init : Bt (fParams (within (stAt 10) 0)) [("self" : Str), ("fresh" : Str), ("instead" : Str)] := bt3 fun _ _ _ _ _ _ _ _ _ _ _ _ _ _ _ => rfl
theorem bt_Renamer_new_groups : Bt (fParams (within (stAt 10) 1)) [("self" : Str), ("groups" : Str)] := bt2 fun _ _ _ _ _ _ _ _ _ _ _ _ _ _ => rfl
theorem bt_Renamer_inner : Bt (fParams (within (stAt 10) 2)) [("self" : Str), ("names" : Str), ("scope" : Str), ("groups" : Str), ("news" : Str)] := bt5 fun _ _ _ _ _ _ _ _ _ _ _ _ _ _ _ _ _ => rfl
theorem bt_Renamer_leaf : Bt (fParams (within (stAt 10) 3)) [("self" : Str), ("node" : Str), ("names" : Str)] := bt3 fun _ _ _ _ _ _ _ _ _ _ _ _ _ _ _ => rfl
theorem bt_Renamer_run : Bt (fParams (within (stAt 10) 4)) [("self" : Str), ("expr" : Str)] := bt2 fun _ _ _ _ _ _ _ _ _ _ _ _ _ _ => rfl
theorem bt_renamed : Bt (fParams (stAt 11)) [("expr" : Str), ("fresh" : Str)] := bt2 fun _ _ _ _ _ _ _ _ _ _ _ _ _ _ => rfl
theorem bt_size_of : Bt (fParams (stAt 13)) [("expr" : Str), ("most" : Str)] := bt2 fun _ _ _ _ _ _ _ _ _ _ _ _ _ _ => rfl
theorem bt_fields_bound : Bt (fParams (stAt 15)) [("con" : Str), ("fresh" : Str)] := bt2 fun _ _ _ _ _ _ _ _ _ _ _ _ _ _ => rfl
theorem bt_with_lets : Bt (fParams (stAt 16)) [("rows" : Str), ("body" : Str)] := bt2 fun _ _ _ _ _ _ _ _ _ _ _ _ _ _ => rfl
theorem bt_way_of_con : Bt (fParams (stAt 17)) [("case" : Str), ("name" : Str)] := bt2 fun _ _ _ _ _ _ _ _ _ _ _ _ _ _ => rfl
theorem bt_known_con : Bt (fParams (stAt 18)) [("expr" : Str), ("fresh" : Str)] := bt2 fun _ _ _ _ _ _ _ _ _ _ _ _ _ _ => rfl
theorem bt_known_lit : Bt (fParams (stAt 19)) [("expr" : Str), ("fresh" : Str)] := bt2 fun _ _ _ _ _ _ _ _ _ _ _ _ _ _ => rfl
theorem bt_known_case : Bt (fParams (stAt 20)) [("expr" : Str), ("fresh" : Str)] := bt2 fun _ _ _ _ _ _ _ _ _ _ _ _ _ _ => rfl
theorem bt_case_of_let : Bt (fParams (stAt 21)) [("expr" : Str), ("fresh" : Str)] := bt2 fun _ _ _ _ _ _ _ _ _ _ _ _ _ _ => rfl
theorem bt_outer_case : Bt (fParams (stAt 22)) [("expr" : Str), ("value" : Str), ("fresh" : Str)] := bt3 fun _ _ _ _ _ _ _ _ _ _ _ _ _ _ _ => rfl
theorem bt_joined : Bt (fParams (stAt 23)) [("expr" : Str), ("fresh" : Str)] := bt2 fun _ _ _ _ _ _ _ _ _ _ _ _ _ _ => rfl
theorem bt_case_of_case : Bt (fParams (stAt 24)) [("expr" : Str), ("fresh" : Str), ("most" : Str)] := bt3 fun _ _ _ _ _ _ _ _ _ _ _ _ _ _ _ => rfl
theorem bt_base_of : Bt (fParams (stAt 26)) [("name" : Str)] := bt1 fun _ _ _ _ _ _ _ _ _ _ _ _ _ => rfl
theorem bt_Fresh_avoid : Bt (fParams (within (stAt 27) 1)) [("self" : Str), ("names" : Str)] := bt2 fun _ _ _ _ _ _ _ _ _ _ _ _ _ _ => rfl
theorem bt_Fresh_next : Bt (fParams (within (stAt 27) 2)) [("self" : Str), ("base" : Str)] := bt2 fun _ _ _ _ _ _ _ _ _ _ _ _ _ _ => rfl
theorem bt_law_next : Bt (fParams (stAt 29)) [("pen" : Str), ("many" : Str)] := bt2 fun _ _ _ _ _ _ _ _ _ _ _ _ _ _ => rfl
theorem bt_law_pen : Bt (fParams (stAt 30)) [("script" : Str)] := bt1 fun _ _ _ _ _ _ _ _ _ _ _ _ _ => rfl
theorem bt_law_atom : Bt (fParams (stAt 32)) [("pen" : Str), ("names" : Str)] := bt2 fun _ _ _ _ _ _ _ _ _ _ _ _ _ _ => rfl
theorem bt_law_cell : Bt (fParams (stAt 33)) [("pen" : Str), ("names" : Str)] := bt2 fun _ _ _ _ _ _ _ _ _ _ _ _ _ _ => rfl
theorem bt_law_end : Bt (fParams (stAt 34)) [("pen" : Str), ("names" : Str)] := bt2 fun _ _ _ _ _ _ _ _ _ _ _ _ _ _ => rfl
theorem bt_law_outer : Bt (fParams (stAt 35)) [("pen" : Str), ("value" : Str), ("few" : Str)] := bt3 fun _ _ _ _ _ _ _ _ _ _ _ _ _ _ _ => rfl
theorem bt_law_inner : Bt (fParams (stAt 36)) [("pen" : Str)] := bt1 fun _ _ _ _ _ _ _ _ _ _ _ _ _ => rfl
theorem bt_law_run : Bt (fParams (stAt 37)) [("expr" : Str), ("env" : Str)] := bt2 fun _ _ _ _ _ _ _ _ _ _ _ _ _ _ => rfl
theorem bt_law_within_lets : Bt (fParams (stAt 38)) [("expr" : Str)] := bt1 fun _ _ _ _ _ _ _ _ _ _ _ _ _ => rfl
theorem bt_law_alike : Bt (fParams (stAt 39)) [("pen" : Str), ("one" : Str), ("other" : Str)] := bt3 fun _ _ _ _ _ _ _ _ _ _ _ _ _ _ _ => rfl
end Mine
end

section
namespace Mine
open PySem PySem.Calls PyProof.Rows PySem.W
noncomputable def sizesObj (w : World) : Obj := { cls := .type "dict", data := .dict #[⟨hashStr w "A", .str "A" 874, .int 0 875⟩, ⟨hashStr w "B", .str "B" 876, .int 1 877⟩, ⟨hashStr w "C", .str "C" 878, .int 2 879⟩, ⟨hashStr w "D", .str "D" 880, .int 3 881⟩] 4 }
noncomputable def fnVd (o : Obj) : Option (FuncBody × Scope × Arguments × Value) := match o.data with
  | .func fd => if fd.closure.isEmpty && fd.globals == mainGlobals && fd.builtins == builtinsNs && fd.kwdefaults == .none then some (fd.body, fd.scope, fd.params, fd.defaults) else none
  | _ => none
noncomputable def oneIn (K : Frag) (a : Addr) : Bool := match K.lookup a with
  | some o => (match o.data with | .seq xs _ => xs.size == 1 | _ => false)
  | none => false
section
variable {C : Ctx}
theorem sizes_of (X : C.K.In C.h₀) (h : C.K.lookup A_law_sizes = some (sizesObj C.w)) : BaseD C A_law_sizes sizes := by
  refine ⟨sizesObj C.w, [("A", .int 0 875), ("B", .int 1 877), ("C", .int 2 879), ("D", .int 3 881)], X _ _ h, ⟨_, _, ⟨rfl, rfl, rfl⟩, rfl, ?_, ?_, by decide⟩, fun κ => ?_⟩
  · intro e he
    simp only [List.mem_toArray, List.mem_cons, List.not_mem_nil, or_false] at he
    rcases he with rfl | rfl | rfl | rfl
    · exact ⟨"A", strKind_is C.prog C.w _ _, rfl⟩
    · exact ⟨"B", strKind_is C.prog C.w _ _, rfl⟩
    · exact ⟨"C", strKind_is C.prog C.w _ _, rfl⟩
    · exact ⟨"D", strKind_is C.prog C.w _ _, rfl⟩
  · exact .cons (strKind_is C.prog C.w _ _) rfl (.cons (strKind_is C.prog C.w _ _) rfl (.cons (strKind_is C.prog C.w _ _) rfl (.cons (strKind_is C.prog C.w _ _) rfl .nil)))
  · exact .cons (.int _ _) (.cons (.int _ _) (.cons (.int _ _) (.cons (.int _ _) .nil)))
theorem bt_Fresh_init (fd : FuncData) (T : Addr) (o : Obj) (v : Value) (n : Nat) (h1 : fd.params = fParams (within (stAt 27) 0)) (h2 : fd.defaults = .ref T) (h3 : fd.kwdefaults = .none) (s : Shared) (ho : s.heap.get? T = some o) (hd : o.data = .seq #[v] n) (vs : List Value) (hl : vs.length = 2) :
    BindsTo s fd ⟨vs, []⟩ (([("self" : Str), ("avoided" : Str)] : List Str).zip vs) := by
  cases fd
  dsimp only at h1 h2 h3
  subst h1 h2 h3
  obtain ⟨a, b, rfl⟩ := len2 hl
  exact BindsTo.of_defaults rfl ho hd rfl rfl
theorem fnAt_ofD (X : C.K.In C.h₀) {a T : Addr} {body : List Stmt} {scope : Scope} (hv : (C.K.lookup a).bind fnVd = some (.stmts body, scope, fParams (within (stAt 27) 0), .ref T)) (hc : codeOkAt C.K a = true) (h1 : oneIn C.K T = true) : FnAt C a [("self" : Str), "avoided"] body scope := by
  cases e : C.K.lookup a with
  | none => rw [e] at hv; exact ns9 hv
  | some o =>
    rw [e] at hv
    have hv' : fnVd o = some (.stmts body, scope, fParams (within (stAt 27) 0), .ref T) := hv
    unfold fnVd at hv'
    split at hv'
    case h_2 => exact ns9 hv'
    rename_i fd hd
    split at hv'
    case isFalse => exact ns9 hv'
    rename_i q
    obtain ⟨e1, e2, e3, e4⟩ : fd.body = .stmts body ∧ fd.scope = scope ∧ fd.params = fParams (within (stAt 27) 0) ∧ fd.defaults = .ref T := by
      have := Option.some.inj hv'
      simp only [Prod.mk.injEq] at this
      exact this
    simp only [Bool.and_eq_true, List.isEmpty_iff, beq_iff_eq] at q
    unfold oneIn at h1
    cases eT : C.K.lookup T with
    | none => rw [eT] at h1; cases h1
    | some oT =>
      rw [eT] at h1
      dsimp only at h1
      split at h1
      case h_2 => cases h1
      rename_i xs n hxs
      obtain ⟨v, rfl⟩ : ∃ v, xs = #[v] := by
        have hz : xs.size = 1 := by simpa using h1
        obtain ⟨l⟩ := xs
        obtain ⟨v, e⟩ := len1 hz
        exact ⟨v, congrArg Array.mk e⟩
      refine ⟨o, fd, X _ _ e, hd, e1, q.1.1.1, e2, q.1.1.2, q.1.2, ?_, .inl rfl, fun s vs hk hl => bt_Fresh_init fd T oT v n e3 e4 q.2 s (hk _ _ (X _ _ eT)) hxs vs hl⟩
      unfold codeOkAt at hc
      rw [e] at hc
      dsimp only at hc
      rw [hd] at hc
      exact codeRec_of X hc
end
end Mine
end

section
namespace Mine
open PySem PySem.Calls PyProof.Rows PySem.W
noncomputable def cellOf (ns : List Int) : Int := match ns with
  | [] => 0
  | n :: _ => n
section
variable {C : Ctx}
theorem pen_head : ∃ p1 p2 p3 p4 p5 p6 p7 p8 p9 p10 k1 k2 k3, fBody (stAt 30) = (Stmt.Assign [.Name "cell" p1] (.IfExp (.Compare (.Name "script" p2) [.Eq] [.List [] p3] p4) (.Constant (.int 0) k1 p5) (.Subscript (.Name "script" p6) (.Constant (.int 0) k2 p7) p8) p9) p10) :: (fBody (stAt 30)).tail ∧ k3 = 0 := ⟨_, _, _, _, _, _, _, _, _, _, _, _, 0, rfl, rfl⟩
theorem pen_call (O : Ok C) (X : Fx C) {A : Around} {κ : Gh} {G G' : Gst} {s : Shared} {a : Addr} {vs : List Value} {ns : List Int} {r : MV} {R : Result → Shared → Prop} (hR : Room A 1) (I : InvG C κ G s.heap) (hl : C.h₀.IsList a vs.toArray) (hI : IntsAre vs ns)
    (hq : finish (F_law_pen ([.un, .val (.int (cellOf ns)), .un], G)) = some (r, G'))
    (k : ∀ v h' t' κ', Le κ κ' → Kept κ κ' s.heap h' → VR C κ' v r → InvG C κ' G' h' → R (.ok (.ret v)) { s with heap := h', toks := t' }) :
    codeAny (model C.prog C.w) A (.call (.ref A_law_pen) ⟨[.ref a], []⟩) R s := by
  refine fn_call O X.fn_law_pen (others := [("cell" : Str), "great"]) ⟨rfl, rfl, rfl, by decide +kernel, by decide +kernel, by decide⟩ (ss := [.un]) hR I (by simp) (by simp) (fun κ' h' i y v sl l e1 e2 e3 => ?_) fun env m h₁ t₁ L cs E hL hab I₁ hm hk₁ R₁ => ?_
  · match i with
    | 0 => simp at e3; subst e3; exact True.intro
    | n + 1 => simp at e3
  obtain ⟨p1, p2, p3, p4, p5, p6, p7, p8, p9, p10, k1, k2, k3, eb, _⟩ := pen_head
  rw [eb]
  rw [execs_cons]
  have hs : m "script" = some (.ref a) := hm 0 _ _ rfl rfl
  have hx : Reads' ⟨fScope (stAt 30), [("script" : Str)] ++ [("cell" : Str), "great"], true, .none⟩ 0 "script" := ⟨rfl, .inl rfl, rfl, rfl⟩
  have hls : ∀ h : Heap, (∀ b o, C.h₀.get? b = some o → h.get? b = some o) → h.IsList a vs.toArray := fun h kk => hl.at fun o e => kk _ _ e
  have hu : (A.deeper env).units < cLine := by have := R₁.units; lia
  refine wpAny_bind (wpAny_Assign_Name (E := E) (Q := fun f s₁ => wpAny (model C.prog C.w) (A.deeper env) (match f with | .next => execs (fBody (stAt 30)).tail env | f => pure f) (fun fl s' => R (.ok (.ret (match fl with | .ret v => v | _ => .none))) s') E s₁) (wpAny_IfExp ?_) rfl)
  have fin : ∀ (t : Tok) (h₂ : Heap) (t₂ : Nat), Inv C ⟨fScope (stAt 30), [("script" : Str)] ++ [("cell" : Str), "great"], true, .none⟩ (enter κ s.heap L cs) env m ([Slot.un] ++ List.replicate 2 .un, G) h₂ →
      wpAny (model C.prog C.w) (A.deeper env) (storeName env "cell" (.int (cellOf ns) t)) (fun _ s₁ => wpAny (model C.prog C.w) (A.deeper env) (execs (fBody (stAt 30)).tail env) (fun fl s' => R (.ok (.ret (match fl with | .ret v => v | _ => .none))) s') E s₁) E { s with heap := h₂, toks := t₂ } := fun t h₂ t₂ I₂ => by
    refine store_slot (s := { s with heap := h₂, toks := t₂ }) (i := 1) (sl := .val (.int (cellOf ns))) I₂ rfl (.inl rfl) ⟨_, rfl, .int _ _⟩ fun m₃ h₃ t₃ I₃ _ => ?_
    cases hf : F_law_pen ([.un, .val (.int (cellOf ns)), .un], G) with
    | none => rw [hf] at hq; exact ns9 hq
    | some p =>
      obtain ⟨fl, ρ', G₂⟩ := p
      rw [hf] at hq
      refine b_law_pen O X (s := { s with heap := h₃, toks := t₃ }) R₁ I₃ hf fun v m' h' t' κ' l hv I' => ?_
      obtain ⟨e1, e2, e3, e4⟩ := leave_all I hL hab l I'.g
      cases fl with
      | nxt =>
        cases hq
        cases v <;> first | exact hv.elim | skip
        exact k _ h' t' _ e1 e2 .none e4
      | ret mv =>
        cases hq
        cases v <;> first | exact hv.elim | skip
        exact k _ h' t' _ e1 e2 (VR.mono e3 hv) e4
  refine wpAny_isTrue_Compare1 (own_name (s := { s with heap := h₁, toks := t₁ }) I₁ hx hs (wpAny_List (wpAny_items_nil ⟨Nat.zero_le _, ?_⟩))) rfl
  have I₂ := I₁.ext (h' := h₁.push (lstOf [] 0)) fun b o e => Heap.get?_push_of_some _ e
  have hL2 : (h₁.push (lstOf [] 0)).IsList h₁.objs.size ([] : List Value).toArray := ⟨_, Heap.get?_push_size _ rfl, rfl, 0, rfl⟩
  have hla := hls _ I₂.g.keep
  cases hI with
  | nil =>
    refine SeqAt.eq_listAt (s := { s with heap := h₁.push (lstOf [] 0), toks := t₁ }) (e := fun _ => true) hla hL2 rfl hu (fun j h1 _ => absurd h1 (by simp)) ?_
    refine wpAny_truthy_bool ?_
    exact wpAny_Constant_int (fin _ _ _ I₂)
  | @cons n t vs' ns' hI' =>
    refine SeqAt.eq_list_lengthsAt (s := { s with heap := h₁.push (lstOf [] 0), toks := t₁ }) hla hL2 (by simp) hu ?_
    refine wpAny_truthy_bool ?_
    show wpAny _ _ (eval (.Subscript (.Name "script" p6) (.Constant (.int 0) k2 p7) p8) env) _ _ _
    refine Subscript_ (own_name (s := { s with heap := h₁.push (lstOf [] 0), toks := t₁ }) I₂ hx hs (wpAny_Constant_int ?_))
    refine tail_any (s := { s with heap := h₁.push (lstOf [] 0), toks := t₁ + 1 }) hla.typeIs slot_list_getitem.lookup (wpAny_getItem_list (s := { s with heap := h₁.push (lstOf [] 0), toks := t₁ + 1 }) hla (by decide) (by decide) (x := .int n t) (by simp) ?_) (ops := [.ref a, .int 0 t₁]) rfl
    exact fin t _ _ I₂
end
end Mine
end

section
namespace Mine
open PySem PySem.Calls PyProof.Rows PySem.W
noncomputable def Plain : Prop := ∀ cell : Int, ∃ (G₁ G' : Gst) (ρ : List Slot) (b0 b1 : Bool), finish (F_law_pen ([.un, .val (.int cell), .un], [.t false, .t false])) = some (.glo 2, G₁) ∧
  F_law ([.un, .val (.glo 2), .un, .un, .un, .un, .un, .un, .un, .un, .un], G₁) = some (.ret (.bool true), ρ, G') ∧ G'[0]? = some (.t b0) ∧ G'[1]? = some (.t b1)
noncomputable def lawFrm : Frm := ⟨fScope (stAt 40), [("script" : Str)] ++ [("pen" : Str), ("form" : Str), ("few" : Str), ("fresh" : Str), ("value" : Str), ("expr" : Str), ("told" : Str), ("binds" : Str), ("most" : Str), ("inside" : Str)], true, .none⟩
theorem law_head : ∃ p1 p2 p3 p4 p5, fBody (stAt 40) = (Stmt.Assign [.Name "pen" p1] (.Call (.Name "_law_pen" p2) [.Name "script" p3] [] p4) p5) :: (fBody (stAt 40)).tail := ⟨_, _, _, _, _, rfl⟩
section
variable {C : Ctx}
set_option maxHeartbeats 1000000 in
set_option maxRecDepth 100000 in
theorem law_run (O : Ok C) (X : Fx C) (P : Plain) {A : Around} {κ : Gh} {env : Env} {m : Str → Option Value} {s : Shared} {a : Addr} {vs : List Value} {ns : List Int} {Q : Flow → Shared → Prop} {E : Value → Shared → Prop} (hR : Room A 42)
    (I : Inv C lawFrm κ env m ([.un, .un, .un, .un, .un, .un, .un, .un, .un, .un, .un], [.t false, .t false]) s.heap) (hm : m "script" = some (.ref a)) (hl : C.h₀.IsList a vs.toArray) (hI : IntsAre vs ns)
    (k : ∀ h' t' κ' G' b0 b1, InvG C κ' G' h' → G'[0]? = some (.t b0) → G'[1]? = some (.t b1) → Q (.ret (.bool true)) { s with heap := h', toks := t' }) :
    wpAny (model C.prog C.w) A (execs (fBody (stAt 40)) env) Q E s := by
  obtain ⟨G₁, G', ρ, b0, b1, q1, q2, q3, q4⟩ := P (cellOf ns)
  obtain ⟨p1, p2, p3, p4, p5, eb⟩ := law_head
  rw [eb]
  rw [execs_cons]
  refine wpAny_bind (wpAny_Assign_Name (E := E) (Q := fun f s₁ => wpAny (model C.prog C.w) A (match f with | .next => execs (fBody (stAt 40)).tail env | f => pure f) Q E s₁) ?_ rfl)
  show wpAny _ _ (eval (.Name "_law_pen" p2) env >>= fun f => callWith p4 f [] (backTo p4 (starEach [.Name "script" p3] env)) (backToKw p4 (keywordEach [] env))) _ _ _
  refine wpAny_bind (glob_name O I ⟨X.mg_law_pen, rfl, rfl⟩ (callWith_of (P := fun h => C.K.In h) ?_ (keeps_K X.kp_law_pen) (evalArgs_any rfl ?_)))
  · rw [any_backTo]; rfl
  refine wpAny_items_cons (own_name I (i := 0) ⟨rfl, .inl rfl, rfl, rfl⟩ hm (wpAny_items_nil ⟨O.inK I.g, wpAny_call ?_⟩)) rfl
  refine pen_call O X (hR.le (by decide)) I.g hl hI q1 fun v h' t' κ' l kk hv I' => ?_
  have J := I.keep I' l kk
  refine store_slot (s := { s with heap := h', toks := t' }) (i := 1) (sl := .val (.glo 2)) J rfl (.inl rfl) ⟨_, rfl, hv⟩ fun m₃ h₃ t₃ I₃ _ => ?_
  refine b_law O X (s := { s with heap := h₃, toks := t₃ }) (hR.le (by decide)) I₃ q2 fun v m' h₄ t₄ κ₄ l₄ hv I₄ => ?_
  cases v <;> first | exact hv.elim | skip
  cases hv
  exact k h₄ t₄ κ₄ G' b0 b1 I₄.g q3 q4
end
theorem law_entry {prog : Program} {w : World} {K : Frag} {g h₁ : Heap} {mg mb : Str → Option Value} {L a : Addr} {vs : List Value} {ns : List Int} {env : Env} {m : Str → Option Value} {A : Around} {s : Shared} {Q : Flow → Shared → Prop} {E : Value → Shared → Prop}
    (O : Ok (mkC prog w g K mg mb)) (X : Fx (mkC prog w g K mg mb)) (P : Plain) (F : Fr g L h₁ m) (hm : m "script" = some (.ref a)) (lifted : g.IsList a vs.toArray) (hI : IntsAre vs ns)
    (N : News g L h₁ [(432, tabObj #[]), (439, tabObj #[])]) (eS : env.scope = fScope (stAt 40)) (eL : env.locals = L) (eG : env.globals = mainGlobals) (eB : env.builtins = builtinsNs) (hR : Room A 42) (hs : s.heap = h₁)
    (k : ∀ h' t', (∀ b o, g.get? b = some o → h'.get? b = some o) → GrownAll [(436, 432), (441, 439)] h' → Q (.ret (.bool true)) { s with heap := h', toks := t' }) :
    wpAny (model prog w) A (execs (fBody (stAt 40)) env) Q E s := by
  subst hs
  have n0 := N (432, tabObj #[]) (.head _)
  have n1 := N (439, tabObj #[]) (.tail _ (.head _))
  dsimp only at n0 n1
  have gL : g.get? L = none := Heap.get?_none_of_le F.above
  obtain ⟨oL, esL, epL, hoL, hdL, rL⟩ := F.ns
  let κ : Gh := fun b => if b = L then .loc else if b = 432 then .glo 0 else if b = 439 then .glo 1 else match g.get? b with
    | some o => .frn o
    | none => .no
  have kL : κ L = .loc := by simp only [κ, if_true]
  have k0 : κ 432 = .glo 0 := by simp only [κ]; rw [if_neg n0.2.1, if_pos trivial]
  have k1 : κ 439 = .glo 1 := by simp only [κ]; rw [if_neg n1.2.1, if_neg (by decide), if_pos trivial]
  have kg : ∀ b o, g.get? b = some o → κ b = .frn o := fun b o e => by
    have h1 : b ≠ L := by rintro rfl; rw [gL] at e; cases e
    have h2 : b ≠ 432 := by rintro rfl; rw [n0.2.2] at e; cases e
    have h3 : b ≠ 439 := by rintro rfl; rw [n1.2.2] at e; cases e
    simp only [κ]
    rw [if_neg h1, if_neg h2, if_neg h3, e]
  have back : ∀ b k', κ b = k' → (b = L ∧ k' = .loc) ∨ (b = 432 ∧ k' = .glo 0) ∨ (b = 439 ∧ k' = .glo 1) ∨ (∃ o, g.get? b = some o ∧ k' = .frn o) ∨ k' = .no := fun b k' e => by
    simp only [κ] at e
    split at e
    · exact .inl ⟨by assumption, e.symm⟩
    · split at e
      · exact .inr (.inl ⟨by assumption, e.symm⟩)
      · split at e
        · exact .inr (.inr (.inl ⟨by assumption, e.symm⟩))
        · split at e
          · exact .inr (.inr (.inr (.inl ⟨_, by assumption, e.symm⟩)))
          · exact .inr (.inr (.inr (.inr e.symm)))
  have Ig : InvG (mkC prog w g K mg mb) κ [.t false, .t false] s.heap := by
    refine ⟨kg, fun b o e => ?_, fun b o e => ?_, fun b i e => ?_, fun b e => ?_, fun b b' i e e' => ?_, fun q hq => ?_⟩
    · rcases back b _ e with ⟨_, h⟩ | ⟨_, h⟩ | ⟨_, h⟩ | ⟨o', _, h⟩ | h <;> cases h
    · rcases back b _ e with ⟨_, h⟩ | ⟨_, h⟩ | ⟨_, h⟩ | ⟨o', ho, h⟩ | h <;> cases h
      exact F.keep _ _ ho
    · rcases back b _ e with ⟨_, h⟩ | ⟨hb, h⟩ | ⟨hb, h⟩ | ⟨o', ho, h⟩ | h <;> cases h
      · subst hb; exact ⟨_, .t false, n0.1, rfl, #[], rfl, fun _ => rfl⟩
      · subst hb; exact ⟨_, .t false, n1.1, rfl, #[], rfl, fun _ => rfl⟩
    · rcases back b _ rfl with ⟨hb, _⟩ | ⟨hb, _⟩ | ⟨hb, _⟩ | ⟨o', ho, _⟩ | h
      · subst hb; exact ⟨_, hoL⟩
      · subst hb; exact ⟨_, n0.1⟩
      · subst hb; exact ⟨_, n1.1⟩
      · exact ⟨_, F.keep _ _ ho⟩
      · exact absurd h e
    · rcases back b _ e with ⟨_, h⟩ | ⟨hb, h⟩ | ⟨hb, h⟩ | ⟨o', ho, h⟩ | h <;> cases h
      · rcases back b' _ e' with ⟨_, h⟩ | ⟨hb', h⟩ | ⟨hb', h⟩ | ⟨o', ho, h⟩ | h <;> cases h
        rw [hb, hb']
      · rcases back b' _ e' with ⟨_, h⟩ | ⟨hb', h⟩ | ⟨hb', h⟩ | ⟨o', ho, h⟩ | h <;> cases h
        rw [hb, hb']
    · have hq' : q ∈ [((432 : Addr), 0), (439, 1)] := hq
      simp only [List.mem_cons, List.not_mem_nil, or_false] at hq'
      rcases hq' with rfl | rfl
      · exact k0
      · exact k1
  have If : InvF (mkC prog w g K mg mb) lawFrm κ env m [.un, .un, .un, .un, .un, .un, .un, .un, .un, .un, .un] s.heap := by
    have nocell : ∀ x k, (fScope (stAt 40)).names.lookup x = some k → k ≠ .cell ∧ k ≠ .free := fun x k e => by
      have h := List.all_eq_true.mp (show (fScope (stAt 40)).names.all (fun p => p.2 != .cell && p.2 != .free) = true by decide +kernel) _ (mem_lookup e)
      simpa using h
    have ek : ∀ x, env.kindOf x = (fScope (stAt 40)).names.lookup x := fun x => by unfold Env.kindOf; rw [eS]
    refine ⟨eS, rfl, ⟨eG, .inl rfl⟩, eB, by decide, by rw [eL]; exact kL, ⟨m, eL ▸ F.ns, fun x _ => rfl⟩, fun x hx => ?_, fun _ x c hx _ => ?_, rfl, fun i x sl e e' => ?_⟩
    · rw [ek] at hx
      rcases hx with hx | hx
      · exact absurd rfl (nocell x _ hx).1
      · exact absurd rfl (nocell x _ hx).2
    · rw [ek] at hx
      exact absurd rfl (nocell x _ hx).1
    · have : sl = .un := by
        have h := List.mem_of_getElem? e'
        simp at h; exact h
      subst this
      exact True.intro
  refine law_run O X P hR ⟨Ig, If⟩ hm lifted hI fun h' t' κ' G' b0 b1 I' q0 q1 => k h' t' (fun b o e => I'.frn b o (I'.base b o e)) ?_
  have t0 := I'.gi.2 (432, 0) (.head _)
  have t1 := I'.gi.2 (439, 1) (.tail _ (.head _))
  obtain ⟨o0, g0, c0, c1, c2⟩ := I'.glo _ _ t0
  obtain ⟨o1, g1, d0, d1, d2⟩ := I'.glo _ _ t1
  dsimp only at c0 c1 d0 d1
  rw [q0] at c1; cases c1
  rw [q1] at d1; cases d1
  obtain ⟨ps, rfl, _⟩ := c2
  obtain ⟨ps', rfl, _⟩ := d2
  exact ⟨⟨ps, c0⟩, ⟨ps', d0⟩, trivial⟩
end Mine
end

section
namespace Mine
open PySem PySem.Calls PyProof.Rows PySem.W
theorem room0 (env : Env) : Room (callerA.deeper env) 42 := ⟨by show callerA.depth + 1 + 4 * 42 + 4 < recursionLimit; decide, by show callerA.units + 3 + 40 * 42 + 200 < cLine; decide, rfl⟩
noncomputable def chkCls (K : Frag) : Bool := (List.range 10).all fun c => (match clsIn K (cAd c) with | some cd => cd.hasDict | none => false) && (findIn K (.ref (cAd c)) "__getattribute__" == some (some (.builtin "object.__getattribute__"))) &&
  (flds c).all fun x => (match findIn K (.ref (cAd c)) x with | some none => true | _ => false)
noncomputable def chkIsi (K : Frag) : Bool := (List.range 8).all fun c => (List.range 8).all fun c' => c == c' || kin_not K (cAd c) (cAd c')
noncomputable def chkIsiS (K : Frag) : Bool := (List.range 8).all fun c => isIn K (.ref (cAd c)) (cAd c) && plainGet K (cAd c) "__class__" && hasDictIn K (cAd c) && (findIn K (.ref (cAd c)) "__class__" == some (some (.builtin "object.__class__"))) && (mroIn K (cAd c) (.type "object") == some true)
noncomputable def chkIsiB (K : Frag) : Bool := (specialIn K (.builtin "object.__class__") "__get__" == some (some (.builtin "getset_descriptor.__get__"))) && (takesIn K (.builtin "object.__class__") == some true)
theorem top_sys {p : Program} {loose : List Str} {mean : ExcName → Option Value} {mg mb : Str → Option Value} {h : Heap} (T : Top p loose mean mg mb h) (hi : importsNone p = true) : ∃ o, h.get? sysModules = some o := by
  obtain ⟨mm, ⟨o, _, _, ho, _⟩, _⟩ := (T.seer hi).mods
  exact ⟨o, ho⟩
theorem mk_ok {prog : Program} {w : World} {h₀ : Heap} {K : Frag} {mg mb : Str → Option Value} {p : Program} {loose : List Str} {mean : ExcName → Option Value} (X : K.In h₀) (T : Top p loose mean mg mb h₀) (sys : ∃ o, h₀.get? sysModules = some o)
    (c1 : chkCls K = true) (c2 : chkIsi K = true) (c3 : chkIsiS K = true) (c4 : chkIsiB K = true) : Ok (mkC prog w h₀ K mg mb) := by
  refine ⟨X, sys, T.nolimit, T.g, T.b, fun c hc => ?_, fun c c' hc hc' hne => ?_, fun c hc => ?_, ?_⟩
  · have h := List.all_eq_true.mp c1 c (List.mem_range.mpr hc)
    simp only [Bool.and_eq_true, beq_iff_eq] at h
    obtain ⟨⟨h1, h2⟩, h3⟩ := h
    refine ⟨?_, h2, fun x hx => ?_⟩
    · show ∃ cd, clsIn K (cAd c) = some cd ∧ cd.hasDict = true
      split at h1
      · rename_i cd e; exact ⟨cd, e, h1⟩
      · cases h1
    · have := List.all_eq_true.mp h3 x hx
      show findIn K (.ref (cAd c)) x = some none
      split at this
      · assumption
      · cases this
  · have h := List.all_eq_true.mp (List.all_eq_true.mp c2 c (List.mem_range.mpr hc)) c' (List.mem_range.mpr hc')
    simp only [Bool.or_eq_true, beq_iff_eq] at h
    exact h.resolve_left hne
  · have h := List.all_eq_true.mp c3 c (List.mem_range.mpr hc)
    simp only [Bool.and_eq_true, beq_iff_eq] at h
    obtain ⟨⟨⟨⟨h1, h2⟩, h3⟩, h4⟩, h5⟩ := h
    exact ⟨h1, h2, h3, h4, h5⟩
  · unfold chkIsiB at c4
    simp only [Bool.and_eq_true, beq_iff_eq] at c4
    exact c4
theorem mk_nest {prog : Program} {w : World} {h₀ : Heap} {K : Frag} {mg mb : Str → Option Value} {p : Program} {loose : List Str} {mean : ExcName → Option Value} (T : Top p loose mean mg mb h₀) {c P : Addr} {j : Nat} (hd : CodeHd h₀ c P) (hj : (P, j) ∈ [(Tb_joined, 0), (Tb_case_of_case, 1)])
    (hP : h₀.get? P = none) : NestOk (mkC prog w h₀ K mg mb) c P j := by
  obtain ⟨bm, ob, b1, b2, b3, b4, b5, b6⟩ := T.bmain
  refine ⟨hd, hj, ?_, bm, ob, b1, b2, ?_, ?_, b3, b4, b5, b6⟩
  · rintro rfl
    obtain ⟨o, _, _, ho, _⟩ := T.g
    rw [hP] at ho; cases ho
  · rintro rfl
    obtain ⟨o, _, _, ho, hd', _⟩ := T.g
    rw [b3] at ho; cases ho
    rw [b6] at hd'; cases hd'
  · rintro rfl
    rw [hP] at b3; cases b3
end Mine
end

section
namespace Mine
open PySem
section
variable {ρ ρ₁ ρ₂ ρ₃ ρ' : List Slot} {G G₁ G₂ G₃ G' : Gst} {s s₁ s₂ : Ab}
noncomputable def kont (g : Ab → Option (Fl × Ab)) (fl : Fl) (s : Ab) : Option (Fl × Ab) := match fl with
  | .nxt => g s
  | .ret m => some (.ret m, s)
theorem qs9 {f g : Ab → Option (Fl × Ab)} {fl : Fl} {r : Option (Fl × Ab)} (h : f s = some (fl, s₁)) (k : kont g fl s₁ = r) : sSeq f g s = r := by
  unfold sSeq; rw [h]
  cases fl with
  | nxt => exact k
  | ret m => exact k
theorem kn9 {g : Ab → Option (Fl × Ab)} {r : Option (Fl × Ab)} (h : g s = r) : kont g .nxt s = r := h
theorem k_ret {g : Ab → Option (Fl × Ab)} {m : MV} : kont g (.ret m) s = some (.ret m, s) := rfl
theorem qn9 : sNil s = some (.nxt, s) := rfl
theorem r_ret {f : Ab → Option (MV × Ab)} {m : MV} (h : f s = some (m, s₁)) : sRet f s = some (.ret m, s₁) := by
  unfold sRet; rw [h]; rfl
theorem r_set {i : Nat} {f : Ab → Option (MV × Ab)} {m : MV} (h : f s = some (m, ρ₁, G₁)) (hs : ρ₁.set i (.val m) = ρ₂) : sSet i f s = some (.nxt, ρ₂, G₁) := by
  unfold sSet; rw [h, ← hs]
noncomputable def icont {α : Type} (b : Bool) (f g : Ab → Option (α × Ab)) (s : Ab) : Option (α × Ab) := match b with
  | true => f s
  | false => g s
theorem ic_t {α : Type} {f g : Ab → Option (α × Ab)} {r : Option (α × Ab)} (h : f s = r) : icont true f g s = r := h
theorem ic_f {α : Type} {f g : Ab → Option (α × Ab)} {r : Option (α × Ab)} (h : g s = r) : icont false f g s = r := h
theorem r_if {c : Ab → Option (Bool × Ab)} {f g : Ab → Option (Fl × Ab)} {b : Bool} {r : Option (Fl × Ab)} (h : c s = some (b, s₁)) (k : icont b f g s₁ = r) : sIf c f g s = r := by
  unfold sIf; rw [h]
  cases b <;> exact k
theorem r_fif {c : Ab → Option (Bool × Ab)} {f g : Ab → Option (MV × Ab)} {b : Bool} {r : Option (MV × Ab)} (h : c s = some (b, s₁)) (k : icont b f g s₁ = r) : fIf c f g s = r := by
  unfold fIf; rw [h]
  cases b <;> exact k
theorem qb9 {f : Ab → Option (MV × Ab)} {b : Bool} (h : f s = some (.bool b, s₁)) : asBool f s = some (b, s₁) := by
  unfold asBool; rw [h]
theorem r_not {c : Ab → Option (Bool × Ab)} {b b' : Bool} (h : c s = some (b, s₁)) (hb : (!b) = b') : tNot c s = some (b', s₁) := by
  unfold tNot; rw [h, ← hb]; rfl
noncomputable def acont (b : Bool) (d : Ab → Option (Bool × Ab)) (s : Ab) : Option (Bool × Ab) := match b with
  | true => d s
  | false => some (false, s)
theorem ac_t {d : Ab → Option (Bool × Ab)} {r : Option (Bool × Ab)} (h : d s = r) : acont true d s = r := h
theorem ac_f {d : Ab → Option (Bool × Ab)} : acont false d s = some (false, s) := rfl
theorem r_and {c d : Ab → Option (Bool × Ab)} {b : Bool} {r : Option (Bool × Ab)} (h : c s = some (b, s₁)) (k : acont b d s₁ = r) : tAnd c d s = r := by
  unfold tAnd; rw [h]
  cases b <;> exact k
noncomputable def ocont (b : Bool) (d : Ab → Option (Bool × Ab)) (s : Ab) : Option (Bool × Ab) := match b with
  | false => d s
  | true => some (true, s)
theorem oc_f {d : Ab → Option (Bool × Ab)} {r : Option (Bool × Ab)} (h : d s = r) : ocont false d s = r := h
theorem oc_t {d : Ab → Option (Bool × Ab)} : ocont true d s = some (true, s) := rfl
theorem r_or {c d : Ab → Option (Bool × Ab)} {b : Bool} {r : Option (Bool × Ab)} (h : c s = some (b, s₁)) (k : ocont b d s₁ = r) : tOr c d s = r := by
  unfold tOr; rw [h]
  cases b <;> exact k
theorem r_tlit {b : Bool} : tLit b s = some (b, s) := rfl
noncomputable def fcont (b : Bool) (g : Ab → Option (MV × Ab)) (s : Ab) : Option (MV × Ab) := match b with
  | true => g s
  | false => some (.bool false, s)
theorem fc_t {g : Ab → Option (MV × Ab)} {r : Option (MV × Ab)} (h : g s = r) : fcont true g s = r := h
theorem fc_f {g : Ab → Option (MV × Ab)} : fcont false g s = some (.bool false, s) := rfl
theorem r_fand {f g : Ab → Option (MV × Ab)} {b : Bool} {r : Option (MV × Ab)} (h : f s = some (.bool b, s₁)) (k : fcont b g s₁ = r) : fAnd f g s = r := by
  unfold fAnd; rw [h]
  cases b <;> exact k
theorem qc9 {m : MV} : fK9 m s = some (m, s) := rfl
theorem r_d0 : fD0 s = some (.dct [], s) := rfl
theorem qv9 {i : Nat} {m : MV} (h : ρ[i]? = some (.val m)) : gv9 i (ρ, G) = some (m, ρ, G) := by
  unfold gv9; simp only; rw [h]
theorem r_vall {i : Nat} {l : List MV} (h : ρ[i]? = some (.ownL l)) (hs : ρ.set i (.val (.lst l)) = ρ₁) : gv9 i (ρ, G) = some (.lst l, ρ₁, G) := by
  unfold gv9; simp only; rw [h, ← hs]
theorem r_vald {i : Nat} {l : List (Str × MV)} (h : ρ[i]? = some (.ownD l)) (hs : ρ.set i (.val (.dct l)) = ρ₁) : gv9 i (ρ, G) = some (.dct l, ρ₁, G) := by
  unfold gv9; simp only; rw [h, ← hs]
theorem q19 {f : Ab → Option (MV × Ab)} {op : Gst → MV → Option (MV × Gst)} {a r : MV} (h : f s = some (a, ρ₁, G₁)) (k : op G₁ a = some (r, G₂)) : f1 f op s = some (r, ρ₁, G₂) := by
  unfold f1; rw [h]; simp only; rw [k]
theorem q29 {f g : Ab → Option (MV × Ab)} {op : Gst → MV → MV → Option (MV × Gst)} {a b r : MV} (h : f s = some (a, s₁)) (h' : g s₁ = some (b, ρ₂, G₂)) (k : op G₂ a b = some (r, G₃)) : f2 f g op s = some (r, ρ₂, G₃) := by
  unfold f2; rw [h]; simp only; rw [h']; simp only; rw [k]
theorem q09 : l09 s = some ([], s) := rfl
theorem ql9 {f : Ab → Option (MV × Ab)} {g : Ab → Option (List MV × Ab)} {a : MV} {l : List MV} (h : f s = some (a, s₁)) (h' : g s₁ = some (l, s₂)) : lC9 f g s = some (a :: l, s₂) := by
  unfold lC9; rw [h]; simp only; rw [h']
theorem r_tup {g : Ab → Option (List MV × Ab)} {l : List MV} (h : g s = some (l, s₁)) (hl : l.length ≤ room) : fTup g s = some (.tup l, s₁) := by
  unfold fTup; rw [h]; exact if_pos hl
theorem r_lst {g : Ab → Option (List MV × Ab)} {l : List MV} (h : g s = some (l, s₁)) (hl : l.length ≤ room) : fLst g s = some (.lst l, s₁) := by
  unfold fLst; rw [h]; exact if_pos hl
theorem qa9 {sp : List MV → Gst → Option (MV × Gst)} {g : Ab → Option (List MV × Ab)} {l : List MV} {r : MV} (h : g s = some (l, ρ₁, G₁)) (k : sp l G₁ = some (r, G₂)) : fA9 sp g s = some (r, ρ₁, G₂) := by
  unfold fA9; rw [h]; simp only; rw [k]
theorem r_callM {disp : Nat → Option (List MV → Gst → Option (MV × Gst))} {f : Ab → Option (MV × Ab)} {g : Ab → Option (List MV × Ab)} {c : Nat} {ms l : List MV} {r : MV} {sp : List MV → Gst → Option (MV × Gst)}
    (h : f s = some (.obj c ms, s₁)) (h' : g s₁ = some (l, ρ₂, G₂)) (hd : disp c = some sp) (k : sp (.obj c ms :: l) G₂ = some (r, G₃)) : fCallM disp f g s = some (r, ρ₂, G₃) := by
  unfold fCallM; rw [h]; simp only; rw [h']; simp only; rw [hd]; simp only; rw [k]
theorem r_callB {ok : Gst → MV → Bool} {op : List MV → Gst → Option (MV × Gst)} {f : Ab → Option (MV × Ab)} {g : Ab → Option (List MV × Ab)} {a r : MV} {l : List MV}
    (h : f s = some (a, ρ₁, G₁)) (ho : ok G₁ a = true) (h' : g (ρ₁, G₁) = some (l, ρ₂, G₂)) (k : op (a :: l) G₂ = some (r, G₃)) : fCallB ok op f g s = some (r, ρ₂, G₃) := by
  unfold fCallB; rw [h]; simp only; rw [if_pos ho, h']; simp only; rw [k]
theorem r_callC {sp : Nat → List MV → List MV → Gst → Option (MV × Gst)} {f : Ab → Option (MV × Ab)} {g : Ab → Option (List MV × Ab)} {k : Nat} {cs l : List MV} {r : MV}
    (h : f s = some (.clo k cs, s₁)) (h' : g s₁ = some (l, ρ₂, G₂)) (hk : sp k cs l G₂ = some (r, G₃)) : fCallC sp f g s = some (r, ρ₂, G₃) := by
  unfold fCallC; rw [h]; simp only; rw [h']; simp only; rw [hk]
theorem r_app {i : Nat} {f : Ab → Option (MV × Ab)} {v : MV} {l l' : List MV} (h0 : ρ[i]? = some (.ownL l')) (h : f (ρ, G) = some (v, ρ₁, G₁)) (h1 : ρ₁[i]? = some (.ownL l)) (hl : l.length ≤ room) (hs : ρ₁.set i (.ownL (l ++ [v])) = ρ₂) :
    sApp i f (ρ, G) = some (.nxt, ρ₂, G₁) := by
  subst hs
  have e0 : ownAt i (ρ, G) = some l' := by unfold ownAt; simp only; rw [h0]
  have e1 : ownAt i (ρ₁, G₁) = some l := by unfold ownAt; simp only; rw [h1]
  unfold sApp; rw [e0]; simp only; rw [h]; simp only; rw [e1]; exact if_pos hl
theorem r_setD {i : Nat} {f g : Ab → Option (MV × Ab)} {v : MV} {k : Str} {l l' : List (Str × MV)} (h : f s = some (v, ρ₁, G₁)) (h0 : ρ₁[i]? = some (.ownD l')) (h' : g (ρ₁, G₁) = some (.str k, ρ₂, G₂)) (h1 : ρ₂[i]? = some (.ownD l)) (hl : l.length ≤ room) (hs : ρ₂.set i (.ownD (mSet l k v)) = ρ₃) :
    sSetD i f g s = some (.nxt, ρ₃, G₂) := by
  subst hs
  have e0 : ownDAt i (ρ₁, G₁) = some l' := by unfold ownDAt; simp only; rw [h0]
  have e1 : ownDAt i (ρ₂, G₂) = some l := by unfold ownDAt; simp only; rw [h1]
  unfold sSetD; rw [h]; simp only; rw [e0]; simp only; rw [h']; simp only; rw [e1]; exact if_pos hl
theorem r_setG {fo f g : Ab → Option (MV × Ab)} {v : MV} {j : Nat} {k : Str} {l : List (Str × MV)} (h : f s = some (v, s₁)) (ho : fo s₁ = some (.glo j, s₂)) (hk : g s₂ = some (.str k, ρ₃, G₃)) (hj : G₃[j]? = some (.d l)) (hl : l.length ≤ room) :
    sSetG fo f g s = some (.nxt, ρ₃, G₃.set j (.d (mSet l k v))) := by
  unfold sSetG; rw [h]; simp only; rw [ho]; simp only; rw [hk]; simp only; rw [hj]; exact if_pos hl
theorem r_aug {i : Nat} {f : Ab → Option (MV × Ab)} {a b : Int} (h : gv9 i s = some (.int a, s₁)) (h' : f s₁ = some (.int b, ρ₂, G₂)) (hs : ρ₂.set i (.val (.int (a + b))) = ρ₃) : sAug i f s = some (.nxt, ρ₃, G₂) := by
  subst hs
  unfold sAug; rw [h]; simp only; rw [h']
theorem r_unp {f : Ab → Option (MV × Ab)} {T : MV → List Slot → Option (List Slot)} {v : MV} (h : f s = some (v, ρ₁, G₁)) (hT : T v ρ₁ = some ρ₂) : sUnp f T s = some (.nxt, ρ₂, G₁) := by
  unfold sUnp; rw [h]; simp only; rw [hT]
theorem r_new {i : Nat} {f : Ab → Option (Slot × Ab)} {sl : Slot} (h : f s = some (sl, ρ₁, G₁)) (hs : ρ₁.set i sl = ρ₂) : sNew i f s = some (.nxt, ρ₂, G₁) := by
  subst hs
  unfold sNew; rw [h]
theorem r_gl {g : Ab → Option (List MV × Ab)} {l : List MV} (h : g s = some (l, s₁)) (hl : l.length ≤ room) : gLst g s = some (.ownL l, s₁) := by
  unfold gLst; rw [h]; exact if_pos hl
theorem r_gd0 : gD0 s = some (.ownD [], s) := rfl
theorem r_gd {f : Ab → Option (MV × Ab)} {l : List (Str × MV)} (h : f s = some (.dct l, s₁)) (hl : l.length ≤ room) : gDict f s = some (.ownD l, s₁) := by
  unfold gDict; rw [h]; exact if_pos hl
theorem r_pval {f : Ab → Option (MV × Ab)} {g : Ab → Option (Slot × Ab)} {m : MV} {sl : Slot} (h : f s = some (m, s₁)) (h' : g s₁ = some (sl, s₂)) : pVal f g s = some ((.val m, sl), s₂) := by
  unfold pVal; rw [h]; simp only; rw [h']
theorem r_pnil {f : Ab → Option (Slot × Ab)} {sl : Slot} (h : f s = some (sl, s₁)) : pNil f s = some ((sl, .ownL []), s₁) := by
  unfold pNil; rw [h]
theorem r_pair {i j : Nat} {f : Ab → Option ((Slot × Slot) × Ab)} {a b : Slot} (h : f s = some ((a, b), ρ₁, G₁)) (hs : ρ₁.set j b = ρ₂) (hs' : ρ₂.set i a = ρ₃) : sPair i j f s = some (.nxt, ρ₃, G₁) := by
  subst hs hs'
  unfold sPair; rw [h]
theorem r_town {i : Nat} {l : List MV} {b : Bool} (h : ρ[i]? = some (.ownL l)) (hl : l.length ≤ room) (hb : (!l.isEmpty) = b) : tOwn i (ρ, G) = some (b, ρ, G) := by
  have e0 : ownAt i (ρ, G) = some l := by unfold ownAt; simp only; rw [h]
  unfold tOwn; rw [e0, ← hb]; exact if_pos hl
theorem r_lenown {i : Nat} {l : List MV} (h : ρ[i]? = some (.ownL l)) (hl : l.length ≤ room) : fLenOwn i (ρ, G) = some (.int l.length, ρ, G) := by
  have e0 : ownAt i (ρ, G) = some l := by unfold ownAt; simp only; rw [h]
  unfold fLenOwn; rw [e0]; exact if_pos hl
theorem lastOf_snoc : ∀ (p : List MV) (z : MV), lastOf (p ++ [z]) = some (p, z)
  | [], z => rfl
  | [x], z => rfl
  | x :: y :: r, z => by
    show (match lastOf (y :: r ++ [z]) with | some (p, z) => some (x :: p, z) | none => none) = _
    rw [lastOf_snoc (y :: r) z]
theorem r_pop {i : Nat} {p : List MV} {z : MV} (h : ρ[i]? = some (.ownL (p ++ [z]))) (hl : (p ++ [z]).length ≤ room) (hs : ρ.set i (.ownL p) = ρ₁) : fPop i (ρ, G) = some (z, ρ₁, G) := by
  subst hs
  have e0 : ownAt i (ρ, G) = some (p ++ [z]) := by unfold ownAt; simp only; rw [h]
  unfold fPop; rw [e0]; simp only; rw [lastOf_snoc]; exact if_pos hl
theorem r_drop {i : Nat} {f : Ab → Option (MV × Ab)} {a : Nat} {l l' l₂ : List MV} (h0 : ρ[i]? = some (.ownL l')) (h : f (ρ, G) = some (.int a, ρ₁, G₁)) (h1 : ρ₁[i]? = some (.ownL l)) (hl : l.length ≤ room) (hd : l.drop a = l₂) : fDrop i f (ρ, G) = some (.lst l₂, ρ₁, G₁) := by
  subst hd
  have e0 : ownAt i (ρ, G) = some l' := by unfold ownAt; simp only; rw [h0]
  have e1 : ownAt i (ρ₁, G₁) = some l := by unfold ownAt; simp only; rw [h1]
  unfold fDrop; rw [e0]; simp only; rw [h]; simp only; rw [e1]; exact if_pos ⟨by lia, hl⟩
theorem r_del {i : Nat} {f : Ab → Option (MV × Ab)} {a : Nat} {l l' l₂ : List MV} (h0 : ρ[i]? = some (.ownL l')) (h : f (ρ, G) = some (.int a, ρ₁, G₁)) (h1 : ρ₁[i]? = some (.ownL l)) (ha : a ≤ l.length) (hl : l.length ≤ room) (ht : l.take a = l₂) (hs : ρ₁.set i (.ownL l₂) = ρ₂) : sDel i f (ρ, G) = some (.nxt, ρ₂, G₁) := by
  subst hs ht
  have e0 : ownAt i (ρ, G) = some l' := by unfold ownAt; simp only; rw [h0]
  have e1 : ownAt i (ρ₁, G₁) = some l := by unfold ownAt; simp only; rw [h1]
  unfold sDel; rw [e0]; simp only; rw [h]; simp only; rw [e1]; exact if_pos ⟨by lia, ha, hl⟩
theorem r_it {f : Ab → Option (MV × Ab)} {op : MV → Option (List MV)} {a : MV} {l : List MV} (h : f s = some (a, s₁)) (k : op a = some l) : fIt f op s = some (l, s₁) := by
  unfold fIt; rw [h]; simp only; rw [k]
theorem r_for {f : Ab → Option (List MV × Ab)} {T : MV → List Slot → Option (List Slot)} {B : Ab → Option (Fl × Ab)} {l : List MV} {r : Option (Fl × Ab)} (h : f s = some (l, s₁)) (k : loopF T B l s₁ = r) : sFor f T B s = r := by
  unfold sFor; rw [h]; exact k
theorem r_loop0 {T : MV → List Slot → Option (List Slot)} {B : Ab → Option (Fl × Ab)} : loopF T B [] s = some (.nxt, s) := rfl
noncomputable def lcont (T : MV → List Slot → Option (List Slot)) (B : Ab → Option (Fl × Ab)) (l : List MV) (fl : Fl) (s : Ab) : Option (Fl × Ab) := match fl with
  | .nxt => loopF T B l s
  | .ret m => some (.ret m, s)
theorem r_loop1 {T : MV → List Slot → Option (List Slot)} {B : Ab → Option (Fl × Ab)} {x : MV} {l : List MV} {fl : Fl} {r : Option (Fl × Ab)} (hT : T x ρ = some ρ₁) (h : B (ρ₁, G) = some (fl, s₁)) (k : lcont T B l fl s₁ = r) : loopF T B (x :: l) (ρ, G) = r := by
  unfold loopF; simp only; rw [hT]; simp only; rw [h]
  cases fl <;> exact k
theorem lc_nxt {T : MV → List Slot → Option (List Slot)} {B : Ab → Option (Fl × Ab)} {l : List MV} {r : Option (Fl × Ab)} (h : loopF T B l s = r) : lcont T B l .nxt s = r := h
theorem lc_ret {T : MV → List Slot → Option (List Slot)} {B : Ab → Option (Fl × Ab)} {l : List MV} {m : MV} : lcont T B l (.ret m) s = some (.ret m, s) := rfl
theorem r_comp {n : Nat} {cis : List Nat} {f : Ab → Option (List MV × Ab)} {T : MV → List Slot → Option (List Slot)} {g : Ab → Option (MV × Ab)} {l ys : List MV} (h : f s = some (l, ρ₁, G₁)) (hc : compStart n cis [] ρ₁ = ρ₂) (k : compL T g l (ρ₂, G₁) = some (.ownL ys :: ρ', G₂)) : fComp n cis f T g s = some (.lst ys, ρ₁, G₂) := by
  subst hc
  unfold fComp; rw [h]; simp only; rw [k]; rfl
theorem r_comp0 {T : MV → List Slot → Option (List Slot)} {g : Ab → Option (MV × Ab)} : compL T g [] s = some s := rfl
theorem r_comp1 {T : MV → List Slot → Option (List Slot)} {g : Ab → Option (MV × Ab)} {x y : MV} {l ys : List MV} {r : Option Ab} (hT : T x ρ = some ρ₁) (h : g (ρ₁, G) = some (y, ρ₂, G₂)) (h0 : ρ₂[0]? = some (.ownL ys)) (hl : ys.length ≤ room) (hs : ρ₂.set 0 (.ownL (ys ++ [y])) = ρ₃) (k : compL T g l (ρ₃, G₂) = r) : compL T g (x :: l) (ρ, G) = r := by
  subst hs
  have e0 : ownAt 0 (ρ₂, G₂) = some ys := by unfold ownAt; simp only; rw [h0]
  unfold compL; simp only; rw [hT]; simp only; rw [h]; simp only; rw [e0]; simp only; rw [if_pos hl]; exact k
theorem r_spec {n k : Nat} {F : Ab → Option (Fl × Ab)} {ms : List MV} {m : MV} (hn : ms.length = n) (hs : start ms k = ρ₁) (h : F (ρ₁, G) = some (.ret m, ρ, G')) : specOf n k F ms G = some (m, G') := by
  subst hs
  unfold specOf; rw [if_pos hn, h]; rfl
theorem w_false {c : Ab → Option (Bool × Ab)} {B : Ab → Option (Fl × Ab)} {n : Nat} (h : c s = some (false, s₁)) : sWhile c B (n + 1) s = some (.nxt, s₁) := by
  show (match c s with | none => none | some (false, ab) => some (Fl.nxt, ab) | some (true, ab) => _) = _
  rw [h]
theorem w_true {c : Ab → Option (Bool × Ab)} {B : Ab → Option (Fl × Ab)} {n : Nat} {r : Option (Fl × Ab)} (h : c s = some (true, s₁)) (h' : B s₁ = some (.nxt, s₂)) (k : sWhile c B n s₂ = r) : sWhile c B (n + 1) s = r := by
  show (match c s with | none => none | some (false, ab) => some (Fl.nxt, ab) | some (true, ab) => (match B ab with | some (Fl.nxt, ab) => sWhile c B n ab | q => q)) = _
  rw [h]; simp only; rw [h']; exact k
theorem r_loop1e {T : MV → List Slot → Option (List Slot)} {B B' : Ab → Option (Fl × Ab)} {x : MV} {l : List MV} {r : Option (Fl × Ab)} (e : B' (ρ', G) = some (.nxt, s₁)) (hB : B = B') (hT : T x ρ = some ρ₁) (hρ : ρ₁ = ρ') (k : loopF T B l s₁ = r) : loopF T B (x :: l) (ρ, G) = r := by
  subst hB hρ
  exact r_loop1 hT e k
theorem r_seqe {f f' g : Ab → Option (Fl × Ab)} {fl : Fl} {r : Option (Fl × Ab)} (e : f' (ρ', G) = some (fl, s₁)) (hf : f = f') (hρ : ρ = ρ') (k : kont g fl s₁ = r) : sSeq f g (ρ, G) = r := by
  subst hf hρ
  exact qs9 e k
theorem r_seq2 {f f' g : Ab → Option (Fl × Ab)} {fl : Fl} {r : Option (Fl × Ab)} {P : List Slot → Prop} {S : List Slot → Ab} (e : ∀ ρ, P ρ → f' (ρ, G) = some (fl, S ρ)) (hf : f = f') (hp : P ρ) (k : kont g fl (S ρ) = r) : sSeq f g (ρ, G) = r := by
  subst hf
  exact qs9 (e ρ hp) k
theorem r_dx {f : Ab → Option Ab} {g : Ab → Option (Fl × Ab)} {r : Option (Fl × Ab)} (h : f s = some s₁) (k : g s₁ = r) : sDx f g s = r := by
  unfold sDx; rw [h]; exact k
end
theorem cls0 (x0 : MV) (G : Gst) : clsSpec 0 [x0] G = some (.obj 0 [x0], G) := rfl
theorem at0_0 (x0 : MV) (G : Gst) : fAttr "name" G (.obj 0 [x0]) = some (x0, G) := by kernel_rfl
theorem cls1 (x0 x1 : MV) (G : Gst) : clsSpec 1 [x0, x1] G = some (.obj 1 [x0, x1], G) := rfl
theorem at1_0 (x0 x1 : MV) (G : Gst) : fAttr "kind" G (.obj 1 [x0, x1]) = some (x0, G) := by kernel_rfl
theorem at1_1 (x0 x1 : MV) (G : Gst) : fAttr "value" G (.obj 1 [x0, x1]) = some (x1, G) := by kernel_rfl
theorem cls2 (x0 x1 : MV) (G : Gst) : clsSpec 2 [x0, x1] G = some (.obj 2 [x0, x1], G) := rfl
theorem at2_0 (x0 x1 : MV) (G : Gst) : fAttr "fun" G (.obj 2 [x0, x1]) = some (x0, G) := by kernel_rfl
theorem at2_1 (x0 x1 : MV) (G : Gst) : fAttr "args" G (.obj 2 [x0, x1]) = some (x1, G) := by kernel_rfl
theorem cls3 (x0 x1 : MV) (G : Gst) : clsSpec 3 [x0, x1] G = some (.obj 3 [x0, x1], G) := rfl
theorem at3_0 (x0 x1 : MV) (G : Gst) : fAttr "params" G (.obj 3 [x0, x1]) = some (x0, G) := by kernel_rfl
theorem at3_1 (x0 x1 : MV) (G : Gst) : fAttr "body" G (.obj 3 [x0, x1]) = some (x1, G) := by kernel_rfl
theorem cls4 (x0 x1 x2 : MV) (G : Gst) : clsSpec 4 [x0, x1, x2] G = some (.obj 4 [x0, x1, x2], G) := rfl
theorem at4_0 (x0 x1 x2 : MV) (G : Gst) : fAttr "binds" G (.obj 4 [x0, x1, x2]) = some (x0, G) := by kernel_rfl
theorem at4_1 (x0 x1 x2 : MV) (G : Gst) : fAttr "body" G (.obj 4 [x0, x1, x2]) = some (x1, G) := by kernel_rfl
theorem at4_2 (x0 x1 x2 : MV) (G : Gst) : fAttr "is_rec" G (.obj 4 [x0, x1, x2]) = some (x2, G) := by kernel_rfl
theorem cls5 (x0 x1 x2 : MV) (G : Gst) : clsSpec 5 [x0, x1, x2] G = some (.obj 5 [x0, x1, x2], G) := rfl
theorem at5_0 (x0 x1 x2 : MV) (G : Gst) : fAttr "key" G (.obj 5 [x0, x1, x2]) = some (x0, G) := by kernel_rfl
theorem at5_1 (x0 x1 x2 : MV) (G : Gst) : fAttr "names" G (.obj 5 [x0, x1, x2]) = some (x1, G) := by kernel_rfl
theorem at5_2 (x0 x1 x2 : MV) (G : Gst) : fAttr "body" G (.obj 5 [x0, x1, x2]) = some (x2, G) := by kernel_rfl
theorem cls6 (x0 x1 x2 x3 : MV) (G : Gst) : clsSpec 6 [x0, x1, x2, x3] G = some (.obj 6 [x0, x1, x2, x3], G) := rfl
theorem at6_0 (x0 x1 x2 x3 : MV) (G : Gst) : fAttr "value" G (.obj 6 [x0, x1, x2, x3]) = some (x0, G) := by kernel_rfl
theorem at6_1 (x0 x1 x2 x3 : MV) (G : Gst) : fAttr "name" G (.obj 6 [x0, x1, x2, x3]) = some (x1, G) := by kernel_rfl
theorem at6_2 (x0 x1 x2 x3 : MV) (G : Gst) : fAttr "alts" G (.obj 6 [x0, x1, x2, x3]) = some (x2, G) := by kernel_rfl
theorem at6_3 (x0 x1 x2 x3 : MV) (G : Gst) : fAttr "other" G (.obj 6 [x0, x1, x2, x3]) = some (x3, G) := by kernel_rfl
theorem cls7 (x0 x1 : MV) (G : Gst) : clsSpec 7 [x0, x1] G = some (.obj 7 [x0, x1], G) := rfl
theorem at7_0 (x0 x1 : MV) (G : Gst) : fAttr "name" G (.obj 7 [x0, x1]) = some (x0, G) := by kernel_rfl
theorem at7_1 (x0 x1 : MV) (G : Gst) : fAttr "args" G (.obj 7 [x0, x1]) = some (x1, G) := by kernel_rfl
theorem cls8 (x0 x1 : MV) (G : Gst) : clsSpec 8 [x0, x1] G = some (.obj 8 [x0, x1], G) := rfl
theorem at8_0 (x0 x1 : MV) (G : Gst) : fAttr "fresh" G (.obj 8 [x0, x1]) = some (x0, G) := by kernel_rfl
theorem at8_1 (x0 x1 : MV) (G : Gst) : fAttr "instead" G (.obj 8 [x0, x1]) = some (x1, G) := by kernel_rfl
theorem at9_0 (x0 x1 : MV) (G : Gst) : fAttr "avoided" G (.obj 9 [x0, x1]) = some (x0, G) := by kernel_rfl
theorem at9_1 (x0 x1 : MV) (G : Gst) : fAttr "numbers" G (.obj 9 [x0, x1]) = some (x1, G) := by kernel_rfl
theorem st0 (a0 x : Slot) (l : List Slot) : (a0 :: l).set 0 x = x :: l := rfl
theorem st1 (a0 a1 x : Slot) (l : List Slot) : (a0 :: a1 :: l).set 1 x = a0 :: x :: l := rfl
theorem st2 (a0 a1 a2 x : Slot) (l : List Slot) : (a0 :: a1 :: a2 :: l).set 2 x = a0 :: a1 :: x :: l := rfl
theorem st3 (a0 a1 a2 a3 x : Slot) (l : List Slot) : (a0 :: a1 :: a2 :: a3 :: l).set 3 x = a0 :: a1 :: a2 :: x :: l := rfl
theorem st4 (a0 a1 a2 a3 a4 x : Slot) (l : List Slot) : (a0 :: a1 :: a2 :: a3 :: a4 :: l).set 4 x = a0 :: a1 :: a2 :: a3 :: x :: l := rfl
theorem st5 (a0 a1 a2 a3 a4 a5 x : Slot) (l : List Slot) : (a0 :: a1 :: a2 :: a3 :: a4 :: a5 :: l).set 5 x = a0 :: a1 :: a2 :: a3 :: a4 :: x :: l := rfl
theorem st6 (a0 a1 a2 a3 a4 a5 a6 x : Slot) (l : List Slot) : (a0 :: a1 :: a2 :: a3 :: a4 :: a5 :: a6 :: l).set 6 x = a0 :: a1 :: a2 :: a3 :: a4 :: a5 :: x :: l := rfl
theorem st7 (a0 a1 a2 a3 a4 a5 a6 a7 x : Slot) (l : List Slot) : (a0 :: a1 :: a2 :: a3 :: a4 :: a5 :: a6 :: a7 :: l).set 7 x = a0 :: a1 :: a2 :: a3 :: a4 :: a5 :: a6 :: x :: l := rfl
theorem st8 (a0 a1 a2 a3 a4 a5 a6 a7 a8 x : Slot) (l : List Slot) : (a0 :: a1 :: a2 :: a3 :: a4 :: a5 :: a6 :: a7 :: a8 :: l).set 8 x = a0 :: a1 :: a2 :: a3 :: a4 :: a5 :: a6 :: a7 :: x :: l := rfl
theorem st9 (a0 a1 a2 a3 a4 a5 a6 a7 a8 a9 x : Slot) (l : List Slot) : (a0 :: a1 :: a2 :: a3 :: a4 :: a5 :: a6 :: a7 :: a8 :: a9 :: l).set 9 x = a0 :: a1 :: a2 :: a3 :: a4 :: a5 :: a6 :: a7 :: a8 :: x :: l := rfl
theorem st10 (a0 a1 a2 a3 a4 a5 a6 a7 a8 a9 a10 x : Slot) (l : List Slot) : (a0 :: a1 :: a2 :: a3 :: a4 :: a5 :: a6 :: a7 :: a8 :: a9 :: a10 :: l).set 10 x = a0 :: a1 :: a2 :: a3 :: a4 :: a5 :: a6 :: a7 :: a8 :: a9 :: x :: l := rfl
theorem st11 (a0 a1 a2 a3 a4 a5 a6 a7 a8 a9 a10 a11 x : Slot) (l : List Slot) : (a0 :: a1 :: a2 :: a3 :: a4 :: a5 :: a6 :: a7 :: a8 :: a9 :: a10 :: a11 :: l).set 11 x = a0 :: a1 :: a2 :: a3 :: a4 :: a5 :: a6 :: a7 :: a8 :: a9 :: a10 :: x :: l := rfl
theorem st12 (a0 a1 a2 a3 a4 a5 a6 a7 a8 a9 a10 a11 a12 x : Slot) (l : List Slot) : (a0 :: a1 :: a2 :: a3 :: a4 :: a5 :: a6 :: a7 :: a8 :: a9 :: a10 :: a11 :: a12 :: l).set 12 x = a0 :: a1 :: a2 :: a3 :: a4 :: a5 :: a6 :: a7 :: a8 :: a9 :: a10 :: a11 :: x :: l := rfl
theorem st13 (a0 a1 a2 a3 a4 a5 a6 a7 a8 a9 a10 a11 a12 a13 x : Slot) (l : List Slot) : (a0 :: a1 :: a2 :: a3 :: a4 :: a5 :: a6 :: a7 :: a8 :: a9 :: a10 :: a11 :: a12 :: a13 :: l).set 13 x = a0 :: a1 :: a2 :: a3 :: a4 :: a5 :: a6 :: a7 :: a8 :: a9 :: a10 :: a11 :: a12 :: x :: l := rfl
theorem r_tn {i : Nat} {m : MV} {ρ ρ₁ : List Slot} (hs : ρ.set i (.val m) = ρ₁) : tName i m ρ = some ρ₁ := by subst hs; rfl
theorem r_tt2 {i j : Nat} {x y : MV} {ρ ρ₁ ρ₂ : List Slot} (h1 : ρ.set i (.val x) = ρ₁) (h2 : ρ₁.set j (.val y) = ρ₂) : tTup [i, j] (.tup [x, y]) ρ = some ρ₂ := by subst h1 h2; rfl
theorem r_tt3 {i j k : Nat} {x y z : MV} {ρ ρ₁ ρ₂ ρ₃ : List Slot} (h1 : ρ.set i (.val x) = ρ₁) (h2 : ρ₁.set j (.val y) = ρ₂) (h3 : ρ₂.set k (.val z) = ρ₃) : tTup [i, j, k] (.tup [x, y, z]) ρ = some ρ₃ := by subst h1 h2 h3; rfl
theorem r_start {ms : List MV} {k : Nat} {ρ : List Slot} (h : ms.map Slot.val ++ List.replicate k .un = ρ) : start ms k = ρ := h
theorem r_cst {n : Nat} {cis : List Nat} {ys : List MV} {ρ ρ₁ : List Slot} (h : .ownL ys :: (List.replicate n .un ++ cis.map (capSlot ρ)) = ρ₁) : compStart n cis ys ρ = ρ₁ := h
theorem isi_t (c : Nat) (G : Gst) (ms : List MV) (h : c < 8) : opIsi c G (.obj c ms) = some (.bool true, G) := by
  have e : (c == c) = true := by simp
  unfold opIsi; simp only; rw [if_pos h, e]
theorem isi_f (c c' : Nat) (G : Gst) (ms : List MV) (h : c < 8) (e : (c == c') = false) : opIsi c' G (.obj c ms) = some (.bool false, G) := by
  unfold opIsi; simp only; rw [if_pos h, e]
theorem po_add (G : Gst) (a b : Int) : pureOp (binMV .Add) G (.int a) (.int b) = some (.int (a + b), G) := rfl
theorem po_sub (G : Gst) (a b c : Nat) (h : a = c + b) : pureOp (binMV .Sub) G (.int a) (.int b) = some (.int c, G) := by
  have e : binMV .Sub (.int a) (.int b) = some (.int ((a : Int) - b)) := rfl
  have e2 : (a : Int) - b = c := by lia
  unfold pureOp; rw [e, e2]
theorem po_eqn (G : Gst) (l : List MV) (b : Bool) (h : l.isEmpty = b) : pureOp (cmpMV .Eq) G (.lst l) (.lst []) = some (.bool b, G) := by
  have e : cmpMV .Eq (.lst l) (.lst []) = some (.bool l.isEmpty) := rfl
  unfold pureOp; rw [e, h]
theorem po_nen (G : Gst) (l : List MV) (b : Bool) (h : (!l.isEmpty) = b) : pureOp (cmpMV .NotEq) G (.lst l) (.lst []) = some (.bool b, G) := by
  have e : cmpMV .NotEq (.lst l) (.lst []) = some (.bool !l.isEmpty) := rfl
  unfold pureOp; rw [e, h]
theorem po_isn (G : Gst) : pureOp (cmpMV .Is) G .none .none = some (.bool true, G) := rfl
theorem po_istn (G : Gst) : pureOp (cmpMV .IsNot) G .none .none = some (.bool false, G) := rfl
theorem po_isl (G : Gst) (l : List MV) : pureOp (cmpMV .Is) G (.lst l) .none = some (.bool false, G) := rfl
theorem po_istl (G : Gst) (l : List MV) : pureOp (cmpMV .IsNot) G (.lst l) .none = some (.bool true, G) := rfl
theorem po_iso (G : Gst) (c : Nat) (l : List MV) : pureOp (cmpMV .Is) G (.obj c l) .none = some (.bool false, G) := rfl
theorem po_isto (G : Gst) (c : Nat) (l : List MV) : pureOp (cmpMV .IsNot) G (.obj c l) .none = some (.bool true, G) := rfl
theorem po_isd (G : Gst) (d : List (Str × MV)) : pureOp (cmpMV .Is) G (.dct d) .none = some (.bool false, G) := rfl
theorem po_istd (G : Gst) (d : List (Str × MV)) : pureOp (cmpMV .IsNot) G (.dct d) .none = some (.bool true, G) := rfl
theorem itRv1 (x0 : MV) : itRev (.lst [x0]) = some [x0] := rfl
theorem itRv2 (x0 x1 : MV) : itRev (.lst [x0, x1]) = some [x1, x0] := rfl
theorem itRv3 (x0 x1 x2 : MV) : itRev (.lst [x0, x1, x2]) = some [x2, x1, x0] := rfl
theorem itRv4 (x0 x1 x2 x3 : MV) : itRev (.lst [x0, x1, x2, x3]) = some [x3, x2, x1, x0] := rfl
theorem po_addl (G : Gst) (a b : List MV) (h : a.length + b.length ≤ room) : pureOp (binMV .Add) G (.lst a) (.lst b) = some (.lst (a ++ b), G) := by
  have e : binMV .Add (.lst a) (.lst b) = some (.lst (a ++ b)) := if_pos h
  unfold pureOp; rw [e]
theorem po_adds (G : Gst) (a b : Str) (h : a.length + b.length ≤ room) : pureOp (binMV .Add) G (.str a) (.str b) = some (.str (a ++ b), G) := by
  have e : binMV .Add (.str a) (.str b) = some (.str (a ++ b)) := if_pos h
  unfold pureOp; rw [e]
theorem po_lt (G : Gst) (a b : Int) (c : Bool) (h : decide (a < b) = c) : pureOp (cmpMV .Lt) G (.int a) (.int b) = some (.bool c, G) := by
  subst h; rfl
theorem po_gt (G : Gst) (a b : Int) (c : Bool) (h : decide (b < a) = c) : pureOp (cmpMV .Gt) G (.int a) (.int b) = some (.bool c, G) := by
  subst h; rfl
theorem po_le (G : Gst) (a b : Int) (c : Bool) (h : decide (a ≤ b) = c) : pureOp (cmpMV .LtE) G (.int a) (.int b) = some (.bool c, G) := by
  subst h; rfl
theorem po_is (G : Gst) (a : MV) (b : Bool) (h : isNone a = b) : pureOp (cmpMV .Is) G a .none = some (.bool b, G) := by subst h; rfl
theorem po_isnot (G : Gst) (a : MV) (b : Bool) (h : (!isNone a) = b) : pureOp (cmpMV .IsNot) G a .none = some (.bool b, G) := by subst h; rfl
theorem po_eq (G : Gst) (a b : MV) (c : Bool) (h : eqMV a b = some c) : pureOp (cmpMV .Eq) G a b = some (.bool c, G) := by
  have e : cmpMV .Eq a b = some (.bool c) := by show (eqMV a b).map MV.bool = _; rw [h]; rfl
  unfold pureOp; rw [e]
theorem po_ne (G : Gst) (a b : MV) (c : Bool) (h : eqMV a b = some (!c)) : pureOp (cmpMV .NotEq) G a b = some (.bool c, G) := by
  have e : cmpMV .NotEq a b = some (.bool c) := by show (eqMV a b).map (fun c => MV.bool (!c)) = _; rw [h]; simp
  unfold pureOp; rw [e]
theorem seqAt_nat {α : Type} {l : List α} {k : Nat} (h : k < 1000000) : seqAt l (k : Int) = l[k]? := by
  unfold seqAt
  rw [if_pos (by lia), if_pos (by lia)]; simp
theorem fIdx_l {G : Gst} {l : List MV} {k : Nat} {x : MV} (h : l[k]? = some x) (hk : k < 1000000) : fIdx G (.lst l) (.int k) = some (x, G) := by
  show (seqAt l (k : Int)).map (fun r => (r, G)) = _; rw [seqAt_nat hk, h]; rfl
theorem fIdx_l0 (G : Gst) (l : List MV) (x : MV) : fIdx G (.lst (x :: l)) (.int 0) = some (x, G) := fIdx_l (k := 0) rfl (by decide)
theorem fIdx_l1 (G : Gst) (l : List MV) (x y : MV) : fIdx G (.lst (x :: y :: l)) (.int 1) = some (y, G) := fIdx_l (k := 1) rfl (by decide)
theorem fIdx_t0 (G : Gst) (l : List MV) (x : MV) : fIdx G (.tup (x :: l)) (.int 0) = some (x, G) := by kernel_rfl
theorem fIdx_t1 (G : Gst) (l : List MV) (x y : MV) : fIdx G (.tup (x :: y :: l)) (.int 1) = some (y, G) := by kernel_rfl
theorem fIdx_t2 (G : Gst) (l : List MV) (x y z : MV) : fIdx G (.tup (x :: y :: z :: l)) (.int 2) = some (z, G) := by kernel_rfl
theorem fIdx_d {G : Gst} {l : List (Str × MV)} {k : Str} {x : MV} (h : mAt l k = some x) : fIdx G (.dct l) (.str k) = some (x, G) := by
  show (mAt l k).map (fun r => (r, G)) = _; rw [h]; rfl
theorem itR0 : itRange (.int 0) = some [] := rfl
theorem itR1 : itRange (.int 1) = some [.int 0] := rfl
theorem itR2 : itRange (.int 2) = some [.int 0, .int 1] := rfl
theorem itR3 : itRange (.int 3) = some [.int 0, .int 1, .int 2] := rfl
theorem opL0 (G : Gst) : opLen [.lst []] G = some (.int 0, G) := rfl
theorem opL1 (x0 : MV) (G : Gst) : opLen [.lst [x0]] G = some (.int 1, G) := rfl
theorem opL2 (x0 x1 : MV) (G : Gst) : opLen [.lst [x0, x1]] G = some (.int 2, G) := rfl
theorem opL3 (x0 x1 x2 : MV) (G : Gst) : opLen [.lst [x0, x1, x2]] G = some (.int 3, G) := rfl
theorem opL4 (x0 x1 x2 x3 : MV) (G : Gst) : opLen [.lst [x0, x1, x2, x3]] G = some (.int 4, G) := rfl
theorem opL5 (x0 x1 x2 x3 x4 : MV) (G : Gst) : opLen [.lst [x0, x1, x2, x3, x4]] G = some (.int 5, G) := rfl
theorem fNeg1 (G : Gst) : fNeg G (.int 1) = some (.int (-1), G) := rfl
theorem eqNil (l : List MV) : eqMV (.lst l) (.lst []) = some l.isEmpty := by unfold eqMV; rfl
theorem seqAt_last {α : Type} (q : List α) (z : α) : seqAt (q ++ [z]) (-1) = some z := by
  unfold seqAt
  rw [if_neg (by lia), if_pos (by rw [List.length_append, List.length_singleton]; lia)]
  have : ((-1 : Int) + ((q ++ [z]).length : Nat)).toNat = q.length := by rw [List.length_append, List.length_singleton]; lia
  rw [this]; simp
theorem fIdx_last {G : Gst} {l q : List MV} {z : MV} (h : l = q ++ [z]) : fIdx G (.lst l) (.int (-1)) = some (z, G) := by
  subst h
  show (seqAt (q ++ [z]) (-1)).map (fun r => (r, G)) = _; rw [seqAt_last]; rfl
theorem opLen_ok {l : List MV} (h : l.length ≤ room) (G : Gst) : opLen [.lst l] G = some (.int l.length, G) := if_pos h
theorem itRange_ok {n : Nat} (h : n ≤ 100000) : itRange (.int n) = some ((List.range n).map fun (k : Nat) => MV.int (k : Int)) := by
  show (if (0 : Int) ≤ n ∧ (n : Int) ≤ 100000 then _ else _) = _
  rw [if_pos ⟨by lia, by lia⟩]; rfl
end Mine
end

section
namespace Mine
open PySem
noncomputable def Pn (t0 t1 : Bool) (g s : Int) (rest : Gst) : Gst := .t t0 :: .t t1 :: .d [("great", .int g), ("small", .int s)] :: rest
theorem fIdx_g (t0 t1 : Bool) (g s : Int) (rest : Gst) : fIdx (Pn t0 t1 g s rest) (.glo 2) (.str "great") = some (.int g, Pn t0 t1 g s rest) := by kernel_rfl
theorem fIdx_s (t0 t1 : Bool) (g s : Int) (rest : Gst) : fIdx (Pn t0 t1 g s rest) (.glo 2) (.str "small") = some (.int s, Pn t0 t1 g s rest) := by kernel_rfl
theorem sg (t0 t1 : Bool) (g s x : Int) (rest : Gst) : (Pn t0 t1 g s rest).set 2 (.d (mSet [("great", .int g), ("small", .int s)] "great" (.int x))) = Pn t0 t1 x s rest := by kernel_rfl
theorem pss (t0 t1 : Bool) (g s x : Int) (rest : Gst) : (Pn t0 t1 g s rest).set 2 (.d (mSet [("great", .int g), ("small", .int s)] "small" (.int x))) = Pn t0 t1 g x rest := by kernel_rfl
theorem r_setPg {s s₁ s₂ : Ab} {ρ : List Slot} {fo f g : Ab → Option (MV × Ab)} {t0 t1 : Bool} {a b x : Int} {rest : Gst} (h : f s = some (.int x, s₁)) (h1 : fo s₁ = some (.glo 2, s₂)) (h2 : g s₂ = some (.str "great", ρ, Pn t0 t1 a b rest)) :
    sSetG fo f g s = some (.nxt, ρ, Pn t0 t1 x b rest) := by
  rw [← sg t0 t1 a b x rest]
  exact r_setG h h1 h2 rfl (nle9 rfl)
theorem r_setPs {s s₁ s₂ : Ab} {ρ : List Slot} {fo f g : Ab → Option (MV × Ab)} {t0 t1 : Bool} {a b x : Int} {rest : Gst} (h : f s = some (.int x, s₁)) (h1 : fo s₁ = some (.glo 2, s₂)) (h2 : g s₂ = some (.str "small", ρ, Pn t0 t1 a b rest)) :
    sSetG fo f g s = some (.nxt, ρ, Pn t0 t1 a x rest) := by
  rw [← pss t0 t1 a b x rest]
  exact r_setG h h1 h2 rfl (nle9 rfl)
theorem po_mod (G : Gst) (a b : Int) (r : Int) (h : b ≠ 0) (hr : a.fmod b = r) : pureOp (binMV .Mod) G (.int a) (.int b) = some (.int r, G) := by
  have e : binMV .Mod (.int a) (.int b) = some (.int (a.fmod b)) := if_neg h
  unfold pureOp; rw [e, hr]
theorem po_div (G : Gst) (a b : Int) (h : b ≠ 0 ∧ b.natAbs < 1073741824) : pureOp (binMV .FloorDiv) G (.int a) (.int b) = some (.int (a.fdiv b), G) := by
  have e : binMV .FloorDiv (.int a) (.int b) = some (.int (a.fdiv b)) := if_pos h
  unfold pureOp; rw [e]
theorem po_mul (G : Gst) (a b : Int) (h : Builtin.Int.intBits a ≤ 64 ∨ Builtin.Int.intBits b ≤ 64) : pureOp (binMV .Mult) G (.int a) (.int b) = some (.int (a * b), G) := by
  have e : binMV .Mult (.int a) (.int b) = some (.int (a * b)) := if_pos h
  unfold pureOp; rw [e]
theorem next_ok (t0 t1 : Bool) (g s : Int) (rest : Gst) (m : Nat) (hm : 0 < m ∧ m < 1000000) :
    ∃ (k : Nat) (g' s' : Int), k < m ∧ S_law_next [.glo 2, .int m] (Pn t0 t1 g s rest) = some (.int k, Pn t0 t1 g' s' rest) := by
  have key : ∀ x : Int, ∃ k : Nat, k < m ∧ x.fmod m = k := fun x => by
    have h1 : 0 ≤ x.fmod m := Int.fmod_nonneg_of_pos _ (by lia)
    have h2 : x.fmod m < m := Int.fmod_lt_of_pos _ (by lia)
    exact ⟨(x.fmod m).toNat, by lia, by lia⟩
  by_cases hg : (0 : Int) < g
  · obtain ⟨k, h1, h2⟩ := key g
    refine ⟨k, g.fdiv m, s, h1, ?_⟩
    unfold S_law_next F_law_next
    exact r_spec rfl (r_start rfl) (qs9 (r_if (qb9 (q29 (q29 (qv9 rfl) qc9 (fIdx_g ..)) qc9 (po_gt _ _ _ true (decide_eq_true hg)))) (ic_t (qs9 (r_set (q29 (q29 (qv9 rfl) qc9 (fIdx_g ..)) (qv9 rfl) (po_mod _ _ _ _ (by lia) h2)) (st2 ..)) (kn9 (qs9 (r_setPg (a := g) (q29 (q29 (qv9 rfl) qc9 (fIdx_g ..)) (qv9 rfl) (po_div _ _ _ (by lia))) (qv9 rfl) qc9) (kn9 (qs9 (r_ret (qv9 rfl)) k_ret))))))) k_ret)
  · obtain ⟨k, h1, h2⟩ := key (((s * 7919 + 104729).fmod 1000000007).fdiv 61)
    refine ⟨k, g, (s * 7919 + 104729).fmod 1000000007, h1, ?_⟩
    unfold S_law_next F_law_next
    exact r_spec rfl (r_start rfl) (qs9 (r_if (qb9 (q29 (q29 (qv9 rfl) qc9 (fIdx_g ..)) qc9 (po_gt _ _ _ false (decide_eq_false hg)))) (ic_f qn9)) (kn9 (qs9 (r_setPs (b := s) (q29 (q29 (q29 (q29 (qv9 rfl) qc9 (fIdx_s ..)) qc9 (po_mul _ _ _ (.inr (by decide +kernel)))) qc9 (po_add ..)) qc9 (po_mod _ _ _ _ (by decide) rfl)) (qv9 rfl) qc9) (kn9 (qs9 (r_ret (q29 (q29 (q29 (qv9 rfl) qc9 (fIdx_s ..)) qc9 (po_div _ _ _ (by decide))) (qv9 rfl) (po_mod _ _ _ _ (by lia) h2))) k_ret)))))
inductive At where
  | v (x : Str)
  | l (i : Int)
noncomputable def At.enc : At → MV
  | .v x => .obj 0 [.str x]
  | .l i => .obj 1 [.str "int", .int i]
noncomputable def PL : List Str := ["p", "q", "r", "s", "m", "a", "b"]
noncomputable def At.Ok : At → Prop
  | .v x => x ∈ PL
  | .l _ => True
theorem atom_ok (t0 t1 : Bool) (g s : Int) (rest : Gst) (ns : List Str) (hn : ns.length < 1000) (hP : ∀ x ∈ ns, x ∈ PL) :
    ∃ (a : At) (g' s' : Int), a.Ok ∧ S_law_atom [.glo 2, .lst (ns.map .str)] (Pn t0 t1 g s rest) = some (a.enc, Pn t0 t1 g' s' rest) := by
  obtain ⟨k, g', s', hk, e⟩ := next_ok t0 t1 g s rest (ns.length + 2 + 2) ⟨by lia, by lia⟩
  have hr : room = 100000 := rfl
  have el : (ns.map MV.str).length = ns.length := List.length_map ..
  have e1 : ∀ G, pureOp (binMV .Add) G (.lst (ns.map .str)) (.lst [MV.str "p", .str "q"]) = some (.lst ((ns ++ [("p" : Str), "q"]).map .str), G) := fun G => by
    rw [po_addl _ _ _ (by rw [el]; show ns.length + 2 ≤ room; lia), List.map_append]; rfl
  have e3 : ((ns ++ [("p" : Str), "q"]).map MV.str).length = ns.length + 2 := by rw [List.length_map, List.length_append]; rfl
  have e4 : ∀ G, opLen [.lst ((ns ++ [("p" : Str), "q"]).map MV.str)] G = some (.int (ns.length + 2 : Nat), G) := fun G => by rw [opLen_ok (by rw [e3]; lia), e3]
  have e5 : (((ns.length + 2 : Nat) : Int) + 2) = ((ns.length + 2 + 2 : Nat) : Int) := by lia
  rw [← e5] at e
  by_cases hk2 : k < ns.length + 2
  · have hk3 : k < (ns ++ [("p" : Str), "q"]).length := by rw [List.length_append]; exact hk2
    obtain ⟨x, hx⟩ : ∃ x, (ns ++ [("p" : Str), "q"])[k]? = some x := ⟨_, List.getElem?_eq_getElem hk3⟩
    have e8 : ∀ G, fIdx G (.lst ((ns ++ [("p" : Str), "q"]).map MV.str)) (.int k) = some (.str x, G) := fun G => fIdx_l (by rw [List.getElem?_map, hx]; rfl) (by lia)
    refine ⟨.v x, g', s', ?_, ?_⟩
    · rcases List.mem_append.mp (List.mem_of_getElem? hx) with h | h
      · exact hP _ h
      · simp only [List.mem_cons, List.not_mem_nil, or_false] at h
        show x ∈ PL
        rcases h with rfl | rfl <;> simp [PL]
    · unfold S_law_atom F_law_atom At.enc
      exact r_spec rfl (r_start rfl) (qs9 (r_set (q29 (qv9 rfl) (r_lst (ql9 qc9 (ql9 qc9 q09)) (nle9 rfl)) (e1 ..)) (st2 ..)) (kn9 (qs9 (r_set (qa9 (ql9 (qv9 rfl) (ql9 (q29 (qa9 (ql9 (qv9 rfl) q09) (e4 ..)) qc9 (po_add ..)) q09)) e) (st3 ..)) (kn9 (qs9 (r_ret (r_fif (qb9 (q29 (qv9 rfl) (qa9 (ql9 (qv9 rfl) q09) (e4 ..)) (po_lt _ _ _ true (decide_eq_true (by lia))))) (ic_t (qa9 (ql9 (q29 (qv9 rfl) (qv9 rfl) (e8 ..)) q09) (cls0 ..))))) k_ret)))))
  · refine ⟨.l (10 + k), g', s', trivial, ?_⟩
    unfold S_law_atom F_law_atom At.enc
    exact r_spec rfl (r_start rfl) (qs9 (r_set (q29 (qv9 rfl) (r_lst (ql9 qc9 (ql9 qc9 q09)) (nle9 rfl)) (e1 ..)) (st2 ..)) (kn9 (qs9 (r_set (qa9 (ql9 (qv9 rfl) (ql9 (q29 (qa9 (ql9 (qv9 rfl) q09) (e4 ..)) qc9 (po_add ..)) q09)) e) (st3 ..)) (kn9 (qs9 (r_ret (r_fif (qb9 (q29 (qv9 rfl) (qa9 (ql9 (qv9 rfl) q09) (e4 ..)) (po_lt _ _ _ false (decide_eq_false (by lia))))) (ic_f (qa9 (ql9 qc9 (ql9 (q29 qc9 (qv9 rfl) (po_add ..)) q09)) (cls1 ..))))) k_ret)))))
structure Cl where
  name : Str
  args : List At
noncomputable def Cl.enc (c : Cl) : MV := .obj 7 [.str c.name, .lst (c.args.map At.enc)]
noncomputable def Cl.size (x : Str) : Nat := if x = "A" then 0 else if x = "B" then 1 else if x = "C" then 2 else 3
structure Cl.Ok (c : Cl) : Prop where
  name : c.name ∈ [("A" : Str), "B", "C", "D"]
  size : c.args.length = Cl.size c.name
  args : ∀ a ∈ c.args, a.Ok
set_option maxHeartbeats 1000000 in
theorem cell_ok (t0 t1 : Bool) (g s : Int) (rest : Gst) (ns : List Str) (hn : ns.length < 1000) (hP : ∀ x ∈ ns, x ∈ PL) :
    ∃ (c : Cl) (g' s' : Int), c.Ok ∧ S_law_cell [.glo 2, .lst (ns.map .str)] (Pn t0 t1 g s rest) = some (c.enc, Pn t0 t1 g' s' rest) := by
  obtain ⟨k, g0, s0, hk, e⟩ := next_ok t0 t1 g s rest 4 ⟨by decide, by decide⟩
  have e' : S_law_next [.glo 2, .int 4] (Pn t0 t1 g s rest) = some (.int k, Pn t0 t1 g0 s0 rest) := e
  obtain ⟨a1, g1, s1, o1, e1⟩ := atom_ok t0 t1 g0 s0 rest ns hn hP
  obtain ⟨a2, g2, s2, o2, e2⟩ := atom_ok t0 t1 g1 s1 rest ns hn hP
  obtain ⟨a3, g3, s3, o3, e3⟩ := atom_ok t0 t1 g2 s2 rest ns hn hP
  have f0 : ∀ G, fIdx G (.str "ABCD") (.int (0 : Nat)) = some (.str "A", G) := fun G => by kernel_rfl
  have f1 : ∀ G, fIdx G (.str "ABCD") (.int (1 : Nat)) = some (.str "B", G) := fun G => by kernel_rfl
  have f2 : ∀ G, fIdx G (.str "ABCD") (.int (2 : Nat)) = some (.str "C", G) := fun G => by kernel_rfl
  have f3 : ∀ G, fIdx G (.str "ABCD") (.int (3 : Nat)) = some (.str "D", G) := fun G => by kernel_rfl
  match k, hk with
  | 0, _ =>
    refine ⟨⟨"A", []⟩, g0, s0, ⟨by simp, by kernel_rfl, by simp⟩, ?_⟩
    unfold S_law_cell F_law_cell Cl.enc
    exact r_spec rfl (r_start rfl) (qs9 (r_set (q29 qc9 (qa9 (ql9 (qv9 rfl) (ql9 qc9 q09)) e') (f0 ..)) (st2 ..)) (kn9 (qs9 (r_ret (qa9 (ql9 (qv9 rfl) (ql9 (r_comp (r_it rfl itR0) (r_cst rfl) r_comp0) q09)) (cls7 ..))) rfl)))
  | 1, _ =>
    refine ⟨⟨"B", [a1]⟩, g1, s1, ⟨by simp, by kernel_rfl, by simp [o1]⟩, ?_⟩
    unfold S_law_cell F_law_cell Cl.enc
    exact r_spec rfl (r_start rfl) (qs9 (r_set (q29 qc9 (qa9 (ql9 (qv9 rfl) (ql9 qc9 q09)) e') (f1 ..)) (st2 ..)) (kn9 (qs9 (r_ret (qa9 (ql9 (qv9 rfl) (ql9 (r_comp (r_it rfl itR1) (r_cst rfl) (r_comp1 (r_tn (st1 ..)) (qa9 (ql9 (qv9 rfl) (ql9 (qv9 rfl) q09)) e1) rfl (nle9 rfl) (st0 ..) r_comp0)) q09)) (cls7 ..))) rfl)))
  | 2, _ =>
    refine ⟨⟨"C", [a1, a2]⟩, g2, s2, ⟨by simp, by kernel_rfl, by simp [o1, o2]⟩, ?_⟩
    unfold S_law_cell F_law_cell Cl.enc
    exact r_spec rfl (r_start rfl) (qs9 (r_set (q29 qc9 (qa9 (ql9 (qv9 rfl) (ql9 qc9 q09)) e') (f2 ..)) (st2 ..)) (kn9 (qs9 (r_ret (qa9 (ql9 (qv9 rfl) (ql9 (r_comp (r_it rfl itR2) (r_cst rfl) (r_comp1 (r_tn (st1 ..)) (qa9 (ql9 (qv9 rfl) (ql9 (qv9 rfl) q09)) e1) rfl (nle9 rfl) (st0 ..) (r_comp1 (r_tn (st1 ..)) (qa9 (ql9 (qv9 rfl) (ql9 (qv9 rfl) q09)) e2) rfl (nle9 rfl) (st0 ..) r_comp0))) q09)) (cls7 ..))) rfl)))
  | 3, _ =>
    refine ⟨⟨"D", [a1, a2, a3]⟩, g3, s3, ⟨by simp, by kernel_rfl, by simp [o1, o2, o3]⟩, ?_⟩
    unfold S_law_cell F_law_cell Cl.enc
    exact r_spec rfl (r_start rfl) (qs9 (r_set (q29 qc9 (qa9 (ql9 (qv9 rfl) (ql9 qc9 q09)) e') (f3 ..)) (st2 ..)) (kn9 (qs9 (r_ret (qa9 (ql9 (qv9 rfl) (ql9 (r_comp (r_it rfl itR3) (r_cst rfl) (r_comp1 (r_tn (st1 ..)) (qa9 (ql9 (qv9 rfl) (ql9 (qv9 rfl) q09)) e1) rfl (nle9 rfl) (st0 ..) (r_comp1 (r_tn (st1 ..)) (qa9 (ql9 (qv9 rfl) (ql9 (qv9 rfl) q09)) e2) rfl (nle9 rfl) (st0 ..) (r_comp1 (r_tn (st1 ..)) (qa9 (ql9 (qv9 rfl) (ql9 (qv9 rfl) q09)) e3) rfl (nle9 rfl) (st0 ..) r_comp0)))) q09)) (cls7 ..))) rfl)))
end Mine
end

section
namespace Mine
open PySem
inductive Sm where
  | atm (a : At)
  | con (n : Str) (as : List At)
noncomputable def Sm.enc : Sm → MV
  | .atm a => a.enc
  | .con n as => .obj 7 [.str n, .lst (as.map At.enc)]
noncomputable def Sm.Ok : Sm → Prop
  | .atm a => a.Ok
  | .con _ as => as.length ≤ 3 ∧ ∀ a ∈ as, a.Ok
noncomputable def Sm.Wf : Sm → Prop
  | .atm _ => True
  | .con _ as => as.length ≤ 3
theorem Sm.Ok.wf {b : Sm} (h : b.Ok) : b.Wf := by
  cases b with
  | atm a => trivial
  | con n as => exact h.1
noncomputable def IsT (b : Sm) : Prop := ∃ as : List At, as.length = 3 ∧ b = .con "T" as
inductive Ky where
  | con (x : Str)
  | lit
noncomputable def Ky.enc : Ky → MV
  | .con x => .tup [.str "con", .str x]
  | .lit => .tup [.str "lit", .str "int", .int 7]
structure Al where
  key : Ky
  fs : List Str
  body : Sm
noncomputable def Al.enc (a : Al) : MV := .obj 5 [a.key.enc, .lst (a.fs.map .str), a.body.enc]
structure Al.Ok (a : Al) : Prop where
  fs : ∀ x ∈ a.fs, x ∈ PL
  len : a.fs.length ≤ 3
  body : a.body.Ok
  key : ∀ x, a.key = .con x → a.fs.length = Cl.size x
  kk : ∀ x, a.key = .con x → x ∈ [("A" : Str), "B", "C", "D"]
  con : ∃ n as, a.body = .con n as
  lit : a.key = .lit → a.fs = []
structure Cs where
  own : Str
  alts : List Al
  other : Sm
structure Cs.Ok (c : Cs) : Prop where
  own : c.own ∈ PL
  len : c.alts.length ≤ 5
  alts : ∀ a ∈ c.alts, a.Ok
  other : c.other.Ok
noncomputable def Cs.enc (v : MV) (c : Cs) : MV := .obj 6 [v, .str c.own, .lst (c.alts.map Al.enc), c.other.enc]
theorem end_ok (t0 t1 : Bool) (g s : Int) (rest : Gst) (ns : List Str) (hn : ns.length < 1000) (hP : ∀ x ∈ ns, x ∈ PL) :
    ∃ (as : List At) (g' s' : Int), (as.length ≤ 3 ∧ ∀ a ∈ as, a.Ok) ∧ as.length = 3 ∧ S_law_end [.glo 2, .lst (ns.map .str)] (Pn t0 t1 g s rest) = some (Sm.enc (.con "T" as), Pn t0 t1 g' s' rest) := by
  obtain ⟨a1, g1, s1, o1, e1⟩ := atom_ok t0 t1 g s rest ns hn hP
  obtain ⟨a2, g2, s2, o2, e2⟩ := atom_ok t0 t1 g1 s1 rest ns hn hP
  obtain ⟨a3, g3, s3, o3, e3⟩ := atom_ok t0 t1 g2 s2 rest ns hn hP
  refine ⟨[a1, a2, a3], g3, s3, ⟨by simp, by simp [o1, o2, o3]⟩, rfl, ?_⟩
  unfold S_law_end F_law_end Sm.enc
  exact r_spec rfl (r_start rfl) (qs9 (r_ret (qa9 (ql9 qc9 (ql9 (r_comp (r_it qc9 itR3) (r_cst rfl) (r_comp1 (r_tn (st1 ..)) (qa9 (ql9 (qv9 rfl) (ql9 (qv9 rfl) q09)) e1) rfl (nle9 rfl) (st0 ..) (r_comp1 (r_tn (st1 ..)) (qa9 (ql9 (qv9 rfl) (ql9 (qv9 rfl) q09)) e2) rfl (nle9 rfl) (st0 ..) (r_comp1 (r_tn (st1 ..)) (qa9 (ql9 (qv9 rfl) (ql9 (qv9 rfl) q09)) e3) rfl (nle9 rfl) (st0 ..) r_comp0)))) q09)) (cls7 ..))) rfl)
theorem r_base {s s₁ : Ab} {ms : List (Str × MV)} {f : Ab → Option (MV × Ab)} {k : Str} {r : MV} (h : f s = some (.str k, s₁)) (hm : mAt ms k = some r) : fBase ms f s = some (r, s₁) := by
  unfold fBase; rw [h]; simp only; rw [hm]
theorem takeMV_int (l : List MV) (k : Int) (h1 : 0 ≤ k) (h2 : k < 1000000) (hl : l.length ≤ room) : takeMV (.lst l) (.int k) = some (.lst (l.take k.toNat)) := if_pos ⟨h1, h2, hl⟩
theorem takeMV_nat (l : List MV) (k : Nat) (h1 : 0 ≤ (k : Int)) (h2 : (k : Int) < 1000000) (hl : l.length ≤ room) : takeMV (.lst l) (.int k) = some (.lst (l.take k)) := by
  have e := takeMV_int l k h1 h2 hl
  rw [Int.toNat_natCast] at e
  exact e
theorem po_takeI (G : Gst) (l : List MV) (k : Int) (r : MV) (h : takeMV (.lst l) (.int k) = some r) : pureOp takeMV G (.lst l) (.int k) = some (r, G) := by
  unfold pureOp; rw [h]
theorem po_take (G : Gst) (l : List MV) (k : Nat) (hk : k < 1000000) (hl : l.length ≤ room) : pureOp takeMV G (.lst l) (.int k) = some (.lst (l.take k), G) := po_takeI _ _ _ _ (takeMV_nat l k (by lia) (by lia) hl)
noncomputable def outBody : Ab → Option (Fl × Ab) := (sSeq (sIf (asBool (f2 (fA9 S_law_next (lC9 (gv9 0) (lC9 (fK9 (.int 3)) l09))) (fK9 (.int 0)) (pureOp (cmpMV .Gt)))) (sSeq (sSet 6 (f2 (fLst (lC9 (fK9 (.str "q")) (lC9 (fK9 (.str "r")) (lC9 (fK9 (.str "s")) l09)))) (fBase sizes (gv9 5)) (pureOp takeMV))) (sSeq (sApp 4 (fA9 (clsSpec 5) (lC9 (fTup (lC9 (fK9 (.str "con")) (lC9 (gv9 5) l09))) (lC9 (gv9 6) (lC9 (fA9 S_law_end (lC9 (gv9 0) (lC9 (f2 (f2 (fLst (lC9 (gv9 3) l09)) (gv9 6) (pureOp (binMV .Add))) (gv9 6) (pureOp (binMV .Add))) l09))) l09))))) sNil)) sNil) sNil)
noncomputable def OS (v : MV) (few : Nat) (own : Str) (l : List MV) (s5 s6 : Slot) : List Slot := [.val (.glo 2), .val v, .val (.int few), .val (.str own), .ownL l, s5, s6]
set_option maxHeartbeats 1000000 in
theorem out_step (t0 t1 : Bool) (rest : Gst) (v : MV) (few : Nat) (own X : Str) (n : Nat) (fs : List Str) (hown : own ∈ PL) (hX : X ∈ [("A" : Str), "B", "C", "D"]) (hm : mAt sizes X = some (.int n)) (ht : [MV.str "q", .str "r", .str "s"].take n = fs.map .str)
    (hn : n ≤ 3) (hfs : ∀ x ∈ fs, x ∈ PL) (hl : fs.length = Cl.size X) (hl3 : fs.length ≤ 3) (k : Nat) (als : List Al) (g s : Int) (s5 s6 : Slot) (hals : ∀ a ∈ als, a.Ok ∧ IsT a.body) (hk : als.length ≤ k) (hk2 : k ≤ 100) :
    ∃ (als' : List Al) (s6' : Slot) (g' s' : Int), (∀ a ∈ als', a.Ok ∧ IsT a.body) ∧ als'.length ≤ k + 1 ∧
      outBody ((OS v few own (als.map Al.enc) s5 s6).set 5 (.val (.str X)), Pn t0 t1 g s rest) = some (.nxt, OS v few own (als'.map Al.enc) (.val (.str X)) s6', Pn t0 t1 g' s' rest) := by
  have hr : room = 100000 := rfl
  obtain ⟨d, g1, s1, hd, e1⟩ := next_ok t0 t1 g s rest 3 ⟨by decide, by decide⟩
  have e1 : S_law_next [.glo 2, .int 3] (Pn t0 t1 g s rest) = some (.int d, Pn t0 t1 g1 s1 rest) := e1
  by_cases h0 : d = 0
  · subst h0
    refine ⟨als, s6, g1, s1, hals, by lia, ?_⟩
    unfold outBody OS
    exact qs9 (r_if (qb9 (q29 (qa9 (ql9 (qv9 rfl) (ql9 qc9 q09)) e1) qc9 (po_gt _ _ _ false (by decide)))) (ic_f qn9)) (kn9 rfl)
  · have p1 : ∀ x ∈ ([own] ++ fs) ++ fs, x ∈ PL := fun x hx => by
      simp only [List.mem_append, List.mem_singleton] at hx
      rcases hx with (rfl | h) | h
      · exact hown
      · exact hfs _ h
      · exact hfs _ h
    obtain ⟨as, g2, s2, o2, l2, e2⟩ := end_ok t0 t1 g1 s1 rest (([own] ++ fs) ++ fs) (by simp; lia) p1
    refine ⟨als ++ [⟨.con X, fs, .con "T" as⟩], .val (.lst (fs.map .str)), g2, s2, ?_, by simp; lia, ?_⟩
    · intro a ha
      rcases List.mem_append.mp ha with h | h
      · exact hals a h
      · rw [List.mem_singleton.mp h]
        exact ⟨⟨hfs, hl3, o2, fun x e => (by cases e; exact hl), fun x e => (by cases e; exact hX), ⟨_, _, rfl⟩, fun e => (by cases e)⟩, as, l2, rfl⟩
    · have q1 : ∀ G, pureOp takeMV G (.lst [MV.str "q", .str "r", .str "s"]) (.int n) = some (.lst (fs.map .str), G) := fun G => by
        rw [po_take _ _ _ (by lia) (nle9 rfl), ht]
      have q2 : ∀ G, pureOp (binMV .Add) G (.lst [.str own]) (.lst (fs.map .str)) = some (.lst (([own] ++ fs).map .str), G) := fun G => by
        rw [po_addl _ _ _ (by rw [List.length_map]; show 1 + fs.length ≤ room; lia), List.map_append]; rfl
      have q3 : ∀ G, pureOp (binMV .Add) G (.lst (([own] ++ fs).map .str)) (.lst (fs.map .str)) = some (.lst ((([own] ++ fs) ++ fs).map .str), G) := fun G => by
        rw [po_addl _ _ _ (by rw [List.length_map, List.length_map, List.length_append]; show 1 + fs.length + fs.length ≤ room; lia), List.map_append (l₁ := [own] ++ fs)]
      have q4 : (als ++ [(⟨.con X, fs, .con "T" as⟩ : Al)]).map Al.enc = als.map Al.enc ++ [Al.enc ⟨.con X, fs, .con "T" as⟩] := by rw [List.map_append]; rfl
      have q5 : (als.map Al.enc).length ≤ room := by rw [List.length_map]; lia
      rw [q4]
      unfold outBody OS
      exact qs9 (r_if (qb9 (q29 (qa9 (ql9 (qv9 rfl) (ql9 qc9 q09)) e1) qc9 (po_gt _ _ _ true (decide_eq_true (by lia))))) (ic_t (qs9 (r_set (q29 (r_lst (ql9 qc9 (ql9 qc9 (ql9 qc9 q09))) (nle9 rfl)) (r_base (qv9 rfl) hm) (q1 ..)) rfl) (kn9 (qs9 (r_app rfl (qa9 (ql9 (r_tup (ql9 qc9 (ql9 (qv9 rfl) q09)) (nle9 rfl)) (ql9 (qv9 rfl) (ql9 (qa9 (ql9 (qv9 rfl) (ql9 (q29 (q29 (r_lst (ql9 (qv9 rfl) q09) (nle9 rfl)) (qv9 rfl) (q2 ..)) (qv9 rfl) (q3 ..)) q09)) e2) q09))) (cls5 ..)) rfl q5 rfl) (kn9 qn9)))))) (kn9 rfl)
noncomputable def inOther : Ab → Option (Fl × Ab) := (sSet 3 (fIf (asBool (f2 (fA9 S_law_next (lC9 (gv9 0) (lC9 (fK9 (.int 3)) l09))) (fK9 (.int 0)) (pureOp (cmpMV .Eq)))) (fA9 (clsSpec 1) (lC9 (fK9 (.str "int")) (lC9 (fK9 (.int 7)) l09))) (fA9 S_law_cell (lC9 (gv9 0) (lC9 (fLst (lC9 (gv9 1) l09)) l09)))))
theorem eq0_f {d : Nat} (h : ¬ d = 0) : eqMV (.int d) (.int 0) = some false := by
  have : ((d : Int) == 0) = false := by simp; lia
  show some ((d : Int) == 0) = _
  rw [this]
noncomputable def outLit : Ab → Option (Fl × Ab) := (sIf (asBool (f2 (fA9 S_law_next (lC9 (gv9 0) (lC9 (fK9 (.int 2)) l09))) (fK9 (.int 0)) (pureOp (cmpMV .Eq)))) (sSeq (sApp 4 (fA9 (clsSpec 5) (lC9 (fTup (lC9 (fK9 (.str "lit")) (lC9 (fK9 (.str "int")) (lC9 (fK9 (.int 7)) l09)))) (lC9 (fLst l09) (lC9 (fA9 S_law_end (lC9 (gv9 0) (lC9 (fLst (lC9 (gv9 3) l09)) l09))) l09))))) sNil) sNil)
set_option maxHeartbeats 1000000 in
theorem lit_step (t0 t1 : Bool) (rest : Gst) (v : MV) (few : Nat) (own : Str) (hown : own ∈ PL) (k : Nat) (als : List Al) (g s : Int) (s5 s6 : Slot) (hals : ∀ a ∈ als, a.Ok ∧ IsT a.body) (hk : als.length ≤ k) (hk2 : k ≤ 100) :
    ∃ (als' : List Al) (g' s' : Int), (∀ a ∈ als', a.Ok ∧ IsT a.body) ∧ als'.length ≤ k + 1 ∧
      outLit (OS v few own (als.map Al.enc) s5 s6, Pn t0 t1 g s rest) = some (.nxt, OS v few own (als'.map Al.enc) s5 s6, Pn t0 t1 g' s' rest) := by
  have hr : room = 100000 := rfl
  obtain ⟨d, g1, s1, hd, e1⟩ := next_ok t0 t1 g s rest 2 ⟨by decide, by decide⟩
  have e1 : S_law_next [.glo 2, .int 2] (Pn t0 t1 g s rest) = some (.int d, Pn t0 t1 g1 s1 rest) := e1
  by_cases h0 : d = 0
  · subst h0
    obtain ⟨as, g2, s2, o2, l2, e2⟩ := end_ok t0 t1 g1 s1 rest [own] (by simp) (by simpa using hown)
    have e2 : S_law_end [.glo 2, .lst [.str own]] (Pn t0 t1 g1 s1 rest) = some (Sm.enc (.con "T" as), Pn t0 t1 g2 s2 rest) := e2
    refine ⟨als ++ [⟨.lit, [], .con "T" as⟩], g2, s2, ?_, by simp; lia, ?_⟩
    · intro a ha
      rcases List.mem_append.mp ha with h | h
      · exact hals a h
      · rw [List.mem_singleton.mp h]
        exact ⟨⟨fun x hx => (nomatch hx), Nat.zero_le _, o2, fun x e => (by cases e), fun x e => (by cases e), ⟨_, _, rfl⟩, fun _ => rfl⟩, as, l2, rfl⟩
    · have q4 : (als ++ [(⟨.lit, [], .con "T" as⟩ : Al)]).map Al.enc = als.map Al.enc ++ [Al.enc ⟨.lit, [], .con "T" as⟩] := by rw [List.map_append]; rfl
      have q5 : (als.map Al.enc).length ≤ room := by rw [List.length_map]; lia
      rw [q4]
      unfold outLit OS
      exact r_if (qb9 (q29 (qa9 (ql9 (qv9 rfl) (ql9 qc9 q09)) e1) qc9 (po_eq _ _ _ true rfl))) (ic_t (qs9 (r_app rfl (qa9 (ql9 (r_tup (ql9 qc9 (ql9 qc9 (ql9 qc9 q09))) (nle9 rfl)) (ql9 (r_lst q09 (nle9 rfl)) (ql9 (qa9 (ql9 (qv9 rfl) (ql9 (r_lst (ql9 (qv9 rfl) q09) (nle9 rfl)) q09)) e2) q09))) (cls5 ..)) rfl q5 (st4 ..)) (kn9 rfl)))
  · refine ⟨als, g1, s1, hals, by lia, ?_⟩
    unfold outLit OS
    exact r_if (qb9 (q29 (qa9 (ql9 (qv9 rfl) (ql9 qc9 q09)) e1) qc9 (po_eq _ _ _ false (eq0_f h0)))) (ic_f qn9)
theorem itABCD : itMV (.str "ABCD") = some [.str "A", .str "B", .str "C", .str "D"] := by kernel_rfl
theorem memOut {P : Al → Prop} : ∀ {als : List Al} {k : Nat}, (∀ a ∈ als, P a) → ∀ a ∈ als.take k, P a := fun h a ha => h a (List.mem_of_mem_take ha)
set_option maxHeartbeats 2000000 in
theorem outer_ok (t0 t1 : Bool) (rest : Gst) (v : MV) (few : Nat) (hf : few ≤ 5) (g s : Int) :
    ∃ (c : Cs) (g' s' : Int), c.Ok ∧ (∀ a ∈ c.alts, IsT a.body) ∧ IsT c.other ∧ S_law_outer [.glo 2, v, .int few] (Pn t0 t1 g s rest) = some (c.enc v, Pn t0 t1 g' s' rest) := by
  have hr : room = 100000 := rfl
  obtain ⟨d, g1, s1, hd, e1⟩ := next_ok t0 t1 g s rest 3 ⟨by decide, by decide⟩
  have e1 : S_law_next [.glo 2, .int 3] (Pn t0 t1 g s rest) = some (.int d, Pn t0 t1 g1 s1 rest) := e1
  obtain ⟨own, hown, eo⟩ : ∃ own : Str, own ∈ PL ∧ ∀ G, fIdx G (.str "pqr") (.int d) = some (.str own, G) := by
    match d, hd with
    | 0, _ => exact ⟨"p", by simp [PL], fun G => by kernel_rfl⟩
    | 1, _ => exact ⟨"q", by simp [PL], fun G => by kernel_rfl⟩
    | 2, _ => exact ⟨"r", by simp [PL], fun G => by kernel_rfl⟩
  obtain ⟨lA, xA, gA, sA, oA, nA, eA⟩ := out_step t0 t1 rest v few own "A" 0 [] hown (by simp) rfl rfl (by lia) (by simp) (by kernel_rfl) (by simp) 0 [] g1 s1 .un .un (by simp) (by simp) (by lia)
  obtain ⟨lB, xB, gB, sB, oB, nB, eB⟩ := out_step t0 t1 rest v few own "B" 1 ["q"] hown (by simp) rfl rfl (by lia) (by simp [PL]) (by kernel_rfl) (by simp) 1 lA gA sA (.val (.str "A")) xA oA nA (by lia)
  obtain ⟨lC, xC, gC, sC, oC, nC, eC⟩ := out_step t0 t1 rest v few own "C" 2 ["q", "r"] hown (by simp) rfl rfl (by lia) (by simp [PL]) (by kernel_rfl) (by simp) 2 lB gB sB (.val (.str "B")) xB oB nB (by lia)
  obtain ⟨lD, xD, gD, sD, oD, nD, eD⟩ := out_step t0 t1 rest v few own "D" 3 ["q", "r", "s"] hown (by simp) rfl rfl (by lia) (by simp [PL]) (by kernel_rfl) (by simp) 3 lC gC sC (.val (.str "C")) xC oC nC (by lia)
  obtain ⟨lE, gE, sE, oE, nE, eE⟩ := lit_step t0 t1 rest v few own hown 4 lD gD sD (.val (.str "D")) xD oD nD (by lia)
  obtain ⟨as, g2, s2, o2, l2, e2⟩ := end_ok t0 t1 gE sE rest [own, own] (by simp) (by simpa using hown)
  have e2 : S_law_end [.glo 2, .lst [.str own, .str own]] (Pn t0 t1 gE sE rest) = some (Sm.enc (.con "T" as), Pn t0 t1 g2 s2 rest) := e2
  refine ⟨⟨own, lE.take few, .con "T" as⟩, g2, s2, ⟨hown, by simp; lia, memOut fun a ha => (oE a ha).1, o2⟩, memOut fun a ha => (oE a ha).2, ⟨as, l2, rfl⟩, ?_⟩
  have e3 : ∀ G, pureOp takeMV G (.lst (lE.map Al.enc)) (.int few) = some (.lst ((lE.take few).map Al.enc), G) := fun G => by
    rw [po_take _ _ _ (by lia) (by rw [List.length_map]; lia), List.map_take]
  unfold S_law_outer F_law_outer Cs.enc
  exact r_spec rfl (r_start rfl) (qs9 (r_pair (r_pval (q29 qc9 (qa9 (ql9 (qv9 rfl) (ql9 qc9 q09)) e1) (eo ..)) (r_gl q09 (nle9 rfl))) (st4 ..) (st3 ..)) (kn9 (qs9 (r_for (r_it qc9 itABCD) (r_loop1e eA rfl (r_tn (st5 ..)) rfl (r_loop1e eB rfl (r_tn rfl) rfl (r_loop1e eC rfl (r_tn rfl) rfl (r_loop1e eD rfl (r_tn rfl) rfl r_loop0))))) (kn9 (r_seqe eE rfl rfl (kn9 (qs9 (r_set (q29 (r_vall rfl rfl) (qv9 rfl) (e3 ..)) rfl) (kn9 (qs9 (r_ret (qa9 (ql9 (qv9 rfl) (ql9 (qv9 rfl) (ql9 (qv9 rfl) (ql9 (qa9 (ql9 (qv9 rfl) (ql9 (r_lst (ql9 (qv9 rfl) (ql9 (qv9 rfl) q09)) (nle9 rfl)) q09)) e2) q09)))) (cls6 ..))) k_ret)))))))))
noncomputable def Cl.sm (c : Cl) : Sm := .con c.name c.args
theorem Cl.sm_enc (c : Cl) : c.sm.enc = c.enc := rfl
theorem Cl.size_le (x : Str) : Cl.size x ≤ 3 := by
  unfold Cl.size
  split
  · lia
  · split
    · lia
    · split <;> lia
theorem Cl.Ok.sm {c : Cl} (h : c.Ok) : c.sm.Ok := ⟨h.size ▸ Cl.size_le _, h.args⟩
noncomputable def IsCell (b : Sm) : Prop := ∃ c : Cl, c.Ok ∧ b = c.sm
theorem cell_al {x : Str} {fs : List Str} {c : Cl} (h : c.Ok) (hx : x ∈ [("A" : Str), "B", "C", "D"]) (hfs : ∀ y ∈ fs, y ∈ PL) (hl : fs.length = Cl.size x) : Al.Ok ⟨.con x, fs, c.sm⟩ :=
  ⟨hfs, hl ▸ Cl.size_le _, h.sm, fun y e => (by cases e; exact hl), fun y e => (by cases e; exact hx), ⟨_, _, rfl⟩, fun e => (by cases e)⟩
set_option maxHeartbeats 2000000 in
theorem inner_ok (t0 t1 : Bool) (rest : Gst) (g s : Int) :
    ∃ (c : Cs) (x : Str) (g' s' : Int), c.Ok ∧ (∀ a ∈ c.alts, IsCell a.body) ∧ (IsCell c.other ∨ c.other = .atm (.l 7)) ∧ 1 ≤ c.alts.length ∧ x ∈ [("a" : Str), "b"] ∧
      S_law_inner [.glo 2] (Pn t0 t1 g s rest) = some (c.enc (.obj 0 [.str x]), Pn t0 t1 g' s' rest) := by
  obtain ⟨d, g1, s1, hd, e1⟩ := next_ok t0 t1 g s rest 3 ⟨by decide, by decide⟩
  have e1 : S_law_next [.glo 2, .int 3] (Pn t0 t1 g s rest) = some (.int d, Pn t0 t1 g1 s1 rest) := e1
  obtain ⟨own, hown, eo⟩ : ∃ own : Str, own ∈ PL ∧ ∀ G, fIdx G (.str "pqm") (.int d) = some (.str own, G) := by
    match d, hd with
    | 0, _ => exact ⟨"p", by simp [PL], fun G => by kernel_rfl⟩
    | 1, _ => exact ⟨"q", by simp [PL], fun G => by kernel_rfl⟩
    | 2, _ => exact ⟨"m", by simp [PL], fun G => by kernel_rfl⟩
  have pr : ("r" : Str) ∈ PL := by simp [PL]
  have pq : ("q" : Str) ∈ PL := by simp [PL]
  have pp : ("p" : Str) ∈ PL := by simp [PL]
  obtain ⟨c1, g2, s2, o1, f1⟩ := cell_ok t0 t1 g1 s1 rest ["r", own] (by simp) (by intro x hx; simp at hx; rcases hx with rfl | rfl <;> assumption)
  have f1 : S_law_cell [.glo 2, .lst [.str "r", .str own]] (Pn t0 t1 g1 s1 rest) = some (c1.enc, Pn t0 t1 g2 s2 rest) := f1
  have b1 : Al.Ok ⟨.con "B", ["r"], c1.sm⟩ := cell_al o1 (by simp) (by simpa using pr) (by kernel_rfl)
  obtain ⟨d2, g3, s3, hd2, e2⟩ := next_ok t0 t1 g2 s2 rest 2 ⟨by decide, by decide⟩
  have e2 : S_law_next [.glo 2, .int 2] (Pn t0 t1 g2 s2 rest) = some (.int d2, Pn t0 t1 g3 s3 rest) := e2
  have var : ∀ d < 2, ∃ x : Str, x ∈ [("a" : Str), "b"] ∧ ∀ G, fIdx G (.lst [.str "a", .str "b"]) (.int (d : Nat)) = some (.str x, G) := fun d hd => by
    match d, hd with
    | 0, _ => exact ⟨"a", by simp, fun G => fIdx_l0 _ _ _⟩
    | 1, _ => exact ⟨"b", by simp, fun G => fIdx_l1 _ _ _ _⟩
  have tail : ∀ g s, ∃ (o : Sm) (g' s' : Int), o.Ok ∧ (IsCell o ∨ o = .atm (.l 7)) ∧ ∀ ρ : List Slot, (ρ[0]? = some (.val (.glo 2)) ∧ ρ[1]? = some (.val (.str own))) →
      inOther (ρ, Pn t0 t1 g s rest) = some (.nxt, ρ.set 3 (.val o.enc), Pn t0 t1 g' s' rest) := fun g s => by
    obtain ⟨d3, g3, s3, hd3, e3⟩ := next_ok t0 t1 g s rest 3 ⟨by decide, by decide⟩
    have e3 : S_law_next [.glo 2, .int 3] (Pn t0 t1 g s rest) = some (.int d3, Pn t0 t1 g3 s3 rest) := e3
    by_cases hd0 : d3 = 0
    · subst hd0
      refine ⟨.atm (.l 7), g3, s3, trivial, .inr rfl, fun ρ ⟨h0, h1⟩ => ?_⟩
      unfold inOther Sm.enc At.enc
      exact r_set (r_fif (qb9 (q29 (qa9 (ql9 (qv9 h0) (ql9 qc9 q09)) e3) qc9 (po_eq _ _ _ true rfl))) (ic_t (qa9 (ql9 qc9 (ql9 qc9 q09)) (cls1 ..)))) rfl
    · obtain ⟨c3, g4, s4, o3, f3⟩ := cell_ok t0 t1 g3 s3 rest [own] (by simp) (by simpa using hown)
      have f3 : S_law_cell [.glo 2, .lst [.str own]] (Pn t0 t1 g3 s3 rest) = some (c3.enc, Pn t0 t1 g4 s4 rest) := f3
      refine ⟨c3.sm, g4, s4, o3.sm, .inl ⟨c3, o3, rfl⟩, fun ρ ⟨h0, h1⟩ => ?_⟩
      rw [Cl.sm_enc]
      unfold inOther
      exact r_set (r_fif (qb9 (q29 (qa9 (ql9 (qv9 h0) (ql9 qc9 q09)) e3) qc9 (po_eq _ _ _ false (eq0_f hd0)))) (ic_f (qa9 (ql9 (qv9 h0) (ql9 (r_lst (ql9 (qv9 h1) q09) (nle9 rfl)) q09)) f3))) rfl
  by_cases h0 : d2 = 0
  · subst h0
    obtain ⟨c2, g4, s4, o2, f2⟩ := cell_ok t0 t1 g3 s3 rest ["q", "p", own] (by simp) (by intro x hx; simp at hx; rcases hx with rfl | rfl | rfl <;> assumption)
    have f2 : S_law_cell [.glo 2, .lst [.str "q", .str "p", .str own]] (Pn t0 t1 g3 s3 rest) = some (c2.enc, Pn t0 t1 g4 s4 rest) := f2
    have b2 : Al.Ok ⟨.con "C", ["q", "p"], c2.sm⟩ := cell_al o2 (by simp) (by intro x hx; simp at hx; rcases hx with rfl | rfl <;> assumption) (by kernel_rfl)
    obtain ⟨o, g5, s5, oo, ho, e5⟩ := tail g4 s4
    obtain ⟨d6, g6, s6, hd6, e6⟩ := next_ok t0 t1 g5 s5 rest 2 ⟨by decide, by decide⟩
    have e6 : S_law_next [.glo 2, .int 2] (Pn t0 t1 g5 s5 rest) = some (.int d6, Pn t0 t1 g6 s6 rest) := e6
    obtain ⟨x, hx, ex⟩ := var d6 hd6
    refine ⟨⟨own, [⟨.con "B", ["r"], c1.sm⟩, ⟨.con "C", ["q", "p"], c2.sm⟩], o⟩, x, g6, s6, ⟨hown, by simp, by simp [b1, b2], oo⟩, ?_, ho, by simp, hx, ?_⟩
    · intro a ha
      simp at ha
      rcases ha with rfl | rfl
      · exact ⟨c1, o1, rfl⟩
      · exact ⟨c2, o2, rfl⟩
    · unfold S_law_inner F_law_inner
      exact r_spec rfl (r_start rfl) (qs9 (r_set (q29 qc9 (qa9 (ql9 (qv9 rfl) (ql9 qc9 q09)) e1) (eo ..)) (st1 ..)) (kn9 (qs9 (r_new (r_gl (ql9 (qa9 (ql9 (r_tup (ql9 qc9 (ql9 qc9 q09)) (nle9 rfl)) (ql9 (r_lst (ql9 qc9 q09) (nle9 rfl)) (ql9 (qa9 (ql9 (qv9 rfl) (ql9 (r_lst (ql9 qc9 (ql9 (qv9 rfl) q09)) (nle9 rfl)) q09)) f1) q09))) (cls5 ..)) q09) (nle9 rfl)) (st2 ..)) (kn9 (qs9 (r_if (qb9 (q29 (qa9 (ql9 (qv9 rfl) (ql9 qc9 q09)) e2) qc9 (po_eq _ _ _ true rfl))) (ic_t (qs9 (r_app rfl (qa9 (ql9 (r_tup (ql9 qc9 (ql9 qc9 q09)) (nle9 rfl)) (ql9 (r_lst (ql9 qc9 (ql9 qc9 q09)) (nle9 rfl)) (ql9 (qa9 (ql9 (qv9 rfl) (ql9 (r_lst (ql9 qc9 (ql9 qc9 (ql9 (qv9 rfl) q09))) (nle9 rfl)) q09)) f2) q09))) (cls5 ..)) rfl (nle9 rfl) (st2 ..)) (kn9 qn9)))) (kn9 (r_seq2 e5 rfl ⟨rfl, rfl⟩ (kn9 (qs9 (r_ret (qa9 (ql9 (qa9 (ql9 (q29 (r_lst (ql9 qc9 (ql9 qc9 q09)) (nle9 rfl)) (qa9 (ql9 (qv9 rfl) (ql9 qc9 q09)) e6) (ex ..)) q09) (cls0 ..)) (ql9 (qv9 rfl) (ql9 (r_vall rfl rfl) (ql9 (qv9 rfl) q09)))) (cls6 ..))) rfl)))))))))
  · obtain ⟨o, g5, s5, oo, ho, e5⟩ := tail g3 s3
    obtain ⟨d6, g6, s6, hd6, e6⟩ := next_ok t0 t1 g5 s5 rest 2 ⟨by decide, by decide⟩
    have e6 : S_law_next [.glo 2, .int 2] (Pn t0 t1 g5 s5 rest) = some (.int d6, Pn t0 t1 g6 s6 rest) := e6
    obtain ⟨x, hx, ex⟩ := var d6 hd6
    refine ⟨⟨own, [⟨.con "B", ["r"], c1.sm⟩], o⟩, x, g6, s6, ⟨hown, by simp, by simp [b1], oo⟩, ?_, ho, by simp, hx, ?_⟩
    · intro a ha
      simp at ha
      subst ha
      exact ⟨c1, o1, rfl⟩
    · unfold S_law_inner F_law_inner
      exact r_spec rfl (r_start rfl) (qs9 (r_set (q29 qc9 (qa9 (ql9 (qv9 rfl) (ql9 qc9 q09)) e1) (eo ..)) (st1 ..)) (kn9 (qs9 (r_new (r_gl (ql9 (qa9 (ql9 (r_tup (ql9 qc9 (ql9 qc9 q09)) (nle9 rfl)) (ql9 (r_lst (ql9 qc9 q09) (nle9 rfl)) (ql9 (qa9 (ql9 (qv9 rfl) (ql9 (r_lst (ql9 qc9 (ql9 (qv9 rfl) q09)) (nle9 rfl)) q09)) f1) q09))) (cls5 ..)) q09) (nle9 rfl)) (st2 ..)) (kn9 (qs9 (r_if (qb9 (q29 (qa9 (ql9 (qv9 rfl) (ql9 qc9 q09)) e2) qc9 (po_eq _ _ _ false (eq0_f h0)))) (ic_f qn9)) (kn9 (r_seq2 e5 rfl ⟨rfl, rfl⟩ (kn9 (qs9 (r_ret (qa9 (ql9 (qa9 (ql9 (q29 (r_lst (ql9 qc9 (ql9 qc9 q09)) (nle9 rfl)) (qa9 (ql9 (qv9 rfl) (ql9 qc9 q09)) e6) (ex ..)) q09) (cls0 ..)) (ql9 (qv9 rfl) (ql9 (r_vall rfl rfl) (ql9 (qv9 rfl) q09)))) (cls6 ..))) rfl)))))))))
end Mine
end

section
namespace Mine
open PySem
noncomputable def avd : List (Str × MV) := [("p", .bool true), ("q", .bool true), ("r", .bool true), ("s", .bool true), ("m", .bool true), ("a", .bool true), ("b", .bool true)]
noncomputable def BS : List Str := ["p", "q", "r", "s", "m", "a", "b", "v", "j", "f"]
noncomputable def nm (x : Str) (k : Nat) : Str := (x ++ ".") ++ (toString (k : Int) : Str)
noncomputable def pre (x : Str) : List Nat := x.cps.toList.takeWhile (fun c => c != 46)
noncomputable def Sg (t0 t1 : Bool) (g s : Int) (nums : List (Str × MV)) : Gst := Pn t0 t1 g s [.d avd, .d nums]
noncomputable def fr : MV := .obj 9 [.glo 3, .glo 4]
noncomputable def LIM : Nat := 300
theorem w_falseN {s s₁ : Ab} {c : Ab → Option (Bool × Ab)} {B : Ab → Option (Fl × Ab)} (h : c s = some (false, s₁)) : sWhile c B N s = some (.nxt, s₁) := w_false (n := 999) h
noncomputable def okName (x : Str) (k : Nat) : Bool := decide (x.length + 1 ≤ room) && decide ((x ++ ".").length + (toString (k : Int) : Str).length ≤ room) && (mAt avd (nm x k)).isNone && decide ((k : Int).natAbs.log2 < 1920) && (pre (nm x k) == pre x)
theorem okNames : ∀ x ∈ BS, ∀ k ≤ LIM, okName x k = true := by
  have h : (BS.all fun x => (List.range (LIM + 1)).all fun k => okName x k) = true := by decide +kernel
  intro x hx k hk
  exact List.all_eq_true.mp (List.all_eq_true.mp h x hx) k (List.mem_range.mpr (by lia))
theorem base_ok : ∀ x ∈ BS, ∀ G, S_base_of [.str x] G = some (.str x, G) := by
  intro x hx G
  simp only [BS, List.mem_cons, List.not_mem_nil, or_false] at hx
  rcases hx with rfl | rfl | rfl | rfl | rfl | rfl | rfl | rfl | rfl | rfl <;> kernel_rfl
theorem opStr_ok {a : Int} (h : a.natAbs.log2 < 1920) (G : Gst) : opStr [.int a] G = some (.str (toString a : String), G) := if_pos h
theorem opGet_glo {G : Gst} {i : Nat} {l : List (Str × MV)} {k : Str} {d r : MV} (h : G[i]? = some (.d l)) (hr : (mAt l k).getD d = r) : opGet [.glo i, .str k, d] G = some (r, G) := by
  unfold opGet dictOfMV; simp only; rw [h]; simp only; rw [hr]
theorem opIn_glo {G : Gst} {i : Nat} {l : List (Str × MV)} {k : Str} {b : Bool} (h : G[i]? = some (.d l)) (hr : (mAt l k).isSome = b) : opIn G (.str k) (.glo i) = some (.bool b, G) := by
  unfold opIn dictOfMV; simp only; rw [h]; simp only; rw [hr]
theorem opIn_d {G : Gst} {l : List (Str × MV)} {k : Str} {b : Bool} (hr : (mAt l k).isSome = b) : opIn G (.str k) (.dct l) = some (.bool b, G) := by
  unfold opIn dictOfMV; simp only; rw [hr]
theorem opGet_d {G : Gst} {l : List (Str × MV)} {k : Str} {d r : MV} (hr : (mAt l k).getD d = r) : opGet [.dct l, .str k, d] G = some (r, G) := by
  unfold opGet dictOfMV; simp only; rw [hr]
theorem next_name (t0 t1 : Bool) (g s : Int) (nums : List (Str × MV)) (x : Str) (n : Nat) (hx : x ∈ BS) (hn : (mAt nums x).getD (.int 0) = .int n) (hl : n < LIM) (hs : nums.length ≤ 1000) :
    S_Fresh_next [fr, .str x] (Sg t0 t1 g s nums) = some (.str (nm x (n + 1)), Sg t0 t1 g s (mSet nums x (.int (n + 1)))) := by
  have h := okNames x hx (n + 1) (by lia)
  unfold okName at h
  simp only [Bool.and_eq_true, decide_eq_true_eq] at h
  obtain ⟨⟨⟨⟨h1, h2⟩, h3⟩, h4⟩, h5⟩ := h
  have hr : room = 100000 := rfl
  have e0 : ((n + 1 : Nat) : Int) = (n : Int) + 1 := by lia
  unfold nm
  rw [e0]
  unfold nm at h3
  rw [e0] at h2 h3 h4
  have a1 : ∀ G, pureOp (binMV .Add) G (.str x) (.str ".") = some (.str (x ++ "."), G) := fun G => po_adds _ _ _ h1
  have a2 : ∀ G, pureOp (binMV .Add) G (.str (x ++ ".")) (.str (toString ((n : Int) + 1) : String)) = some (.str ((x ++ ".") ++ (toString ((n : Int) + 1) : String)), G) := fun G => po_adds _ _ _ h2
  have a3 : (mAt avd ((x ++ ".") ++ (toString ((n : Int) + 1) : String))).isSome = false := by
    cases e : mAt avd ((x ++ ".") ++ (toString ((n : Int) + 1) : String)) with
    | none => rfl
    | some v => rw [e] at h3; cases h3
  have a4 : nums.length ≤ room := by lia
  unfold S_Fresh_next F_Fresh_next fr Sg
  exact r_spec rfl (r_start rfl) (qs9 (r_set (qa9 (ql9 (qv9 rfl) q09) (base_ok x hx _)) (st2 ..)) (kn9 (qs9 (r_set (q29 (r_callB (q19 (qv9 rfl) (at9_1 ..)) rfl (ql9 (qv9 rfl) (ql9 qc9 q09)) (opGet_glo rfl hn)) qc9 (po_add ..)) (st3 ..)) (kn9 (qs9 (w_falseN (qb9 (q29 (q29 (q29 (qv9 rfl) qc9 (a1 ..)) (qa9 (ql9 (qv9 rfl) q09) (opStr_ok h4 _)) (a2 ..)) (q19 (qv9 rfl) (at9_0 ..)) (opIn_glo rfl a3)))) (kn9 (qs9 (r_setG (qv9 rfl) (q19 (qv9 rfl) (at9_1 ..)) (qv9 rfl) rfl a4) (kn9 (qs9 (r_ret (q29 (q29 (qv9 rfl) qc9 (a1 ..)) (qa9 (ql9 (qv9 rfl) q09) (opStr_ok h4 _)) (a2 ..))) rfl)))))))))
end Mine
end

section
namespace Mine
open PySem
theorem mAt_mSet (l : List (Str × MV)) (k : Str) (v : MV) (x : Str) : mAt (mSet l k v) x = if x = k then some v else mAt l x := by
  unfold mSet
  split
  · rename_i h
    induction l with
    | nil => simp at h
    | cons p r ih =>
      obtain ⟨y, w⟩ := p
      unfold mAt at ih ⊢
      by_cases hy : y = k
      · subst hy
        by_cases hx : x = y
        · subst hx; simp
        · have hx' : ¬ y = x := fun e => hx e.symm
          simp only [List.map_cons, if_true, List.find?_cons, hx', decide_false, hx, if_false]
          by_cases h' : r.any (fun kv => decide (kv.1 = y)) = true
          · have := ih h'
            rw [if_neg hx] at this
            exact this
          · have e : r.map (fun kv => if kv.1 = y then (kv.1, v) else kv) = r := by
              have hh : ∀ kv ∈ r, ¬ kv.1 = y := fun kv hkv e => h' (List.any_eq_true.mpr ⟨kv, hkv, by simp [e]⟩)
              clear ih h h'
              induction r with
              | nil => rfl
              | cons q r ih => rw [List.map_cons, if_neg (hh q (.head _)), ih (fun kv hkv => hh kv (.tail _ hkv))]
            rw [e]
      · have h' : r.any (fun kv => decide (kv.1 = k)) = true := by simpa [hy] using h
        have := ih h'
        by_cases hx : y = x
        · subst hx
          simp [hy]
        · simp only [List.map_cons, hy, if_false, List.find?_cons, hx, decide_false]
          exact this
  · rename_i h
    unfold mAt
    rw [List.find?_append]
    by_cases hx : x = k
    · subst hx
      have : l.find? (fun kv => decide (kv.1 = x)) = none := by
        rw [List.find?_eq_none]
        intro kv hkv hh
        exact h (List.any_eq_true.mpr ⟨kv, hkv, hh⟩)
      rw [this]; simp
    · have hx' : ¬ k = x := fun e => hx e.symm
      simp [hx, hx', List.find?_cons]
theorem mSet_length (l : List (Str × MV)) (k : Str) (v : MV) : (mSet l k v).length ≤ l.length + 1 := by
  unfold mSet
  split
  · rw [List.length_map]; lia
  · rw [List.length_append]; simp
structure NumsOK (B : Nat) (nums : List (Str × MV)) : Prop where
  len : nums.length ≤ B
  val : ∀ x, ∃ k : Nat, k ≤ B ∧ (mAt nums x).getD (.int 0) = .int k
theorem NumsOK.nil : NumsOK 0 [] := ⟨Nat.le_refl _, fun x => ⟨0, Nat.le_refl _, rfl⟩⟩
theorem NumsOK.mono {B B' : Nat} {nums : List (Str × MV)} (h : NumsOK B nums) (l : B ≤ B') : NumsOK B' nums := ⟨Nat.le_trans h.len l, fun x => let ⟨k, a, b⟩ := h.val x; ⟨k, Nat.le_trans a l, b⟩⟩
theorem NumsOK.set {B : Nat} {nums : List (Str × MV)} (h : NumsOK B nums) (x : Str) (n : Nat) (hn : n ≤ B + 1) : NumsOK (B + 1) (mSet nums x (.int n)) :=
  ⟨Nat.le_trans (mSet_length ..) (Nat.add_le_add_right h.len 1), fun y => by
    rw [mAt_mSet]
    split
    · exact ⟨n, hn, rfl⟩
    · obtain ⟨k, a, b⟩ := h.val y
      exact ⟨k, by lia, b⟩⟩
noncomputable def New (x y : Str) : Prop := ∃ k ≤ LIM, y = nm x k
theorem next_new (t0 t1 : Bool) (g s : Int) (nums : List (Str × MV)) (x : Str) (B : Nat) (hx : x ∈ BS) (h : NumsOK B nums) (hB : B < LIM) :
    ∃ y nums', New x y ∧ NumsOK (B + 1) nums' ∧ S_Fresh_next [fr, .str x] (Sg t0 t1 g s nums) = some (.str y, Sg t0 t1 g s nums') := by
  obtain ⟨n, h1, h2⟩ := h.val x
  refine ⟨nm x (n + 1), mSet nums x (.int (n + 1 : Nat)), ⟨n + 1, by lia, rfl⟩, h.set x (n + 1) (by lia), ?_⟩
  have hL : LIM = 300 := rfl
  exact next_name t0 t1 g s nums x n hx h2 (by lia) (by have := h.len; lia)
inductive F2 {α β : Type} (R : α → β → Prop) : List α → List β → Prop
  | nil : F2 R [] []
  | cons {a : α} {b : β} {l : List α} {r : List β} : R a b → F2 R l r → F2 R (a :: l) (b :: r)
theorem F2.length {α β : Type} {R : α → β → Prop} : ∀ {l : List α} {r : List β}, F2 R l r → l.length = r.length
  | _, _, .nil => rfl
  | _, _, .cons _ h => by rw [List.length_cons, List.length_cons, h.length]
noncomputable def self8 : MV := .obj 8 [fr, .dct []]
noncomputable def ngB : Ab → Option (MV × Ab) := (fCallM D_next (f1 (gv9 2) (fAttr "fresh")) (lC9 (gv9 1) l09))
theorem ng_inner (t0 t1 : Bool) (g s : Int) : ∀ (gr : List Str) (ys : List MV) (s1 : Slot) (nums : List (Str × MV)) (B : Nat), (∀ x ∈ gr, x ∈ BS) → NumsOK B nums → B + gr.length ≤ LIM → ys.length + gr.length ≤ 1000 →
    ∃ hs nums' s1', F2 New gr hs ∧ NumsOK (B + gr.length) nums' ∧ compL (tName 1) ngB (gr.map .str) ([.ownL ys, s1, .val self8], Sg t0 t1 g s nums) = some ([.ownL (ys ++ hs.map .str), s1', .val self8], Sg t0 t1 g s nums')
  | [], ys, s1, nums, B, _, h, _, _ => ⟨[], nums, s1, .nil, h, by rw [List.map_nil, List.append_nil]; rfl⟩
  | x :: gr, ys, s1, nums, B, hx, h, hB, hy => by
    rw [List.length_cons] at hB hy
    obtain ⟨y, nums1, n1, h1, e1⟩ := next_new t0 t1 g s nums x B (hx x (.head _)) h (by lia)
    obtain ⟨hs, nums2, s2, n2, h2, e2⟩ := ng_inner t0 t1 g s gr (ys ++ [.str y]) (.val (.str x)) nums1 (B + 1) (fun z hz => hx z (.tail _ hz)) h1 (by lia) (by rw [List.length_append]; simp only [List.length_cons, List.length_nil]; lia)
    refine ⟨y :: hs, nums2, s2, .cons n1 n2, by rw [List.length_cons, show B + (gr.length + 1) = B + 1 + gr.length by lia]; exact h2, ?_⟩
    rw [List.append_assoc] at e2
    have q : ys.length ≤ room := by have hr : room = 100000 := rfl; lia
    refine r_comp1 rfl (?_ : ngB _ = some (.str y, [.ownL ys, .val (.str x), .val self8], Sg t0 t1 g s nums1)) rfl q rfl e2
    unfold ngB self8
    unfold fr at e1 ⊢
    exact r_callM (q19 (qv9 rfl) (at8_0 ..)) (ql9 (qv9 rfl) rfl) rfl e1
noncomputable def ngO : Ab → Option (MV × Ab) := (fComp 1 [2] (fIt (gv9 1) itMV) (tName 1) (fCallM D_next (f1 (gv9 2) (fAttr "fresh")) (lC9 (gv9 1) l09)))
noncomputable def tot : List (List Str) → Nat
  | [] => 0
  | g :: gs => g.length + tot gs
theorem ng_outer (t0 t1 : Bool) (g s : Int) : ∀ (gs : List (List Str)) (ys : List MV) (s1 : Slot) (nums : List (Str × MV)) (B : Nat), (∀ gr ∈ gs, gr.length ≤ 10 ∧ ∀ x ∈ gr, x ∈ BS) → NumsOK B nums → B + tot gs ≤ LIM → ys.length + gs.length ≤ 1000 →
    ∃ hs nums' s1', F2 (F2 New) gs hs ∧ NumsOK (B + tot gs) nums' ∧ compL (tName 1) ngO (gs.map fun gr => .lst (gr.map .str)) ([.ownL ys, s1, .val self8], Sg t0 t1 g s nums) = some ([.ownL (ys ++ hs.map fun gr => .lst (gr.map .str)), s1', .val self8], Sg t0 t1 g s nums')
  | [], ys, s1, nums, B, _, h, _, _ => ⟨[], nums, s1, .nil, h, by rw [List.map_nil, List.append_nil]; rfl⟩
  | gr :: gs, ys, s1, nums, B, hx, h, hB, hy => by
    unfold tot at hB
    rw [List.length_cons] at hy
    have hg := hx gr (.head _)
    obtain ⟨h1, nums1, sa, n1, k1, e1⟩ := ng_inner t0 t1 g s gr [] .un nums B hg.2 h (by lia) (by simp only [List.length_nil]; lia)
    obtain ⟨hs, nums2, s2, n2, h2, e2⟩ := ng_outer t0 t1 g s gs (ys ++ [.lst (h1.map .str)]) (.val (.lst (gr.map .str))) nums1 (B + gr.length) (fun z hz => hx z (.tail _ hz)) k1 (by lia) (by rw [List.length_append]; simp only [List.length_cons, List.length_nil]; lia)
    refine ⟨h1 :: hs, nums2, s2, .cons n1 n2, by unfold tot; rw [← Nat.add_assoc]; exact h2, ?_⟩
    rw [List.append_assoc] at e2
    have q : ys.length ≤ room := by have hr : room = 100000 := rfl; lia
    refine r_comp1 rfl (?_ : ngO _ = some (.lst (h1.map .str), [.ownL ys, .val (.lst (gr.map .str)), .val self8], Sg t0 t1 g s nums1)) rfl q rfl e2
    exact r_comp (r_it (qv9 rfl) rfl) rfl e1
theorem new_groups_ok (t0 t1 : Bool) (g s : Int) (gs : List (List Str)) (nums : List (Str × MV)) (B : Nat) (hx : ∀ gr ∈ gs, gr.length ≤ 10 ∧ ∀ x ∈ gr, x ∈ BS) (h : NumsOK B nums) (hB : B + tot gs ≤ LIM) (hl : gs.length ≤ 100) :
    ∃ hs nums', F2 (F2 New) gs hs ∧ NumsOK (B + tot gs) nums' ∧ S_Renamer_new_groups [self8, .lst (gs.map fun gr => .lst (gr.map .str))] (Sg t0 t1 g s nums) = some (.lst (hs.map fun gr => .lst (gr.map .str)), Sg t0 t1 g s nums') := by
  obtain ⟨hs, nums', s1, n1, k1, e1⟩ := ng_outer t0 t1 g s gs [] .un nums B hx h hB (by simp only [List.length_nil]; lia)
  refine ⟨hs, nums', n1, k1, ?_⟩
  unfold S_Renamer_new_groups F_Renamer_new_groups
  refine r_spec rfl rfl (qs9 (r_ret (r_comp (r_it (qv9 rfl) rfl) rfl e1)) k_ret)
end Mine
end

section
namespace Mine
open PySem
inductive LL1 {α : Type} : List α → Prop
  | z : LL1 []
  | o (a : α) : LL1 [a]
  | t (a b : α) : LL1 [a, b]
  | h (a b c : α) : LL1 [a, b, c]
theorem ll1_of {α : Type} {l : List α} (h : l.length ≤ 3) : LL1 l := by
  cases l with
  | nil => exact .z
  | cons a l => cases l with
    | nil => exact .o a
    | cons b l => cases l with
      | nil => exact .t a b
      | cons c l => cases l with
        | nil => exact .h a b c
        | cons d l => exact absurd (Nat.le_of_succ_le_succ (Nat.le_of_succ_le_succ (Nat.le_of_succ_le_succ h))) (Nat.not_succ_le_zero _)
inductive LL2 {α β : Type} : List α → List β → Prop
  | z : LL2 [] []
  | o (a : α) (b : β) : LL2 [a] [b]
  | t (a a' : α) (b b' : β) : LL2 [a, a'] [b, b']
  | h (a a' a'' : α) (b b' b'' : β) : LL2 [a, a', a''] [b, b', b'']
theorem ll2_of {α β : Type} {l : List α} {k : List β} (e : k.length = l.length) (h : l.length ≤ 3) : LL2 l k := by
  cases ll1_of h with
  | z => rw [List.length_eq_zero_iff.mp e]; exact .z
  | o a => obtain ⟨b, rfl⟩ := List.length_eq_one_iff.mp e; exact .o a b
  | t a a' =>
    obtain ⟨b, k, rfl⟩ := List.exists_cons_of_length_eq_add_one e
    obtain ⟨b', rfl⟩ := List.length_eq_one_iff.mp (Nat.succ.inj e); exact .t a a' b b'
  | h a a' a'' =>
    obtain ⟨b, k, rfl⟩ := List.exists_cons_of_length_eq_add_one e
    obtain ⟨b', k, rfl⟩ := List.exists_cons_of_length_eq_add_one (Nat.succ.inj e)
    obtain ⟨b'', rfl⟩ := List.length_eq_one_iff.mp (Nat.succ.inj (Nat.succ.inj e)); exact .h a a' a'' b b' b''
theorem cg_loop (G : Gst) : ∀ (alts : List Al) (ys : List MV) (s1 : Slot), ys.length + alts.length ≤ 1000 →
    ∃ s1', compL (tName 1) (f1 (gv9 1) (fAttr "names")) (alts.map Al.enc) ([.ownL ys, s1], G) = some ([.ownL (ys ++ alts.map fun a => .lst (a.fs.map .str)), s1'], G)
  | [], ys, s1, _ => ⟨s1, by rw [List.map_nil, List.map_nil, List.append_nil]; rfl⟩
  | a :: alts, ys, s1, h => by
    rw [List.length_cons] at h
    obtain ⟨s2, e⟩ := cg_loop G alts (ys ++ [.lst (a.fs.map .str)]) (.val a.enc) (by rw [List.length_append]; simp only [List.length_cons, List.length_nil]; lia)
    rw [List.append_assoc] at e
    have q : ys.length ≤ room := by have hr : room = 100000 := rfl; lia
    exact ⟨s2, r_comp1 rfl (q19 (qv9 rfl) (at5_1 ..)) rfl q rfl e⟩
noncomputable def grs (c : Cs) : List (List Str) := [c.own] :: c.alts.map Al.fs
theorem groups_ok (G : Gst) (c : Cs) (v : MV) (hl : c.alts.length ≤ 5) : S_Case_groups [c.enc v] G = some (.lst ((grs c).map fun g => .lst (g.map .str)), G) := by
  obtain ⟨s1, e⟩ := cg_loop G c.alts [] .un (by simp only [List.length_nil]; lia)
  have e3 : (c.alts.map Al.fs).map (fun g => MV.lst (g.map .str)) = c.alts.map fun a => .lst (a.fs.map .str) := by rw [List.map_map]; rfl
  have e2 : ∀ G, pureOp (binMV .Add) G (.lst [.lst [.str c.own]]) (.lst ([] ++ c.alts.map fun a => .lst (a.fs.map .str))) = some (.lst ((grs c).map fun g => .lst (g.map .str)), G) := fun G => by
    rw [po_addl _ _ _ (by rw [List.length_append, List.length_map]; show 1 + (0 + c.alts.length) ≤ room; have hr : room = 100000 := rfl; lia)]
    unfold grs
    rw [List.map_cons, e3]; rfl
  unfold S_Case_groups F_Case_groups Cs.enc
  exact r_spec rfl (r_start rfl) (qs9 (r_ret (q29 (r_lst (ql9 (r_lst (ql9 (q19 (qv9 rfl) (at6_1 ..)) q09) (nle9 rfl)) q09) (nle9 rfl)) (r_comp (k := e) (r_it (q19 (qv9 rfl) (at6_2 ..)) rfl) (r_cst rfl)) (e2 ..))) k_ret)
noncomputable def pAlts : Nat → List Al → List MV
  | _, [] => []
  | i, a :: r => .tup [a.body.enc, .tup [.int 0, .int (i + 1 : Nat)]] :: pAlts (i + 1) r
theorem pAlts_length : ∀ (i : Nat) (l : List Al), (pAlts i l).length = l.length
  | _, [] => rfl
  | i, _ :: r => by rw [pAlts, List.length_cons, List.length_cons, pAlts_length]
noncomputable def cpB : Ab → Option (Fl × Ab) := (sSeq (sApp 1 (fTup (lC9 (f1 (f2 (f1 (gv9 0) (fAttr "alts")) (gv9 2) fIdx) (fAttr "body")) (lC9 (fTup (lC9 (fK9 (.int 0)) (lC9 (f2 (gv9 2) (fK9 (.int 1)) (pureOp (binMV .Add))) l09))) l09)))) sNil)
theorem cp_loop (G : Gst) (c : Cs) (v : MV) (hc : c.alts.length ≤ 5) : ∀ (r : List Al) (i : Nat) (ys : List MV) (s2 : Slot), c.alts.drop i = r → ys.length + r.length ≤ 1000 →
    ∃ s2', loopF (tName 2) cpB ((List.range' i r.length).map fun (k : Nat) => MV.int (k : Int)) ([.val (c.enc v), .ownL ys, s2], G) = some (.nxt, [.val (c.enc v), .ownL (ys ++ pAlts i r), s2'], G)
  | [], i, ys, s2, _, _ => ⟨s2, by rw [pAlts, List.append_nil]; rfl⟩
  | a :: r, i, ys, s2, h, hy => by
    have h0 : i < c.alts.length := by
      have := congrArg List.length h
      rw [List.length_drop, List.length_cons] at this; lia
    have h1 : (c.alts.map Al.enc)[i]? = some a.enc := by
      have h2 : (c.alts.drop i)[0]? = some a := by rw [h]; rfl
      rw [List.getElem?_drop] at h2
      rw [List.getElem?_map, show i = i + 0 from rfl, h2]; rfl
    have hn : c.alts.drop (i + 1) = r := by rw [← List.drop_drop, h]; rfl
    obtain ⟨s3, e⟩ := cp_loop G c v hc r (i + 1) (ys ++ [.tup [a.body.enc, .tup [.int 0, .int (i + 1 : Nat)]]]) (.val (.int i)) hn (by rw [List.length_append, List.length_singleton]; rw [List.length_cons] at hy; lia)
    rw [List.append_assoc] at e
    have q : ys.length ≤ room := by have hr : room = 100000 := rfl; lia
    refine ⟨s3, ?_⟩
    rw [List.length_cons, List.range'_succ, List.map_cons]
    refine r_loop1 rfl (?_ : cpB _ = some (.nxt, [.val (c.enc v), .ownL (ys ++ [.tup [a.body.enc, .tup [.int 0, .int (i + 1 : Nat)]]]), .val (.int i)], G)) e
    have h3 : ∀ G, fIdx G (.lst (c.alts.map Al.enc)) (.int i) = some (a.enc, G) := fun G => fIdx_l h1 (by lia)
    have h4 : ∀ G, pureOp (binMV .Add) G (.int i) (.int 1) = some (.int (i + 1 : Nat), G) := fun G => po_add _ _ _
    unfold cpB Cs.enc
    exact qs9 (r_app rfl (r_tup (ql9 (q19 (q29 (q19 (qv9 rfl) (at6_2 ..)) (qv9 rfl) (h3 ..)) rfl) (ql9 (r_tup (ql9 qc9 (ql9 (q29 (qv9 rfl) qc9 (h4 ..)) q09)) (nle9 rfl)) q09)) (nle9 rfl)) rfl q rfl) (kn9 rfl)
theorem Sm.enc_none (b : Sm) : isNone b.enc = false := by
  cases b with
  | atm a => cases a <;> rfl
  | con n as => rfl
noncomputable def prts (c : Cs) (v : MV) : List MV := [.tup [v, .tup []]] ++ pAlts 0 c.alts ++ [.tup [c.other.enc, .tup [.int 0]]]
theorem parts_ok (G : Gst) (c : Cs) (v : MV) (hl : c.alts.length ≤ 5) : S_Case_parts [c.enc v] G = some (.lst (prts c v), G) := by
  have hr : room = 100000 := rfl
  obtain ⟨s2, e⟩ := cp_loop G c v hl c.alts 0 [.tup [v, .tup []]] .un rfl (by simp only [List.length_singleton]; lia)
  rw [← List.range_eq_range'] at e
  have h1 : ∀ G, opLen [.lst (c.alts.map Al.enc)] G = some (.int c.alts.length, G) := fun G => by rw [opLen_ok (by rw [List.length_map]; lia), List.length_map]
  have h2 : itRange (.int c.alts.length) = _ := itRange_ok (by lia)
  have h3 : ∀ G, pureOp (binMV .Add) G (.lst ([.tup [v, .tup []]] ++ pAlts 0 c.alts)) (.lst [.tup [c.other.enc, .tup [.int 0]]]) = some (.lst (prts c v), G) := fun G =>
    po_addl _ _ _ (by rw [List.length_append, pAlts_length]; show 1 + c.alts.length + 1 ≤ room; lia)
  unfold S_Case_parts F_Case_parts
  unfold Cs.enc at e ⊢
  exact r_spec rfl (r_start rfl) (qs9 (r_new (r_gl (ql9 (r_tup (ql9 (q19 (qv9 rfl) (at6_0 ..)) (ql9 (r_tup q09 (nle9 rfl)) q09)) (nle9 rfl)) q09) (nle9 rfl)) (st1 ..)) (kn9 (qs9 (r_for (r_it (qa9 (ql9 (q19 (qv9 rfl) (at6_2 ..)) q09) (h1 ..)) h2) e) (kn9 (qs9 (r_ret (r_fif (qb9 (q29 (q19 (qv9 rfl) (at6_3 ..)) qc9 (po_is _ _ _ c.other.enc_none))) (ic_f (q29 (r_vall rfl (st1 ..)) (r_lst (ql9 (r_tup (ql9 (q19 (qv9 rfl) (at6_3 ..)) (ql9 (r_tup (ql9 qc9 q09) (nle9 rfl)) q09)) (nle9 rfl)) q09) (nle9 rfl)) (h3 ..))))) k_ret)))))
end Mine
end

section
namespace Mine
open PySem
noncomputable def zAlts : List Al → List MV → List MV → List MV
  | a :: r, g :: gs, p :: ps => .obj 5 [a.key.enc, g, p] :: zAlts r gs ps
  | _, _, _ => []
noncomputable def crB : Ab → Option (Fl × Ab) := (sSeq (sApp 3 (fA9 (clsSpec 5) (lC9 (f1 (f2 (f1 (gv9 0) (fAttr "alts")) (gv9 4) fIdx) (fAttr "key")) (lC9 (f2 (gv9 1) (f2 (gv9 4) (fK9 (.int 1)) (pureOp (binMV .Add))) fIdx) (lC9 (f2 (gv9 2) (f2 (gv9 4) (fK9 (.int 1)) (pureOp (binMV .Add))) fIdx) l09))))) sNil)
theorem cr_loop (G : Gst) (c : Cs) (v : MV) (gl pl : List MV) (hc : c.alts.length ≤ 5) : ∀ (r : List Al) (i : Nat) (gs ps ys : List MV) (s2 : Slot), c.alts.drop i = r → gl.drop (i + 1) = gs → pl.drop (i + 1) = ps → r.length ≤ gs.length → r.length ≤ ps.length → ys.length + r.length ≤ 1000 →
    ∃ s2', loopF (tName 4) crB ((List.range' i r.length).map fun (k : Nat) => MV.int (k : Int)) ([.val (c.enc v), .val (.lst gl), .val (.lst pl), .ownL ys, s2], G) = some (.nxt, [.val (c.enc v), .val (.lst gl), .val (.lst pl), .ownL (ys ++ zAlts r gs ps), s2'], G)
  | [], i, gs, ps, ys, s2, _, _, _, _, _, _ => ⟨s2, by rw [zAlts, List.append_nil]; · rfl
                                                       · intro a r g gs p ps h; cases h⟩
  | a :: r, i, [], ps, ys, s2, _, _, _, h, _, _ => by rw [List.length_cons, List.length_nil] at h; lia
  | a :: r, i, g :: gs, [], ys, s2, _, _, _, _, h, _ => by rw [List.length_cons, List.length_nil] at h; lia
  | a :: r, i, g :: gs, p :: ps, ys, s2, h, hg, hp, lg, lp, hy => by
    have at0 : ∀ {α : Type} {l : List α} {k : Nat} {x : α} {q : List α}, l.drop k = x :: q → l[k]? = some x := fun {α l k x q} h => by
      have h2 : (l.drop k)[0]? = some x := by rw [h]; rfl
      rw [List.getElem?_drop] at h2; exact h2
    have nx : ∀ {α : Type} {l : List α} {k : Nat} {x : α} {q : List α}, l.drop k = x :: q → l.drop (k + 1) = q := fun {α l k x q} h => by
      rw [← List.drop_drop, h]; rfl
    have h0 : i < c.alts.length := by
      have := congrArg List.length h
      rw [List.length_drop, List.length_cons] at this; lia
    have h1 : (c.alts.map Al.enc)[i]? = some a.enc := by rw [List.getElem?_map, at0 h]; rfl
    rw [List.length_cons] at lg lp hy
    rw [List.length_cons] at lg lp
    obtain ⟨s3, e⟩ := cr_loop G c v gl pl hc r (i + 1) gs ps (ys ++ [.obj 5 [a.key.enc, g, p]]) (.val (.int i)) (nx h) (nx hg) (nx hp) (by lia) (by lia) (by rw [List.length_append, List.length_singleton]; lia)
    rw [List.append_assoc] at e
    have q : ys.length ≤ room := by have hr : room = 100000 := rfl; lia
    refine ⟨s3, ?_⟩
    rw [List.length_cons, List.range'_succ, List.map_cons]
    refine r_loop1 rfl (?_ : crB _ = some (.nxt, [.val (c.enc v), .val (.lst gl), .val (.lst pl), .ownL (ys ++ [.obj 5 [a.key.enc, g, p]]), .val (.int i)], G)) e
    have h3 : ∀ G, fIdx G (.lst (c.alts.map Al.enc)) (.int i) = some (.obj 5 [a.key.enc, .lst (a.fs.map .str), a.body.enc], G) := fun G => fIdx_l h1 (by lia)
    have h4 : ∀ G, pureOp (binMV .Add) G (.int i) (.int 1) = some (.int (i + 1 : Nat), G) := fun G => po_add _ _ _
    have h5 : ∀ G, fIdx G (.lst gl) (.int (i + 1 : Nat)) = some (g, G) := fun G => fIdx_l (at0 hg) (by lia)
    have h6 : ∀ G, fIdx G (.lst pl) (.int (i + 1 : Nat)) = some (p, G) := fun G => fIdx_l (at0 hp) (by lia)
    unfold crB Cs.enc
    exact qs9 (r_app rfl (qa9 (ql9 (q19 (q29 (q19 (qv9 rfl) (at6_2 ..)) (qv9 rfl) (h3 ..)) (at5_0 ..)) (ql9 (q29 (qv9 rfl) (q29 (qv9 rfl) qc9 (h4 ..)) (h5 ..)) (ql9 (q29 (qv9 rfl) (q29 (qv9 rfl) qc9 (h4 ..)) (h6 ..)) q09))) (cls5 ..)) rfl q rfl) (kn9 rfl)
theorem rebuilt_ok (G : Gst) (c : Cs) (v v' o' own' : MV) (gs ps : List MV) (hl : c.alts.length ≤ 5) (hg : gs.length = c.alts.length) (hp : ps.length = c.alts.length) :
    S_Case_rebuilt [c.enc v, .lst (.lst [own'] :: gs), .lst (v' :: (ps ++ [o']))] G = some (.obj 6 [v', own', .lst (zAlts c.alts gs ps), o'], G) := by
  have hr : room = 100000 := rfl
  have zz : ∀ (r : List Al) (gs ps : List MV), r.length = ps.length → zAlts r gs (ps ++ [o']) = zAlts r gs ps := fun r => by
    induction r with
    | nil => intro gs ps h; cases ps with
      | nil => rfl
      | cons p ps => cases h
    | cons a r ih => intro gs ps h; cases ps with
      | nil => cases h
      | cons p ps =>
        cases gs with
        | nil => rfl
        | cons g gs => exact congrArg (List.cons _) (ih gs ps (by simpa using h))
  obtain ⟨s2, e⟩ := cr_loop G c v (.lst [own'] :: gs) (v' :: (ps ++ [o'])) hl c.alts 0 gs (ps ++ [o']) [] .un rfl rfl rfl (by lia) (by rw [List.length_append]; lia) (by simp only [List.length_nil]; lia)
  rw [← List.range_eq_range', zz _ _ _ hp.symm] at e
  have h1 : ∀ G, opLen [.lst (c.alts.map Al.enc)] G = some (.int c.alts.length, G) := fun G => by rw [opLen_ok (by rw [List.length_map]; lia), List.length_map]
  have h2 : itRange (.int c.alts.length) = _ := itRange_ok (by lia)
  unfold S_Case_rebuilt F_Case_rebuilt
  unfold Cs.enc at e ⊢
  exact r_spec rfl (r_start rfl) (qs9 (r_new (r_gl q09 (nle9 rfl)) (st3 ..)) (kn9 (qs9 (r_for (r_it (qa9 (ql9 (q19 (qv9 rfl) (at6_2 ..)) q09) (h1 ..)) h2) e) (kn9 (qs9 (r_ret (qa9 (ql9 (q29 (qv9 rfl) qc9 (fIdx_l0 ..)) (ql9 (q29 (q29 (qv9 rfl) qc9 (fIdx_l0 ..)) qc9 (fIdx_l0 ..)) (ql9 (r_vall rfl (st3 ..)) (ql9 (r_fif (qb9 (q29 (q19 (qv9 rfl) (at6_3 ..)) qc9 (po_is _ _ _ c.other.enc_none))) (ic_f (q29 (qv9 rfl) (q19 qc9 (fNeg1 ..)) (fIdx_last (List.cons_append (a := v') (as := ps) (bs := [o'])).symm)))) q09)))) (cls6 ..))) rfl)))))
noncomputable def msets (l : List (Str × MV)) : List Str → List Str → List (Str × MV)
  | x :: xs, y :: ys => msets (mSet l x (.str y)) xs ys
  | _, _ => l
theorem inner0 (G : Gst) (l : List (Str × MV)) (gl nl : MV) : S_Renamer_inner [self8, .dct l, .tup [], gl, nl] G = some (.dct l, G) := by
  unfold S_Renamer_inner F_Renamer_inner self8
  exact r_spec rfl (r_start rfl) (qs9 (r_if (qb9 (q29 (qv9 rfl) (r_tup q09 (nle9 rfl)) (po_eq _ _ _ true rfl))) (ic_t (qs9 (r_ret (qv9 rfl)) k_ret))) k_ret)
theorem inner1 (G : Gst) (own own' : Str) (gl nl : List MV) : S_Renamer_inner [self8, .dct [], .tup [.int 0], .lst (.lst [.str own] :: gl), .lst (.lst [.str own'] :: nl)] G = some (.dct (mSet [] own (.str own')), G) := by
  unfold S_Renamer_inner F_Renamer_inner self8
  exact r_spec rfl (r_start rfl) (qs9 (r_if (qb9 (q29 (qv9 rfl) (r_tup q09 (nle9 rfl)) (po_eq _ _ _ false rfl))) (ic_f qn9)) (kn9 (qs9 (r_new (r_gd (qv9 rfl) (nle9 rfl)) (st5 ..)) (kn9 (qs9 (r_for (r_it (qv9 rfl) rfl) (r_loop1 (r_tn (st6 ..)) (qs9 (r_for (r_it (qa9 (ql9 (q29 (qv9 rfl) (qv9 rfl) (fIdx_l0 ..)) q09) (opL1 ..)) itR1) (r_loop1 (r_tn (st7 ..)) (qs9 (r_setD (q29 (q29 (qv9 rfl) (qv9 rfl) (fIdx_l0 ..)) (qv9 rfl) (fIdx_l0 ..)) rfl (q29 (q29 (qv9 rfl) (qv9 rfl) (fIdx_l0 ..)) (qv9 rfl) (fIdx_l0 ..)) rfl (nle9 rfl) (st5 ..)) (kn9 qn9)) (lc_nxt r_loop0))) (kn9 qn9)) (lc_nxt r_loop0))) (kn9 (qs9 (r_ret (r_vald rfl (st5 ..))) k_ret)))))))
theorem eqScope (a b : Int) : eqMV (.tup [.int a, .int b]) (.tup []) = some false := by kernel_rfl
set_option maxHeartbeats 4000000 in
theorem inner2 (G : Gst) (own own' : Str) (gl nl : List MV) (i : Nat) (fs fs' : List Str) (hi : i < 1000) (hg : gl[i]? = some (.lst (fs.map .str))) (hn : nl[i]? = some (.lst (fs'.map .str))) (hl : fs.length = fs'.length) (h3 : fs.length ≤ 3) :
    S_Renamer_inner [self8, .dct [], .tup [.int 0, .int (i + 1 : Nat)], .lst (.lst [.str own] :: gl), .lst (.lst [.str own'] :: nl)] G = some (.dct (msets (mSet [] own (.str own')) fs fs'), G) := by
  have h1 : ∀ G, fIdx G (.lst (.lst [.str own] :: gl)) (.int (i + 1 : Nat)) = some (.lst (fs.map .str), G) := fun G => fIdx_l (by rw [List.getElem?_cons_succ]; exact hg) (by lia)
  have h2 : ∀ G, fIdx G (.lst (.lst [.str own'] :: nl)) (.int (i + 1 : Nat)) = some (.lst (fs'.map .str), G) := fun G => fIdx_l (by rw [List.getElem?_cons_succ]; exact hn) (by lia)
  have hr : room = 100000 := rfl
  have l0 : ∀ k v, (mSet [] k v).length ≤ room := fun k v => Nat.le_trans (mSet_length ..) (by simp only [List.length_nil]; lia)
  have l1 : ∀ k v k' v', (mSet (mSet [] k v) k' v').length ≤ room := fun k v k' v' => Nat.le_trans (mSet_length ..) (by have := mSet_length [] k v; simp only [List.length_nil] at this; lia)
  have l2 : ∀ k v k' v' k'' v'', (mSet (mSet (mSet [] k v) k' v') k'' v'').length ≤ room := fun k v k' v' k'' v'' => Nat.le_trans (mSet_length ..) (by have := mSet_length [] k v; have := mSet_length (mSet [] k v) k' v'; simp only [List.length_nil] at *; lia)
  unfold S_Renamer_inner F_Renamer_inner self8
  cases ll2_of hl.symm h3 with
  | z => simp only [msets, List.map] at h1 h2 ⊢; exact r_spec rfl (r_start rfl) (qs9 (r_if (qb9 (q29 (qv9 rfl) (r_tup q09 (nle9 rfl)) (po_eq _ _ _ false (eqScope _ _)))) (ic_f qn9)) (kn9 (qs9 (r_new (r_gd (qv9 rfl) (nle9 rfl)) (st5 ..)) (kn9 (qs9 (r_for (r_it (qv9 rfl) rfl) (r_loop1 (r_tn (st6 ..)) (qs9 (r_for (r_it (qa9 (ql9 (q29 (qv9 rfl) (qv9 rfl) (fIdx_l0 ..)) q09) (opL1 ..)) itR1) (r_loop1 (r_tn (st7 ..)) (qs9 (r_setD (q29 (q29 (qv9 rfl) (qv9 rfl) (fIdx_l0 ..)) (qv9 rfl) (fIdx_l0 ..)) rfl (q29 (q29 (qv9 rfl) (qv9 rfl) (fIdx_l0 ..)) (qv9 rfl) (fIdx_l0 ..)) rfl (nle9 rfl) (st5 ..)) (kn9 qn9)) (lc_nxt r_loop0))) (kn9 qn9)) (lc_nxt (r_loop1 (r_tn (st6 ..)) (qs9 (r_for (r_it (qa9 (ql9 (q29 (qv9 rfl) (qv9 rfl) (h1 ..)) q09) (opL0 ..)) itR0) r_loop0) (kn9 qn9)) (lc_nxt r_loop0))))) (kn9 (qs9 (r_ret (r_vald rfl (st5 ..))) k_ret)))))))
  | o x y => simp only [msets, List.map] at h1 h2 ⊢; exact r_spec rfl (r_start rfl) (qs9 (r_if (qb9 (q29 (qv9 rfl) (r_tup q09 (nle9 rfl)) (po_eq _ _ _ false (eqScope _ _)))) (ic_f qn9)) (kn9 (qs9 (r_new (r_gd (qv9 rfl) (nle9 rfl)) (st5 ..)) (kn9 (qs9 (r_for (r_it (qv9 rfl) rfl) (r_loop1 (r_tn (st6 ..)) (qs9 (r_for (r_it (qa9 (ql9 (q29 (qv9 rfl) (qv9 rfl) (fIdx_l0 ..)) q09) (opL1 ..)) itR1) (r_loop1 (r_tn (st7 ..)) (qs9 (r_setD (q29 (q29 (qv9 rfl) (qv9 rfl) (fIdx_l0 ..)) (qv9 rfl) (fIdx_l0 ..)) rfl (q29 (q29 (qv9 rfl) (qv9 rfl) (fIdx_l0 ..)) (qv9 rfl) (fIdx_l0 ..)) rfl (nle9 rfl) (st5 ..)) (kn9 qn9)) (lc_nxt r_loop0))) (kn9 qn9)) (lc_nxt (r_loop1 (r_tn (st6 ..)) (qs9 (r_for (r_it (qa9 (ql9 (q29 (qv9 rfl) (qv9 rfl) (h1 ..)) q09) (opL1 ..)) itR1) (r_loop1 (r_tn (st7 ..)) (qs9 (r_setD (q29 (q29 (qv9 rfl) (qv9 rfl) (h2 ..)) (qv9 rfl) (fIdx_l0 ..)) rfl (q29 (q29 (qv9 rfl) (qv9 rfl) (h1 ..)) (qv9 rfl) (fIdx_l0 ..)) rfl (l0 ..) (st5 ..)) (kn9 qn9)) (lc_nxt r_loop0))) (kn9 qn9)) (lc_nxt r_loop0))))) (kn9 (qs9 (r_ret (r_vald rfl (st5 ..))) k_ret)))))))
  | t x x2 y y2 => simp only [msets, List.map] at h1 h2 ⊢; exact r_spec rfl (r_start rfl) (qs9 (r_if (qb9 (q29 (qv9 rfl) (r_tup q09 (nle9 rfl)) (po_eq _ _ _ false (eqScope _ _)))) (ic_f qn9)) (kn9 (qs9 (r_new (r_gd (qv9 rfl) (nle9 rfl)) (st5 ..)) (kn9 (qs9 (r_for (r_it (qv9 rfl) rfl) (r_loop1 (r_tn (st6 ..)) (qs9 (r_for (r_it (qa9 (ql9 (q29 (qv9 rfl) (qv9 rfl) (fIdx_l0 ..)) q09) (opL1 ..)) itR1) (r_loop1 (r_tn (st7 ..)) (qs9 (r_setD (q29 (q29 (qv9 rfl) (qv9 rfl) (fIdx_l0 ..)) (qv9 rfl) (fIdx_l0 ..)) rfl (q29 (q29 (qv9 rfl) (qv9 rfl) (fIdx_l0 ..)) (qv9 rfl) (fIdx_l0 ..)) rfl (nle9 rfl) (st5 ..)) (kn9 qn9)) (lc_nxt r_loop0))) (kn9 qn9)) (lc_nxt (r_loop1 (r_tn (st6 ..)) (qs9 (r_for (r_it (qa9 (ql9 (q29 (qv9 rfl) (qv9 rfl) (h1 ..)) q09) (opL2 ..)) itR2) (r_loop1 (r_tn (st7 ..)) (qs9 (r_setD (q29 (q29 (qv9 rfl) (qv9 rfl) (h2 ..)) (qv9 rfl) (fIdx_l0 ..)) rfl (q29 (q29 (qv9 rfl) (qv9 rfl) (h1 ..)) (qv9 rfl) (fIdx_l0 ..)) rfl (l0 ..) (st5 ..)) (kn9 qn9)) (lc_nxt (r_loop1 (r_tn (st7 ..)) (qs9 (r_setD (q29 (q29 (qv9 rfl) (qv9 rfl) (h2 ..)) (qv9 rfl) (fIdx_l1 ..)) rfl (q29 (q29 (qv9 rfl) (qv9 rfl) (h1 ..)) (qv9 rfl) (fIdx_l1 ..)) rfl (l1 ..) (st5 ..)) (kn9 qn9)) (lc_nxt r_loop0))))) (kn9 qn9)) (lc_nxt r_loop0))))) (kn9 (qs9 (r_ret (r_vald rfl (st5 ..))) k_ret)))))))
  | h x x2 x3 y y2 y3 => simp only [msets, List.map] at h1 h2 ⊢; exact r_spec rfl (r_start rfl) (qs9 (r_if (qb9 (q29 (qv9 rfl) (r_tup q09 (nle9 rfl)) (po_eq _ _ _ false (eqScope _ _)))) (ic_f qn9)) (kn9 (qs9 (r_new (r_gd (qv9 rfl) (nle9 rfl)) (st5 ..)) (kn9 (qs9 (r_for (r_it (qv9 rfl) rfl) (r_loop1 (r_tn (st6 ..)) (qs9 (r_for (r_it (qa9 (ql9 (q29 (qv9 rfl) (qv9 rfl) (fIdx_l0 ..)) q09) (opL1 ..)) itR1) (r_loop1 (r_tn (st7 ..)) (qs9 (r_setD (q29 (q29 (qv9 rfl) (qv9 rfl) (fIdx_l0 ..)) (qv9 rfl) (fIdx_l0 ..)) rfl (q29 (q29 (qv9 rfl) (qv9 rfl) (fIdx_l0 ..)) (qv9 rfl) (fIdx_l0 ..)) rfl (nle9 rfl) (st5 ..)) (kn9 qn9)) (lc_nxt r_loop0))) (kn9 qn9)) (lc_nxt (r_loop1 (r_tn (st6 ..)) (qs9 (r_for (r_it (qa9 (ql9 (q29 (qv9 rfl) (qv9 rfl) (h1 ..)) q09) (opL3 ..)) itR3) (r_loop1 (r_tn (st7 ..)) (qs9 (r_setD (q29 (q29 (qv9 rfl) (qv9 rfl) (h2 ..)) (qv9 rfl) (fIdx_l0 ..)) rfl (q29 (q29 (qv9 rfl) (qv9 rfl) (h1 ..)) (qv9 rfl) (fIdx_l0 ..)) rfl (l0 ..) (st5 ..)) (kn9 qn9)) (lc_nxt (r_loop1 (r_tn (st7 ..)) (qs9 (r_setD (q29 (q29 (qv9 rfl) (qv9 rfl) (h2 ..)) (qv9 rfl) (fIdx_l1 ..)) rfl (q29 (q29 (qv9 rfl) (qv9 rfl) (h1 ..)) (qv9 rfl) (fIdx_l1 ..)) rfl (l1 ..) (st5 ..)) (kn9 qn9)) (lc_nxt (r_loop1 (r_tn (st7 ..)) (qs9 (r_setD (q29 (q29 (qv9 rfl) (qv9 rfl) (h2 ..)) (qv9 rfl) rfl) rfl (q29 (q29 (qv9 rfl) (qv9 rfl) (h1 ..)) (qv9 rfl) rfl) rfl (l2 ..) (st5 ..)) (kn9 qn9)) (lc_nxt r_loop0))))))) (kn9 qn9)) (lc_nxt r_loop0))))) (kn9 (qs9 (r_ret (r_vald rfl (st5 ..))) k_ret)))))))
noncomputable def NOK (l : List (Str × MV)) : Prop := ∀ x v, mAt l x = some v → ∃ y, v = .str y
noncomputable def rn (l : List (Str × MV)) (x : Str) : Str := match mAt l x with
  | some (.str y) => y
  | _ => x
noncomputable def At.ren (l : List (Str × MV)) : At → At
  | .v x => .v (rn l x)
  | .l i => .l i
noncomputable def Sm.ren (l : List (Str × MV)) : Sm → Sm
  | .atm a => .atm (a.ren l)
  | .con n as => .con n (as.map (At.ren l))
theorem leaf_at (G : Gst) (l : List (Str × MV)) (h : NOK l) (a : At) : S_Renamer_leaf [self8, a.enc, .dct l] G = some ((a.ren l).enc, G) := by
  cases a with
  | l i =>
    unfold S_Renamer_leaf F_Renamer_leaf self8 At.ren At.enc
    exact r_spec rfl (r_start rfl) (qs9 (r_if (r_not (qb9 (q19 (qv9 rfl) (isi_f _ _ _ _ (by decide) (by decide)))) rfl) rfl) k_ret)
  | v x =>
    cases e : mAt l x with
    | none =>
      have e3 : (mAt l x).isSome = false := by rw [e]; rfl
      have e2 : rn l x = x := by unfold rn; rw [e]
      unfold At.ren At.enc
      simp only
      rw [e2]
      unfold S_Renamer_leaf F_Renamer_leaf self8
      exact r_spec rfl (r_start rfl) (qs9 (r_if (r_not (qb9 (q19 (qv9 rfl) (isi_t _ _ _ (by decide)))) rfl) rfl) (kn9 (qs9 (r_if (qb9 (q29 (q19 (qv9 rfl) (at0_0 ..)) (qv9 rfl) (opIn_d e3))) (ic_f qn9)) (kn9 (qs9 (r_set (r_callB (q19 (qv9 rfl) (at8_1 ..)) rfl (ql9 (q19 (qv9 rfl) (at0_0 ..)) q09) rfl) (st3 ..)) (kn9 (qs9 (r_ret (r_fif (qb9 (q29 (qv9 rfl) qc9 rfl)) rfl)) k_ret)))))))
    | some v =>
      obtain ⟨y, rfl⟩ := h x v e
      have e3 : (mAt l x).isSome = true := by rw [e]; rfl
      have e2 : rn l x = y := by unfold rn; rw [e]
      unfold At.ren At.enc
      simp only
      rw [e2]
      unfold S_Renamer_leaf F_Renamer_leaf self8
      exact r_spec rfl (r_start rfl) (qs9 (r_if (r_not (qb9 (q19 (qv9 rfl) (isi_t _ _ _ (by decide)))) rfl) rfl) (kn9 (qs9 (r_if (qb9 (q29 (q19 (qv9 rfl) (at0_0 ..)) (qv9 rfl) (opIn_d e3))) (ic_t (qs9 (r_ret (qa9 (ql9 (q29 (qv9 rfl) (q19 (qv9 rfl) (at0_0 ..)) (fIdx_d e)) q09) (cls0 ..))) k_ret))) k_ret)))
theorem leaf_con (G : Gst) (l : List (Str × MV)) (n as : MV) : S_Renamer_leaf [self8, .obj 7 [n, as], .dct l] G = some (.obj 7 [n, as], G) := by
  unfold S_Renamer_leaf F_Renamer_leaf self8
  exact r_spec rfl (r_start rfl) (qs9 (r_if (r_not (qb9 (q19 (qv9 rfl) (isi_f _ _ _ _ (by decide) (by decide)))) rfl) rfl) k_ret)
end Mine
end

section
namespace Mine
open PySem
theorem ex2 {P Q : List Slot → Prop} (ρ : List Slot) (h : Q ρ) (h' : P ρ) : ∃ ρ, Q ρ ∧ P ρ := ⟨ρ, h, h'⟩
noncomputable def IsRS (e : MV) (ts ds : List MV) (ρ : List Slot) : Prop := ∃ z4 z5 z6 z7 z8 z9 z10 z11 z12 : Slot, ρ = [.val self8, .val e, .ownL ts, .ownL ds, z4, z5, z6, z7, z8, z9, z10, z11, z12]
theorem IsRS.cast {e : MV} {ts ts' ds ds' : List MV} {ρ : List Slot} (h : ts = ts') (h' : ds = ds') (r : IsRS e ts ds ρ) : IsRS e ts' ds' ρ := by subst h h'; exact r
noncomputable def runBody : Ab → Option (Fl × Ab) := (sSeq (sUnp (fPop 2) (tTup [4, 5, 6])) (sSeq (sSet 7 (fCallM D_parts (gv9 4) l09)) (sSeq (sIf (asBool (f2 (gv9 7) (fLst l09) (pureOp (cmpMV .Eq)))) (sSeq (sApp 3 (fCallM D_leaf (gv9 0) (lC9 (gv9 4) (lC9 (gv9 5) l09)))) sNil) (sSeq (sIf (asBool (f2 (gv9 6) (fK9 .none) (pureOp (cmpMV .Is)))) (sSeq (sSet 8 (fCallM D_groups (gv9 4) l09)) (sSeq (sSet 6 (fCallM D_new_groups (gv9 0) (lC9 (gv9 8) l09))) (sSeq (sApp 2 (fTup (lC9 (gv9 4) (lC9 (gv9 5) (lC9 (gv9 6) l09))))) (sSeq (sFor (fIt (gv9 7) itRev) (tTup [9, 10]) (sSeq (sApp 2 (fTup (lC9 (gv9 9) (lC9 (fCallM D_inner (gv9 0) (lC9 (gv9 5) (lC9 (gv9 10) (lC9 (gv9 8) (lC9 (gv9 6) l09))))) (lC9 (fK9 .none) l09))))) sNil)) sNil)))) (sSeq (sSet 11 (fA9 opLen (lC9 (gv9 7) l09))) (sSeq (sSet 12 (fCallM D_rebuilt (gv9 4) (lC9 (gv9 6) (lC9 (fDrop 3 (f2 (fLenOwn 3) (gv9 11) (pureOp (binMV .Sub)))) l09)))) (sSeq (sDel 3 (f2 (fLenOwn 3) (gv9 11) (pureOp (binMV .Sub)))) (sSeq (sApp 3 (gv9 12)) sNil))))) sNil)) sNil)))
noncomputable def Step (e : MV) (ts ds : List MV) (G : Gst) (ts' ds' : List MV) (G' : Gst) : Prop := ∀ ρ, IsRS e ts ds ρ → ∃ ρ', runBody (ρ, G) = some (.nxt, ρ', G') ∧ IsRS e ts' ds' ρ'
theorem step_leaf (e : MV) (c : Nat) (ms : List MV) (node' nw : MV) (sp : List MV → Gst → Option (MV × Gst)) (G : Gst) (l : List (Str × MV)) (ts ds : List MV) (hd : D_parts c = some sp) (hp : ∀ G, sp [.obj c ms] G = some (.lst [], G))
    (hleaf : S_Renamer_leaf [self8, .obj c ms, .dct l] G = some (node', G)) (ht : ts.length ≤ 1000) (hds : ds.length ≤ 1000) :
    Step e (ts ++ [.tup [.obj c ms, .dct l, nw]]) ds G ts (ds ++ [node']) G := by
  rintro ρ ⟨z4, z5, z6, z7, z8, z9, z10, z11, z12, rfl⟩
  have hr : room = 100000 := rfl
  have q1 : (ts ++ [MV.tup [.obj c ms, .dct l, nw]]).length ≤ room := by rw [List.length_append, List.length_singleton]; lia
  have q2 : ds.length ≤ room := by lia
  apply ex2
  · unfold runBody
    unfold self8 at hleaf ⊢
    exact qs9 (r_unp (r_pop rfl q1 (st2 ..)) (r_tt3 (st4 ..) (st5 ..) (st6 ..))) (kn9 (qs9 (r_set (r_callM (qv9 rfl) q09 hd (hp ..)) (st7 ..)) (kn9 (qs9 (r_if (qb9 (q29 (qv9 rfl) (r_lst q09 (nle9 rfl)) (po_eqn _ _ true rfl))) (ic_t (qs9 (r_app rfl (r_callM (qv9 rfl) (ql9 (qv9 rfl) (ql9 (qv9 rfl) q09)) rfl hleaf) rfl q2 (st3 ..)) (kn9 qn9)))) (kn9 qn9)))))
  · exact ⟨_, _, _, _, _, _, _, _, _, rfl⟩
noncomputable def conv (n : Str) (as : List MV) : MV := .obj 7 [.str n, .lst as]
theorem con_parts1 (G : Gst) (n x : MV) : S_Con_parts [.obj 7 [n, .lst [x]]] G = some (.lst [.tup [x, .tup []]], G) := by kernel_rfl
theorem con_parts2 (G : Gst) (n x y : MV) : S_Con_parts [.obj 7 [n, .lst [x, y]]] G = some (.lst [.tup [x, .tup []], .tup [y, .tup []]], G) := by kernel_rfl
theorem con_parts3 (G : Gst) (n x y z : MV) : S_Con_parts [.obj 7 [n, .lst [x, y, z]]] G = some (.lst [.tup [x, .tup []], .tup [y, .tup []], .tup [z, .tup []]], G) := by kernel_rfl
theorem con_groups (G : Gst) (n x : MV) : S_Con_groups [.obj 7 [n, x]] G = some (.lst [], G) := by kernel_rfl
theorem ng_nil (G : Gst) : S_Renamer_new_groups [self8, .lst []] G = some (.lst [], G) := by kernel_rfl
theorem open_con (e n : MV) (as : List MV) (G : Gst) (l : List (Str × MV)) (ts ds : List MV) (h0 : as ≠ []) (h3 : as.length ≤ 3) (ht : ts.length ≤ 1000) (hds : ds.length ≤ 1000) :
    Step e (ts ++ [.tup [.obj 7 [n, .lst as], .dct l, .none]]) ds G (ts ++ [.tup [.obj 7 [n, .lst as], .dct l, .lst []]] ++ as.reverse.map (fun a => .tup [a, .dct l, .none])) ds G := by
  rintro ρ ⟨z4, z5, z6, z7, z8, z9, z10, z11, z12, rfl⟩
  have hr : room = 100000 := rfl
  have q0 : ∀ x, (ts ++ [x]).length ≤ room := fun x => by rw [List.length_append, List.length_singleton]; lia
  have q1 : ts.length ≤ room := by lia
  have q2 : ∀ x y, ((ts ++ [x]) ++ [y]).length ≤ room := fun x y => by rw [List.length_append, List.length_append, List.length_singleton, List.length_singleton]; lia
  have q3 : ∀ x y z, (((ts ++ [x]) ++ [y]) ++ [z]).length ≤ room := fun x y z => by rw [List.length_append, List.length_append, List.length_append, List.length_singleton, List.length_singleton, List.length_singleton]; lia
  have i0 := fun G l => inner0 G l (.lst []) (.lst [])
  have n0 := ng_nil
  unfold self8 at i0 n0 ⊢
  unfold runBody
  cases ll1_of h3 with
  | z => exact absurd rfl h0
  | o a =>
    apply ex2
    · exact qs9 (r_unp (r_pop rfl (q0 ..) (st2 ..)) (r_tt3 (st4 ..) (st5 ..) (st6 ..))) (kn9 (qs9 (r_set (r_callM (qv9 rfl) q09 rfl (con_parts1 ..)) (st7 ..)) (kn9 (qs9 (r_if (qb9 (q29 (qv9 rfl) (r_lst q09 (nle9 rfl)) (po_eqn _ _ false rfl))) (ic_f (qs9 (r_if (qb9 (q29 (qv9 rfl) qc9 (po_isn ..))) (ic_t (qs9 (r_set (r_callM (qv9 rfl) q09 rfl (con_groups ..)) (st8 ..)) (kn9 (qs9 (r_set (r_callM (qv9 rfl) (ql9 (qv9 rfl) q09) rfl (n0 ..)) (st6 ..)) (kn9 (qs9 (r_app rfl (r_tup (ql9 (qv9 rfl) (ql9 (qv9 rfl) (ql9 (qv9 rfl) q09))) (nle9 rfl)) rfl q1 (st2 ..)) (kn9 (qs9 (r_for (r_it (qv9 rfl) (itRv1 ..)) (r_loop1 (r_tt2 (st9 ..) (st10 ..)) (qs9 (r_app rfl (r_tup (ql9 (qv9 rfl) (ql9 (r_callM (qv9 rfl) (ql9 (qv9 rfl) (ql9 (qv9 rfl) (ql9 (qv9 rfl) (ql9 (qv9 rfl) q09)))) rfl (i0 ..)) (ql9 qc9 q09))) (nle9 rfl)) rfl (q0 ..) (st2 ..)) (kn9 qn9)) (lc_nxt r_loop0))) (kn9 qn9)))))))))) (kn9 qn9)))) (kn9 qn9)))))
    · exact ⟨_, _, _, _, _, _, _, _, _, rfl⟩
  | t a b =>
    apply ex2
    · exact qs9 (r_unp (r_pop rfl (q0 ..) (st2 ..)) (r_tt3 (st4 ..) (st5 ..) (st6 ..))) (kn9 (qs9 (r_set (r_callM (qv9 rfl) q09 rfl (con_parts2 ..)) (st7 ..)) (kn9 (qs9 (r_if (qb9 (q29 (qv9 rfl) (r_lst q09 (nle9 rfl)) (po_eqn _ _ false rfl))) (ic_f (qs9 (r_if (qb9 (q29 (qv9 rfl) qc9 (po_isn ..))) (ic_t (qs9 (r_set (r_callM (qv9 rfl) q09 rfl (con_groups ..)) (st8 ..)) (kn9 (qs9 (r_set (r_callM (qv9 rfl) (ql9 (qv9 rfl) q09) rfl (n0 ..)) (st6 ..)) (kn9 (qs9 (r_app rfl (r_tup (ql9 (qv9 rfl) (ql9 (qv9 rfl) (ql9 (qv9 rfl) q09))) (nle9 rfl)) rfl q1 (st2 ..)) (kn9 (qs9 (r_for (r_it (qv9 rfl) (itRv2 ..)) (r_loop1 (r_tt2 (st9 ..) (st10 ..)) (qs9 (r_app rfl (r_tup (ql9 (qv9 rfl) (ql9 (r_callM (qv9 rfl) (ql9 (qv9 rfl) (ql9 (qv9 rfl) (ql9 (qv9 rfl) (ql9 (qv9 rfl) q09)))) rfl (i0 ..)) (ql9 qc9 q09))) (nle9 rfl)) rfl (q0 ..) (st2 ..)) (kn9 qn9)) (lc_nxt (r_loop1 (r_tt2 (st9 ..) (st10 ..)) (qs9 (r_app rfl (r_tup (ql9 (qv9 rfl) (ql9 (r_callM (qv9 rfl) (ql9 (qv9 rfl) (ql9 (qv9 rfl) (ql9 (qv9 rfl) (ql9 (qv9 rfl) q09)))) rfl (i0 ..)) (ql9 qc9 q09))) (nle9 rfl)) rfl (q2 ..) (st2 ..)) (kn9 qn9)) (lc_nxt r_loop0))))) (kn9 qn9)))))))))) (kn9 qn9)))) (kn9 qn9)))))
    · exact IsRS.cast (by simp) rfl ⟨_, _, _, _, _, _, _, _, _, rfl⟩
  | h a b c =>
    apply ex2
    · exact qs9 (r_unp (r_pop rfl (q0 ..) (st2 ..)) (r_tt3 (st4 ..) (st5 ..) (st6 ..))) (kn9 (qs9 (r_set (r_callM (qv9 rfl) q09 rfl (con_parts3 ..)) (st7 ..)) (kn9 (qs9 (r_if (qb9 (q29 (qv9 rfl) (r_lst q09 (nle9 rfl)) (po_eqn _ _ false rfl))) (ic_f (qs9 (r_if (qb9 (q29 (qv9 rfl) qc9 (po_isn ..))) (ic_t (qs9 (r_set (r_callM (qv9 rfl) q09 rfl (con_groups ..)) (st8 ..)) (kn9 (qs9 (r_set (r_callM (qv9 rfl) (ql9 (qv9 rfl) q09) rfl (n0 ..)) (st6 ..)) (kn9 (qs9 (r_app rfl (r_tup (ql9 (qv9 rfl) (ql9 (qv9 rfl) (ql9 (qv9 rfl) q09))) (nle9 rfl)) rfl q1 (st2 ..)) (kn9 (qs9 (r_for (r_it (qv9 rfl) (itRv3 ..)) (r_loop1 (r_tt2 (st9 ..) (st10 ..)) (qs9 (r_app rfl (r_tup (ql9 (qv9 rfl) (ql9 (r_callM (qv9 rfl) (ql9 (qv9 rfl) (ql9 (qv9 rfl) (ql9 (qv9 rfl) (ql9 (qv9 rfl) q09)))) rfl (i0 ..)) (ql9 qc9 q09))) (nle9 rfl)) rfl (q0 ..) (st2 ..)) (kn9 qn9)) (lc_nxt (r_loop1 (r_tt2 (st9 ..) (st10 ..)) (qs9 (r_app rfl (r_tup (ql9 (qv9 rfl) (ql9 (r_callM (qv9 rfl) (ql9 (qv9 rfl) (ql9 (qv9 rfl) (ql9 (qv9 rfl) (ql9 (qv9 rfl) q09)))) rfl (i0 ..)) (ql9 qc9 q09))) (nle9 rfl)) rfl (q2 ..) (st2 ..)) (kn9 qn9)) (lc_nxt (r_loop1 (r_tt2 (st9 ..) (st10 ..)) (qs9 (r_app rfl (r_tup (ql9 (qv9 rfl) (ql9 (r_callM (qv9 rfl) (ql9 (qv9 rfl) (ql9 (qv9 rfl) (ql9 (qv9 rfl) (ql9 (qv9 rfl) q09)))) rfl (i0 ..)) (ql9 qc9 q09))) (nle9 rfl)) rfl (q3 ..) (st2 ..)) (kn9 qn9)) (lc_nxt r_loop0))))))) (kn9 qn9)))))))))) (kn9 qn9)))) (kn9 qn9)))))
    · exact IsRS.cast (by simp) rfl ⟨_, _, _, _, _, _, _, _, _, rfl⟩
theorem close_node (e : MV) (c : Nat) (ms : List MV) (nw : List MV) (names node' : MV) (sp sr : List MV → Gst → Option (MV × Gst)) (G : Gst) (ts ds xs pl : List MV) (hd : D_parts c = some sp) (hdr : D_rebuilt c = some sr) (hp : ∀ G, sp [.obj c ms] G = some (.lst pl, G))
    (hpl : pl.isEmpty = false) (hx : pl.length = xs.length) (hreb : ∀ G, sr [.obj c ms, .lst nw, .lst xs] G = some (node', G)) (ht : ts.length ≤ 1000) (hds : ds.length ≤ 1000) (hxs : xs.length ≤ 1000) :
    Step e (ts ++ [.tup [.obj c ms, names, .lst nw]]) (ds ++ xs) G ts (ds ++ [node']) G := by
  rintro ρ ⟨z4, z5, z6, z7, z8, z9, z10, z11, z12, rfl⟩
  have hr : room = 100000 := rfl
  have q0 : ∀ x, (ts ++ [x]).length ≤ room := fun x => by rw [List.length_append, List.length_singleton]; lia
  have q1 : (ds ++ xs).length ≤ room := by rw [List.length_append]; lia
  have q2 : ∀ G, opLen [.lst pl] G = some (.int xs.length, G) := fun G => by rw [opLen_ok (by lia), hx]
  have q3 : ∀ G, pureOp (binMV .Sub) G (.int (ds ++ xs).length) (.int xs.length) = some (.int ds.length, G) := fun G => po_sub _ _ _ _ (List.length_append ..)
  have q4 : (ds ++ xs).drop ds.length = xs := List.drop_left ..
  have q5 : (ds ++ xs).take ds.length = ds := List.take_left ..
  have q6 : ds.length ≤ (ds ++ xs).length := by rw [List.length_append]; lia
  have q7 : ds.length ≤ room := by lia
  have q8 : ∀ G, pureOp (cmpMV .Eq) G (.lst pl) (.lst []) = some (.bool false, G) := fun G => po_eqn _ _ _ hpl
  unfold runBody
  apply ex2
  · exact qs9 (r_unp (r_pop rfl (q0 ..) (st2 ..)) (r_tt3 (st4 ..) (st5 ..) (st6 ..))) (kn9 (qs9 (r_set (r_callM (qv9 rfl) q09 hd (hp ..)) (st7 ..)) (kn9 (qs9 (r_if (qb9 (q29 (qv9 rfl) (r_lst q09 (nle9 rfl)) (q8 ..))) (ic_f (qs9 (r_if (qb9 (q29 (qv9 rfl) qc9 (po_isl ..))) (ic_f (qs9 (r_set (qa9 (ql9 (qv9 rfl) q09) (q2 ..)) (st11 ..)) (kn9 (qs9 (r_set (r_callM (qv9 rfl) (ql9 (qv9 rfl) (ql9 (r_drop rfl (q29 (r_lenown rfl q1) (qv9 rfl) (q3 ..)) rfl q1 q4) q09)) hdr (hreb ..)) (st12 ..)) (kn9 (qs9 (r_del rfl (q29 (r_lenown rfl q1) (qv9 rfl) (q3 ..)) rfl q6 q1 q5 (st3 ..)) (kn9 (qs9 (r_app rfl (qv9 rfl) rfl q7 (st3 ..)) (kn9 qn9)))))))))) (kn9 qn9)))) (kn9 qn9)))))
  · exact ⟨_, _, _, _, _, _, _, _, _, rfl⟩
noncomputable def W (n : Nat) (s : Ab) : Option (Fl × Ab) := sWhile (tOwn 2) runBody n s
noncomputable def Run (e : MV) (K : Nat) (ts ds : List MV) (G : Gst) (ts' ds' : List MV) (G' : Gst) : Prop := ∀ ρ, IsRS e ts ds ρ → ∃ ρ' k, k ≤ K ∧ IsRS e ts' ds' ρ' ∧ ∀ n, W (n + k) (ρ, G) = W n (ρ', G')
theorem Run.of {e : MV} {ts ds ts' ds' : List MV} {G G' : Gst} {x : MV} (h : Step e (ts ++ [x]) ds G ts' ds' G') (ht : ts.length ≤ 1000) : Run e 1 (ts ++ [x]) ds G ts' ds' G' := by
  intro ρ r
  have hr : room = 100000 := rfl
  obtain ⟨ρ', h1, h2⟩ := h ρ r
  refine ⟨ρ', 1, Nat.le_refl _, h2, fun n => ?_⟩
  obtain ⟨z4, z5, z6, z7, z8, z9, z10, z11, z12, rfl⟩ := r
  have hb : (!(ts ++ [x]).isEmpty) = true := by cases ts <;> rfl
  exact w_true (r_town rfl (by rw [List.length_append, List.length_singleton]; lia) hb) h1 rfl
theorem Run.trans {e : MV} {K K' : Nat} {ts ds ts' ds' ts'' ds'' : List MV} {G G' G'' : Gst} (h : Run e K ts ds G ts' ds' G') (h' : Run e K' ts' ds' G' ts'' ds'' G'') : Run e (K + K') ts ds G ts'' ds'' G'' := by
  intro ρ r
  obtain ⟨ρ1, k1, l1, r1, e1⟩ := h ρ r
  obtain ⟨ρ2, k2, l2, r2, e2⟩ := h' ρ1 r1
  refine ⟨ρ2, k1 + k2, by lia, r2, fun n => ?_⟩
  rw [show n + (k1 + k2) = (n + k2) + k1 by lia, e1, e2]
theorem Run.refl {e : MV} {ts ds : List MV} {G : Gst} : Run e 0 ts ds G ts ds G := fun ρ r => ⟨ρ, 0, Nat.le_refl _, r, fun _ => rfl⟩
theorem Run.mono {e : MV} {K K' : Nat} {ts ds ts' ds' : List MV} {G G' : Gst} (h : Run e K ts ds G ts' ds' G') (l : K ≤ K') : Run e K' ts ds G ts' ds' G' := fun ρ r => let ⟨a, b, c, d⟩ := h ρ r; ⟨a, b, Nat.le_trans c l, d⟩
noncomputable def task (b : MV) (l : List (Str × MV)) : MV := .tup [b, .dct l, .none]
theorem run_at (e : MV) (a : At) (l : List (Str × MV)) (hl : NOK l) (G : Gst) (ts ds : List MV) (ht : ts.length ≤ 1000) (hds : ds.length ≤ 1000) : Run e 1 (ts ++ [task a.enc l]) ds G ts (ds ++ [(a.ren l).enc]) G := by
  have hleaf := leaf_at G l hl a
  cases a with
  | v x => exact Run.of (step_leaf e 0 [.str x] _ .none S_Var_parts G l ts ds rfl (fun G => by kernel_rfl) hleaf ht hds) ht
  | l i => exact Run.of (step_leaf e 1 [.str "int", .int i] _ .none S_Lit_parts G l ts ds rfl (fun G => by kernel_rfl) hleaf ht hds) ht
theorem run_ats (e : MV) (l : List (Str × MV)) (hl : NOK l) (G : Gst) : ∀ (as : List At) (ts ds : List MV), ts.length + as.length ≤ 1000 → ds.length + as.length ≤ 1000 →
    Run e as.length (ts ++ (as.map At.enc).reverse.map (fun a => task a l)) ds G ts (ds ++ (as.map (At.ren l)).map At.enc) G
  | [], ts, ds, _, _ => by
    simp only [List.map_nil, List.reverse_nil, List.append_nil]
    exact Run.refl
  | a :: as, ts, ds, ht, hds => by
    rw [List.length_cons] at ht hds ⊢
    have h1 := run_at e a l hl G (ts ++ (as.map At.enc).reverse.map (fun a => task a l)) ds (by simp; lia) (by lia)
    have h2 := run_ats e l hl G as ts (ds ++ [(a.ren l).enc]) (by lia) (by simp; lia)
    have h3 := (h1.trans h2).mono (K' := as.length + 1) (by lia)
    simp only [List.map_cons, List.reverse_cons, List.map_append, List.map_nil, List.append_assoc, List.cons_append, List.nil_append] at h3 ⊢
    exact h3
theorem con_reb (G : Gst) (n a b x : MV) : S_Con_rebuilt [.obj 7 [n, a], b, x] G = some (.obj 7 [n, x], G) := by kernel_rfl
theorem con_parts (n : MV) (as : List MV) (h3 : as.length ≤ 3) : ∃ pl, pl.length = as.length ∧ ∀ G, S_Con_parts [.obj 7 [n, .lst as]] G = some (.lst pl, G) := by
  cases ll1_of h3 with
  | z => exact ⟨[], rfl, fun G => by kernel_rfl⟩
  | o a => exact ⟨[.tup [a, .tup []]], rfl, fun G => con_parts1 ..⟩
  | t a b => exact ⟨[.tup [a, .tup []], .tup [b, .tup []]], rfl, fun G => con_parts2 ..⟩
  | h a b c => exact ⟨[.tup [a, .tup []], .tup [b, .tup []], .tup [c, .tup []]], rfl, fun G => con_parts3 ..⟩
theorem run_sm (e : MV) (b : Sm) (hb : b.Wf) (l : List (Str × MV)) (hl : NOK l) (G : Gst) (ts ds : List MV) (ht : ts.length ≤ 900) (hds : ds.length ≤ 900) : Run e 5 (ts ++ [task b.enc l]) ds G ts (ds ++ [(b.ren l).enc]) G := by
  cases b with
  | atm a => exact (run_at e a l hl G ts ds (by lia) (by lia)).mono (by lia)
  | con n as =>
    have h3 : as.length ≤ 3 := hb
    by_cases h0 : as = []
    · subst h0
      exact (Run.of (step_leaf e 7 [.str n, .lst []] _ .none S_Con_parts G l ts ds rfl (fun G => by kernel_rfl) (leaf_con G l _ _) (by lia) (by lia)) (by lia)).mono (by lia)
    · have h1 : Run e 1 (ts ++ [task (Sm.enc (.con n as)) l]) ds G _ _ _ := Run.of (open_con e (.str n) (as.map At.enc) G l ts ds (by simpa using h0) (by simpa using h3) (by lia) (by lia)) (by lia)
      have h2 := run_ats e l hl G as (ts ++ [.tup [.obj 7 [.str n, .lst (as.map At.enc)], .dct l, .lst []]]) ds (by simp; lia) (by lia)
      obtain ⟨pl, p1, p2⟩ := con_parts (.str n) (as.map At.enc) (by simpa using h3)
      have h4 := close_node e 7 [.str n, .lst (as.map At.enc)] [] (.dct l) (Sm.enc (.con n (as.map (At.ren l)))) S_Con_parts S_Con_rebuilt G ts ds ((as.map (At.ren l)).map At.enc) pl rfl rfl p2 (by
        cases pl with
        | nil => rw [List.length_nil, List.length_map] at p1; exact absurd (List.length_eq_zero_iff.mp p1.symm) h0
        | cons _ _ => rfl) (by rw [p1]; simp) (fun G => con_reb ..) (by lia) (by lia) (by simp; lia)
      exact ((h1.trans h2).trans (Run.of h4 (by lia))).mono (by lia)
end Mine
end

section
namespace Mine
open PySem
structure It where
  b : Sm
  sc : MV
  l : List (Str × MV)
noncomputable def It.part (i : It) : MV := .tup [i.b.enc, i.sc]
noncomputable def It.task (i : It) : MV := Mine.task i.b.enc i.l
noncomputable def It.out (i : It) : MV := (i.b.ren i.l).enc
theorem run_items (e : MV) (G : Gst) : ∀ (its : List It) (ts ds : List MV), (∀ i ∈ its, i.b.Wf ∧ NOK i.l) → ts.length + its.length ≤ 900 → ds.length + its.length ≤ 900 →
    Run e (5 * its.length) (ts ++ its.reverse.map It.task) ds G ts (ds ++ its.map It.out) G
  | [], ts, ds, _, _, _ => by
    simp only [List.map_nil, List.reverse_nil, List.append_nil]
    exact Run.refl
  | i :: its, ts, ds, h, ht, hds => by
    rw [List.length_cons] at ht hds ⊢
    have h1 := run_sm e i.b (h i (.head _)).1 i.l (h i (.head _)).2 G (ts ++ its.reverse.map It.task) ds (by simp; lia) (by lia)
    have h2 := run_items e G its ts (ds ++ [i.out]) (fun j hj => h j (.tail _ hj)) (by lia) (by simp; lia)
    have h3 := (h1.trans h2).mono (K' := 5 * (its.length + 1)) (by lia)
    simp only [List.map_cons, List.reverse_cons, List.map_append, List.map_nil, List.append_assoc, List.cons_append, List.nil_append] at h3 ⊢
    exact h3
noncomputable def pushB : Ab → Option (Fl × Ab) := (sSeq (sApp 2 (fTup (lC9 (gv9 9) (lC9 (fCallM D_inner (gv9 0) (lC9 (gv9 5) (lC9 (gv9 10) (lC9 (gv9 8) (lC9 (gv9 6) l09))))) (lC9 (fK9 .none) l09))))) sNil)
theorem push_loop (e node gs ns pl : MV) (G : Gst) : ∀ (its : List It) (ts ds : List MV) (z9 z10 z11 z12 : Slot), (∀ i ∈ its, S_Renamer_inner [self8, .dct [], i.sc, gs, ns] G = some (.dct i.l, G)) → ts.length + its.length ≤ 900 →
    ∃ z9' z10', loopF (tTup [9, 10]) pushB (its.map It.part) ([.val self8, .val e, .ownL ts, .ownL ds, .val node, .val (.dct []), .val ns, .val pl, .val gs, z9, z10, z11, z12], G) =
      some (.nxt, [.val self8, .val e, .ownL (ts ++ its.map It.task), .ownL ds, .val node, .val (.dct []), .val ns, .val pl, .val gs, z9', z10', z11, z12], G)
  | [], ts, ds, z9, z10, z11, z12, _, _ => ⟨z9, z10, by rw [List.map_nil, List.map_nil, List.append_nil]; rfl⟩
  | i :: its, ts, ds, z9, z10, z11, z12, h, ht => by
    rw [List.length_cons] at ht
    obtain ⟨z9', z10', e2⟩ := push_loop e node gs ns pl G its (ts ++ [i.task]) ds (.val i.b.enc) (.val i.sc) z11 z12 (fun j hj => h j (.tail _ hj)) (by simp; lia)
    rw [List.append_assoc] at e2
    refine ⟨z9', z10', ?_⟩
    rw [List.map_cons]
    have hi := h i (.head _)
    have hr : room = 100000 := rfl
    have q : ts.length ≤ room := by lia
    refine r_loop1 (r_tt2 rfl rfl) (?_ : pushB ([.val self8, .val e, .ownL ts, .ownL ds, .val node, .val (.dct []), .val ns, .val pl, .val gs, .val i.b.enc, .val i.sc, z11, z12], G) = some (.nxt, [.val self8, .val e, .ownL (ts ++ [i.task]), .ownL ds, .val node, .val (.dct []), .val ns, .val pl, .val gs, .val i.b.enc, .val i.sc, z11, z12], G)) e2
    unfold pushB It.task task
    unfold self8 at hi ⊢
    exact qs9 (r_app rfl (r_tup (ql9 (qv9 rfl) (ql9 (r_callM (qv9 rfl) (ql9 (qv9 rfl) (ql9 (qv9 rfl) (ql9 (qv9 rfl) (ql9 (qv9 rfl) q09)))) rfl hi) (ql9 qc9 q09))) (nle9 rfl)) rfl q (st2 ..)) (kn9 qn9)
theorem open_node (e : MV) (c : Nat) (ms gl nl : List MV) (sp sg : List MV → Gst → Option (MV × Gst)) (G G' : Gst) (its : List It) (hd : D_parts c = some sp) (hdg : D_groups c = some sg)
    (hp : ∀ G, sp [.obj c ms] G = some (.lst (its.map It.part), G)) (hg : ∀ G, sg [.obj c ms] G = some (.lst gl, G)) (hn : S_Renamer_new_groups [self8, .lst gl] G = some (.lst nl, G')) (h0 : (its.map It.part).isEmpty = false)
    (hi : ∀ i ∈ its, S_Renamer_inner [self8, .dct [], i.sc, .lst gl, .lst nl] G' = some (.dct i.l, G')) (hl : its.length ≤ 100) :
    Step e ([] ++ [task (.obj c ms) []]) [] G ([.tup [.obj c ms, .dct [], .lst nl]] ++ its.reverse.map It.task) [] G' := by
  rintro ρ ⟨z4, z5, z6, z7, z8, z9, z10, z11, z12, rfl⟩
  have q8 : ∀ G, pureOp (cmpMV .Eq) G (.lst (its.map It.part)) (.lst []) = some (.bool false, G) := fun G => po_eqn _ _ _ h0
  have q9 : itRev (.lst (its.map It.part)) = some (its.reverse.map It.part) := by show some _ = _; rw [List.map_reverse]
  obtain ⟨z9', z10', e2⟩ := push_loop e (.obj c ms) (.lst gl) (.lst nl) (.lst (its.map It.part)) G' its.reverse [.tup [.obj c ms, .dct [], .lst nl]] [] z9 z10 z11 z12 (fun i hi' => hi i (List.mem_reverse.mp hi')) (by simp; lia)
  unfold runBody task
  unfold self8 at hn e2 ⊢
  apply ex2
  · exact qs9 (r_unp (r_pop rfl (nle9 rfl) (st2 ..)) (r_tt3 (st4 ..) (st5 ..) (st6 ..))) (kn9 (qs9 (r_set (r_callM (qv9 rfl) q09 hd (hp ..)) (st7 ..)) (kn9 (qs9 (r_if (qb9 (q29 (qv9 rfl) (r_lst q09 (nle9 rfl)) (q8 ..))) (ic_f (qs9 (r_if (qb9 (q29 (qv9 rfl) qc9 (po_isn ..))) (ic_t (qs9 (r_set (r_callM (qv9 rfl) q09 hdg (hg ..)) (st8 ..)) (kn9 (qs9 (r_set (r_callM (qv9 rfl) (ql9 (qv9 rfl) q09) rfl hn) (st6 ..)) (kn9 (qs9 (r_app rfl (r_tup (ql9 (qv9 rfl) (ql9 (qv9 rfl) (ql9 (qv9 rfl) q09))) (nle9 rfl)) rfl (nle9 rfl) (st2 ..)) (kn9 (qs9 (r_for (r_it (qv9 rfl) q9) e2) (kn9 qn9)))))))))) (kn9 qn9)))) (kn9 qn9)))))
  · exact ⟨_, _, _, _, _, _, _, _, _, rfl⟩
end Mine
end

section
namespace Mine
open PySem
theorem renamer_run {e r : MV} {K : Nat} {G G' : Gst} (h : Run e K ([] ++ [task e []]) [] G [] [r] G') (hK : K ≤ 900) : S_Renamer_run [self8, e] G = some (r, G') := by
  obtain ⟨ρ', k, hk, ⟨z4, z5, z6, z7, z8, z9, z10, z11, z12, rfl⟩, hW⟩ := h _ ⟨.un, .un, .un, .un, .un, .un, .un, .un, .un, rfl⟩
  have h2 := hW (999 - k + 1)
  rw [show 999 - k + 1 + k = N by unfold N; lia] at h2
  have h3 : W (999 - k + 1) ([.val self8, .val e, .ownL [], .ownL [r], z4, z5, z6, z7, z8, z9, z10, z11, z12], G') = some (.nxt, [.val self8, .val e, .ownL [], .ownL [r], z4, z5, z6, z7, z8, z9, z10, z11, z12], G') :=
    w_false (r_town rfl (Nat.zero_le _) rfl)
  rw [h3] at h2
  unfold S_Renamer_run F_Renamer_run
  unfold W runBody task at h2
  unfold self8 at h2 ⊢
  exact r_spec rfl (r_start rfl) (qs9 (r_pair (r_pnil (r_gl (ql9 (r_tup (ql9 (qv9 rfl) (ql9 r_d0 (ql9 qc9 q09))) (nle9 rfl)) q09) (nle9 rfl))) (st3 ..) (st2 ..)) (kn9 (qs9 h2 (kn9 (qs9 (r_ret (q29 (r_vall rfl (st3 ..)) qc9 (fIdx_l0 ..))) k_ret)))))
theorem renamed_of {e r : MV} {K : Nat} {G G' : Gst} (h : Run e K ([] ++ [task e []]) [] G [] [r] G') (hK : K ≤ 900) : S_renamed [e, fr] G = some (r, G') := by
  have h1 := renamer_run h hK
  unfold S_renamed F_renamed
  unfold self8 at h1
  exact r_spec rfl (r_start rfl) (qs9 (r_ret (r_callM (qa9 (ql9 (qv9 rfl) (ql9 r_d0 q09)) (cls8 ..)) (ql9 (qv9 rfl) q09) rfl h1)) k_ret)
theorem NOK.nil : NOK [] := fun x v h => by cases h
theorem NOK.set {l : List (Str × MV)} (h : NOK l) (x y : Str) : NOK (mSet l x (.str y)) := fun z v e => by
  rw [mAt_mSet] at e
  split at e
  · cases e; exact ⟨_, rfl⟩
  · exact h z v e
theorem NOK.sets : ∀ {xs ys : List Str} {l : List (Str × MV)}, NOK l → NOK (msets l xs ys)
  | [], _, _, h => by simpa [msets] using h
  | _ :: _, [], _, h => by simpa [msets] using h
  | x :: xs, y :: ys, l, h => by unfold msets; exact NOK.sets (h.set x y)
theorem rn_nil (x : Str) : rn [] x = x := rfl
theorem At.ren_nil (a : At) : a.ren [] = a := by cases a <;> rfl
theorem Sm.ren_nil (b : Sm) : b.ren [] = b := by
  cases b with
  | atm a => show Sm.atm (a.ren []) = _; rw [At.ren_nil]
  | con n as =>
    show Sm.con n (as.map (At.ren [])) = _
    have : as.map (At.ren []) = as := by
      induction as with
      | nil => rfl
      | cons a as ih => rw [List.map_cons, At.ren_nil, ih]
    rw [this]
theorem PLBS {x : Str} (h : x ∈ PL) : x ∈ BS := by
  simp only [PL, BS, List.mem_cons, List.not_mem_nil, or_false] at h ⊢
  rcases h with h | h | h | h | h | h | h <;> simp [h]
section
variable (own own' : Str)
noncomputable def iAlts : Nat → List Al → List (List Str) → List It
  | i, a :: r, f :: fs => ⟨a.body, .tup [.int 0, .int (i + 1 : Nat)], msets (mSet [] own (.str own')) a.fs f⟩ :: iAlts (i + 1) r fs
  | _, _, _ => []
noncomputable def rAlts : List Al → List (List Str) → List Al
  | a :: r, f :: fs => ⟨a.key, f, a.body.ren (msets (mSet [] own (.str own')) a.fs f)⟩ :: rAlts r fs
  | _, _ => []
theorem iAlts_part : ∀ (i : Nat) (l : List Al) (fs : List (List Str)), l.length = fs.length → (iAlts own own' i l fs).map It.part = pAlts i l
  | _, [], _, _ => rfl
  | _, _ :: _, [], h => by cases h
  | i, a :: r, f :: fs, h => by
    show _ :: _ = _ :: _
    rw [iAlts_part (i + 1) r fs (by simpa using h)]; rfl
theorem iAlts_length : ∀ (i : Nat) (l : List Al) (fs : List (List Str)), l.length = fs.length → (iAlts own own' i l fs).length = l.length
  | _, [], _, _ => rfl
  | _, _ :: _, [], h => by cases h
  | i, a :: r, f :: fs, h => by
    show (iAlts own own' (i + 1) r fs).length + 1 = _
    rw [iAlts_length (i + 1) r fs (by simpa using h)]; rfl
theorem iAlts_out : ∀ (i : Nat) (l : List Al) (fs : List (List Str)), l.length = fs.length → zAlts l (fs.map fun g => .lst (g.map .str)) ((iAlts own own' i l fs).map It.out) = (rAlts own own' l fs).map Al.enc
  | _, [], _, _ => rfl
  | _, _ :: _, [], h => by cases h
  | i, a :: r, f :: fs, h => by
    show _ :: _ = _ :: _
    rw [iAlts_out (i + 1) r fs (by simpa using h)]; rfl
theorem iAlts_ok : ∀ (i : Nat) (l : List Al) (fs : List (List Str)), (∀ a ∈ l, a.Ok) → ∀ it ∈ iAlts own own' i l fs, it.b.Wf ∧ NOK it.l
  | _, [], _, _ => fun it h => by cases h
  | _, _ :: _, [], _ => fun it h => by cases h
  | i, a :: r, f :: fs, ho => fun it h => by
    rcases List.mem_cons.mp h with rfl | h
    · exact ⟨(ho a (.head _)).body.wf, (NOK.nil.set _ _).sets⟩
    · exact iAlts_ok (i + 1) r fs (fun b hb => ho b (.tail _ hb)) it h
theorem iAlts_inner (G : Gst) (gl nl : List MV) : ∀ (i : Nat) (l : List Al) (fs : List (List Str)), gl.drop i = (l.map Al.fs).map (fun g => .lst (g.map .str)) → nl.drop i = fs.map (fun g => .lst (g.map .str)) → F2 (F2 New) (l.map Al.fs) fs → (∀ a ∈ l, a.Ok) → i + l.length ≤ 100 →
    ∀ it ∈ iAlts own own' i l fs, S_Renamer_inner [self8, .dct [], it.sc, .lst (.lst [.str own] :: gl), .lst (.lst [.str own'] :: nl)] G = some (.dct it.l, G)
  | _, [], _, _, _, _, _, _ => fun it h => by cases h
  | _, _ :: _, [], _, _, _, _, _ => fun it h => by cases h
  | i, a :: r, f :: fs, hg, hn, hF, ho, hl => fun it h => by
    have at0 : ∀ {l : List MV} {k : Nat} {x : MV} {q : List MV}, l.drop k = x :: q → l[k]? = some x := fun {l k x q} h => by
      have h2 : (l.drop k)[0]? = some x := by rw [h]; rfl
      rw [List.getElem?_drop] at h2; exact h2
    have nx : ∀ {l : List MV} {k : Nat} {x : MV} {q : List MV}, l.drop k = x :: q → l.drop (k + 1) = q := fun {l k x q} h => by
      rw [← List.drop_drop, h]; rfl
    rw [List.length_cons] at hl
    rw [List.map_cons] at hF
    cases hF with
    | cons h1 h2 =>
      rcases List.mem_cons.mp h with rfl | h
      · exact inner2 G own own' gl nl i a.fs f (by lia) (at0 hg) (at0 hn) h1.length (ho a (.head _)).len
      · exact iAlts_inner G gl nl (i + 1) r fs (nx hg) (nx hn) h2 (fun b hb => ho b (.tail _ hb)) (by lia) it h
end
noncomputable def lss (l : List (List Str)) : List MV := l.map fun g => .lst (g.map .str)
noncomputable def RenOf (c c' : Cs) : Prop := ∃ own' fss', New c.own own' ∧ F2 (F2 New) (c.alts.map Al.fs) fss' ∧ c' = ⟨own', rAlts c.own own' c.alts fss', c.other.ren (mSet [] c.own (.str own'))⟩
theorem tot_le : ∀ (l : List Al), (∀ a ∈ l, a.Ok) → tot (l.map Al.fs) ≤ 3 * l.length
  | [], _ => Nat.zero_le _
  | a :: l, h => by
    have := tot_le l (fun b hb => h b (.tail _ hb))
    have := (h a (.head _)).len
    rw [List.map_cons, List.length_cons]
    unfold tot
    lia
set_option maxHeartbeats 1000000 in
theorem rename_case (t0 t1 : Bool) (g s : Int) (nums : List (Str × MV)) (B : Nat) (c : Cs) (v : Sm) (hc : c.Ok) (hv : v.Wf) (h : NumsOK B nums) (hB : B + 16 ≤ LIM) :
    ∃ c' nums', RenOf c c' ∧ NumsOK (B + 16) nums' ∧ S_renamed [c.enc v.enc, fr] (Sg t0 t1 g s nums) = some (c'.enc v.enc, Sg t0 t1 g s nums') := by
  have hlen := hc.len
  have ht := tot_le c.alts hc.alts
  have ht2 : tot (grs c) ≤ 16 := by unfold grs tot; simp only [List.length_singleton]; lia
  have hgr : ∀ gr ∈ grs c, gr.length ≤ 10 ∧ ∀ x ∈ gr, x ∈ BS := by
    intro gr hg
    rcases List.mem_cons.mp hg with rfl | hg
    · exact ⟨by simp, fun x hx => by rw [List.mem_singleton.mp hx]; exact PLBS hc.own⟩
    · obtain ⟨a, ha, rfl⟩ := List.mem_map.mp hg
      have := (hc.alts a ha).len
      exact ⟨by lia, fun x hx => PLBS ((hc.alts a ha).fs x hx)⟩
  obtain ⟨hs, nums', hF, hN, en⟩ := new_groups_ok t0 t1 g s (grs c) nums B hgr h (by lia) (by unfold grs; simp; lia)
  unfold grs at hF
  cases hF with
  | @cons _ h1 _ fss' hF1 hF2 =>
  cases hF1 with
  | @cons _ own' _ r1 hn hr =>
  cases hr
  have hlf : c.alts.length = fss'.length := by have := hF2.length; rwa [List.length_map] at this
  let its : List It := ⟨v, .tup [], []⟩ :: (iAlts c.own own' 0 c.alts fss' ++ [⟨c.other, .tup [.int 0], mSet [] c.own (.str own')⟩])
  have hp : its.map It.part = prts c v.enc := by
    show _ :: _ = _
    rw [List.map_append, iAlts_part _ _ _ _ _ hlf]; rfl
  have hil : (iAlts c.own own' 0 c.alts fss').length = c.alts.length := iAlts_length _ _ _ _ _ hlf
  have hits : its.length = c.alts.length + 2 := by
    show (_ :: _).length = _
    rw [List.length_cons, List.length_append, hil]; rfl
  have hok : ∀ i ∈ its, i.b.Wf ∧ NOK i.l := by
    intro i hi
    rcases List.mem_cons.mp hi with rfl | hi
    · exact ⟨hv, NOK.nil⟩
    · rcases List.mem_append.mp hi with hi | hi
      · exact iAlts_ok _ _ _ _ _ hc.alts i hi
      · rw [List.mem_singleton.mp hi]; exact ⟨hc.other.wf, NOK.nil.set _ _⟩
  have hin : ∀ i ∈ its, S_Renamer_inner [self8, .dct [], i.sc, .lst (.lst [.str c.own] :: (c.alts.map Al.fs).map fun g => .lst (g.map .str)), .lst (.lst [.str own'] :: lss fss')] (Sg t0 t1 g s nums') = some (.dct i.l, Sg t0 t1 g s nums') := by
    intro i hi
    rcases List.mem_cons.mp hi with rfl | hi
    · exact inner0 _ _ _ _
    · rcases List.mem_append.mp hi with hi | hi
      · exact iAlts_inner c.own own' _ _ _ 0 c.alts fss' rfl rfl hF2 hc.alts (by lia) i hi
      · rw [List.mem_singleton.mp hi]; exact inner1 _ _ _ _ _
  have en1 : S_Renamer_new_groups [self8, .lst (.lst [.str c.own] :: lss (c.alts.map Al.fs))] (Sg t0 t1 g s nums) = some (.lst (.lst [.str own'] :: lss fss'), Sg t0 t1 g s nums') := en
  have gg : ∀ G, S_Case_groups [.obj 6 [v.enc, .str c.own, .lst (c.alts.map Al.enc), c.other.enc]] G = some (.lst (.lst [.str c.own] :: lss (c.alts.map Al.fs)), G) := fun G => groups_ok G c v.enc hlen
  have pg : ∀ G, S_Case_parts [.obj 6 [v.enc, .str c.own, .lst (c.alts.map Al.enc), c.other.enc]] G = some (.lst (its.map It.part), G) := fun G => by rw [hp]; exact parts_ok G c v.enc hlen
  have ne : (its.map It.part).isEmpty = false := rfl
  have s1 := open_node (c.enc v.enc) 6 _ _ _ S_Case_parts S_Case_groups _ _ its rfl rfl pg gg en1 ne hin (by lia)
  have s2 := run_items (c.enc v.enc) (Sg t0 t1 g s nums') its [.tup [c.enc v.enc, .dct [], .lst (.lst [.str own'] :: lss fss')]] [] hok (by simp only [List.length_singleton]; lia) (by simp only [List.length_nil]; lia)
  have ho : its.map It.out = v.enc :: ((iAlts c.own own' 0 c.alts fss').map It.out ++ [(c.other.ren (mSet [] c.own (.str own'))).enc]) := by
    show It.out ⟨v, .tup [], []⟩ :: _ = _
    rw [List.map_append]
    unfold It.out
    simp only [Sm.ren_nil]; rfl
  have s3 := close_node (c.enc v.enc) 6 [v.enc, .str c.own, .lst (c.alts.map Al.enc), c.other.enc] (.lst [.str own'] :: lss fss') (.dct []) (Cs.enc v.enc ⟨own', rAlts c.own own' c.alts fss', c.other.ren (mSet [] c.own (.str own'))⟩) S_Case_parts S_Case_rebuilt (Sg t0 t1 g s nums') [] [] (its.map It.out) (prts c v.enc) rfl rfl
    (fun G => parts_ok G c v.enc hlen) rfl (by rw [← hp]; simp) (fun G => by
      rw [ho]
      have := rebuilt_ok G c v.enc v.enc (c.other.ren (mSet [] c.own (.str own'))).enc (.str own') (fss'.map fun g => .lst (g.map .str)) ((iAlts c.own own' 0 c.alts fss').map It.out) hlen (by rw [List.length_map, hlf]) (by rw [List.length_map, hil])
      rw [iAlts_out _ _ _ _ _ hlf] at this
      exact this) (by simp) (by simp) (by rw [List.length_map]; lia)
  refine ⟨⟨own', rAlts c.own own' c.alts fss', c.other.ren (mSet [] c.own (.str own'))⟩, nums', ⟨own', fss', hn, hF2, rfl⟩, hN.mono (by lia), ?_⟩
  have r1 := ((Run.of s1 (by simp)).trans s2).trans (Run.of s3 (by simp))
  exact renamed_of r1 (by lia)
end Mine
end

section
namespace Mine
open PySem
noncomputable def letM (x y a b c : MV) : MV := .obj 4 [.lst [.tup [x, a], .tup [y, b]], c, .bool false]
noncomputable def letE (x y : Str) (a b c : Sm) : MV := letM (.str x) (.str y) a.enc b.enc c.enc
theorem let_groups (G : Gst) (x y a b c : MV) : S_Let_groups [letM x y a b c] G = some (.lst [.lst [x, y]], G) := by kernel_rfl
theorem let_parts (G : Gst) (x y a b c : MV) : S_Let_parts [letM x y a b c] G = some (.lst [.tup [a, .tup []], .tup [b, .tup []], .tup [c, .tup [.int 0]]], G) := by kernel_rfl
theorem let_rebuilt (G : Gst) (x y a b c x' y' a' b' c' : MV) : S_Let_rebuilt [letM x y a b c, .lst [.lst [x', y']], .lst [a', b', c']] G = some (letM x' y' a' b' c', G) := by kernel_rfl
theorem let_inner (G : Gst) (x y x' y' : Str) : S_Renamer_inner [self8, .dct [], .tup [.int 0], .lst [.lst [.str x, .str y]], .lst [.lst [.str x', .str y']]] G = some (.dct (mSet (mSet [] x (.str x')) y (.str y')), G) := by kernel_rfl
set_option maxHeartbeats 1000000 in
theorem rename_let (t0 t1 : Bool) (g s : Int) (nums : List (Str × MV)) (B : Nat) (x y : Str) (a b c : Sm) (hx : x ∈ PL) (hy : y ∈ PL) (ha : a.Wf) (hb : b.Wf) (hc : c.Wf) (h : NumsOK B nums) (hB : B + 2 ≤ LIM) :
    ∃ x' y' nums', New x x' ∧ New y y' ∧ NumsOK (B + 2) nums' ∧ S_renamed [letE x y a b c, fr] (Sg t0 t1 g s nums) = some (letE x' y' a b (c.ren (mSet (mSet [] x (.str x')) y (.str y'))), Sg t0 t1 g s nums') := by
  obtain ⟨hs, nums', hF, hN, en⟩ := new_groups_ok t0 t1 g s [[x, y]] nums B (by
    intro gr hg
    rw [List.mem_singleton.mp hg]
    exact ⟨by simp, fun z hz => by
      rcases List.mem_cons.mp hz with rfl | hz
      · exact PLBS hx
      · rw [List.mem_singleton.mp hz]; exact PLBS hy⟩) h (by simpa [tot] using hB) (by simp)
  cases hF with
  | @cons _ h1 _ r1 hF1 hF2 =>
  cases hF2
  cases hF1 with
  | @cons _ x' _ r2 hn hF3 =>
  cases hF3 with
  | @cons _ y' _ r3 hn2 hF4 =>
  cases hF4
  let its : List It := [⟨a, .tup [], []⟩, ⟨b, .tup [], []⟩, ⟨c, .tup [.int 0], mSet (mSet [] x (.str x')) y (.str y')⟩]
  have hok : ∀ i ∈ its, i.b.Wf ∧ NOK i.l := by
    intro i hi
    rcases List.mem_cons.mp hi with rfl | hi
    · exact ⟨ha, NOK.nil⟩
    · rcases List.mem_cons.mp hi with rfl | hi
      · exact ⟨hb, NOK.nil⟩
      · rw [List.mem_singleton.mp hi]; exact ⟨hc, (NOK.nil.set _ _).set _ _⟩
  have hin : ∀ i ∈ its, S_Renamer_inner [self8, .dct [], i.sc, .lst [.lst [.str x, .str y]], .lst [.lst [.str x', .str y']]] (Sg t0 t1 g s nums') = some (.dct i.l, Sg t0 t1 g s nums') := by
    intro i hi
    rcases List.mem_cons.mp hi with rfl | hi
    · exact inner0 _ _ _ _
    · rcases List.mem_cons.mp hi with rfl | hi
      · exact inner0 _ _ _ _
      · rw [List.mem_singleton.mp hi]; exact let_inner _ _ _ _ _
  have s1 := open_node (letE x y a b c) 4 _ _ _ S_Let_parts S_Let_groups _ _ its rfl rfl (fun G => let_parts G ..) (fun G => let_groups G ..) en rfl hin (by simp [its])
  have s2 := run_items (letE x y a b c) (Sg t0 t1 g s nums') its [.tup [letE x y a b c, .dct [], .lst [.lst [.str x', .str y']]]] [] hok (by simp [its]) (by simp [its])
  have ho : its.map It.out = [a.enc, b.enc, (c.ren (mSet (mSet [] x (.str x')) y (.str y'))).enc] := by
    show [(a.ren []).enc, (b.ren []).enc, _] = _
    rw [Sm.ren_nil, Sm.ren_nil]; rfl
  have s3 := close_node (letE x y a b c) 4 [.lst [.tup [.str x, a.enc], .tup [.str y, b.enc]], c.enc, .bool false] [.lst [.str x', .str y']] (.dct []) (letE x' y' a b (c.ren (mSet (mSet [] x (.str x')) y (.str y')))) S_Let_parts S_Let_rebuilt (Sg t0 t1 g s nums') [] [] (its.map It.out) _ rfl rfl
    (fun G => let_parts G ..) rfl rfl (fun G => by rw [ho]; exact let_rebuilt ..) (by simp) (by simp) (by simp [its])
  refine ⟨x', y', nums', hn, hn2, hN, ?_⟩
  have r1 := ((Run.of s1 (by simp)).trans s2).trans (Run.of s3 (by simp))
  exact renamed_of r1 (by simp [its])
theorem outer_case_ok (t0 t1 : Bool) (g s : Int) (nums : List (Str × MV)) (B : Nat) (c : Cs) (v v' : MV) (hc : c.Ok) (h : NumsOK B nums) (hB : B + 16 ≤ LIM) :
    ∃ c' nums', RenOf c c' ∧ NumsOK (B + 16) nums' ∧ S_outer_case [c.enc v, v', fr] (Sg t0 t1 g s nums) = some (c'.enc v', Sg t0 t1 g s nums') := by
  obtain ⟨c', nums', h1, h2, e⟩ := rename_case t0 t1 g s nums B c (.atm (.v "value")) hc trivial h hB
  refine ⟨c', nums', h1, h2, ?_⟩
  unfold S_outer_case F_outer_case
  have e : S_renamed [.obj 6 [.obj 0 [.str "value"], .str c.own, .lst (c.alts.map Al.enc), c.other.enc], .obj 9 [.glo 3, .glo 4]] (Sg t0 t1 g s nums) = some (.obj 6 [.obj 0 [.str "value"], .str c'.own, .lst (c'.alts.map Al.enc), c'.other.enc], Sg t0 t1 g s nums') := e
  unfold Cs.enc fr
  exact r_spec rfl (r_start rfl) (qs9 (r_set (qa9 (ql9 (qa9 (ql9 (qa9 (ql9 qc9 q09) (cls0 ..)) (ql9 (q19 (qv9 rfl) (at6_1 ..)) (ql9 (q19 (qv9 rfl) (at6_2 ..)) (ql9 (q19 (qv9 rfl) (at6_3 ..)) q09)))) (cls6 ..)) (ql9 (qv9 rfl) q09)) e) (st3 ..)) (kn9 (qs9 (r_ret (qa9 (ql9 (qv9 rfl) (ql9 (q19 (qv9 rfl) (at6_1 ..)) (ql9 (q19 (qv9 rfl) (at6_2 ..)) (ql9 (q19 (qv9 rfl) (at6_3 ..)) q09)))) (cls6 ..))) k_ret)))
noncomputable def wl (l : List MV) (b : MV) : MV := if l.isEmpty then b else .obj 4 [.lst l, b, .bool false]
theorem wlT {l : List MV} (h : l.isEmpty = true) (b : MV) : wl l b = b := if_pos h
theorem wlF {l : List MV} (h : l.isEmpty = false) (b : MV) : wl l b = .obj 4 [.lst l, b, .bool false] := by unfold wl; rw [h]; rfl
noncomputable def wlB : Ab → Option (Fl × Ab) := (sSeq (sIf (asBool (f2 (gv9 2) (fLst l09) (pureOp (cmpMV .NotEq)))) (sSeq (sSet 1 (fA9 (clsSpec 4) (lC9 (gv9 2) (lC9 (gv9 1) (lC9 (fK9 (.bool false)) l09))))) sNil) sNil) sNil)
theorem wl_step (G : Gst) (x b : MV) (l : List MV) : wlB ([.val x, .val b, .val (.lst l)], G) = some (.nxt, [.val x, .val (wl l b), .val (.lst l)], G) := by
  cases h : l.isEmpty with
  | true =>
    rw [wlT h]
    have q := fun G => po_nen G l false (by rw [h]; rfl)
    unfold wlB
    exact qs9 (r_if (qb9 (q29 (qv9 rfl) (r_lst q09 (nle9 rfl)) (q ..))) (ic_f qn9)) (kn9 qn9)
  | false =>
    rw [wlF h]
    have q := fun G => po_nen G l true (by rw [h]; rfl)
    unfold wlB
    exact qs9 (r_if (qb9 (q29 (qv9 rfl) (r_lst q09 (nle9 rfl)) (q ..))) (ic_t (qs9 (r_set (qa9 (ql9 (qv9 rfl) (ql9 (qv9 rfl) (ql9 qc9 q09))) (cls4 ..)) (st1 ..)) (kn9 qn9)))) (kn9 qn9)
theorem r_loopn {G : Gst} {ρ ρ₁ : List Slot} {s₁ : Ab} {T : MV → List Slot → Option (List Slot)} {B : Ab → Option (Fl × Ab)} {x : MV} {l : List MV} {r : Option (Fl × Ab)} (hT : T x ρ = some ρ₁) (h : B (ρ₁, G) = some (.nxt, s₁)) (k : loopF T B l s₁ = r) : loopF T B (x :: l) (ρ, G) = r := r_loop1 hT h k
theorem with2 (G : Gst) (a b : List MV) (x : MV) : S_with_lets [.lst [.lst a, .lst b], x] G = some (wl a (wl b x), G) := by
  have e : loopF (tName 2) wlB [.lst b, .lst a] ([.val (.lst [.lst a, .lst b]), .val x, .un], G) = some (.nxt, [.val (.lst [.lst a, .lst b]), .val (wl a (wl b x)), .val (.lst a)], G) :=
    r_loopn rfl (wl_step ..) (r_loopn rfl (wl_step ..) r_loop0)
  unfold wlB at e
  unfold S_with_lets F_with_lets
  exact r_spec rfl (r_start rfl) (qs9 (r_for (r_it (qv9 rfl) (itRv2 ..)) e) (kn9 (qs9 (r_ret (qv9 rfl)) k_ret)))
theorem with3 (G : Gst) (a b c : List MV) (x : MV) : S_with_lets [.lst [.lst a, .lst b, .lst c], x] G = some (wl a (wl b (wl c x)), G) := by
  have e : loopF (tName 2) wlB [.lst c, .lst b, .lst a] ([.val (.lst [.lst a, .lst b, .lst c]), .val x, .un], G) = some (.nxt, [.val (.lst [.lst a, .lst b, .lst c]), .val (wl a (wl b (wl c x))), .val (.lst a)], G) :=
    r_loopn rfl (wl_step ..) (r_loopn rfl (wl_step ..) (r_loopn rfl (wl_step ..) r_loop0))
  unfold wlB at e
  unfold S_with_lets F_with_lets
  exact r_spec rfl (r_start rfl) (qs9 (r_for (r_it (qv9 rfl) (itRv3 ..)) e) (kn9 (qs9 (r_ret (qv9 rfl)) k_ret)))
end Mine
end

section
namespace Mine
open PySem
noncomputable abbrev Dic := List (Str × MV)
noncomputable def look (d : Dic) (x : Str) : MV := (mAt d x).getD (.tup [.str "from", .str x])
noncomputable def av (d : Dic) : At → MV
  | .v x => look d x
  | .l i => .tup [.str "number", .int i]
noncomputable def sv (d : Dic) : Sm → MV
  | .atm a => av d a
  | .con n as => .tup [.str "cell", .str n, .lst (as.map (av d))]
noncomputable def Runs (k : Nat) (x : MV) (d : Dic) (r : MV) : Prop := ∀ n G, S_law_run (n + k) [x, .dct d] G = some (r, G)
theorem Runs.mono {k k' : Nat} {x r : MV} {d : Dic} (h : Runs k x d r) (l : k ≤ k') : Runs k' x d r := fun n G => by
  have := h (n + (k' - k)) G
  rwa [show n + (k' - k) + k = n + k' by lia] at this
theorem runs_at (d : Dic) (a : At) : Runs 1 a.enc d (av d a) := fun n G => by
  cases a with
  | v x =>
    show specOf 2 10 (F_law_run (S_law_run n)) [.obj 0 [.str x], .dct d] G = some ((mAt d x).getD (.tup [.str "from", .str x]), G)
    unfold F_law_run
    exact r_spec rfl (r_start rfl) (qs9 (r_if (qb9 (q19 (qv9 rfl) (isi_t _ _ _ (by decide)))) (ic_t (qs9 (r_ret (r_callB (qv9 rfl) rfl (ql9 (q19 (qv9 rfl) (at0_0 ..)) (ql9 (r_tup (ql9 qc9 (ql9 (q19 (qv9 rfl) (at0_0 ..)) q09)) (nle9 rfl)) q09)) (opGet_d rfl))) k_ret))) k_ret)
  | l i =>
    show specOf 2 10 (F_law_run (S_law_run n)) [.obj 1 [.str "int", .int i], .dct d] G = some (.tup [.str "number", .int i], G)
    unfold F_law_run
    exact r_spec rfl (r_start rfl) (qs9 (r_if (qb9 (q19 (qv9 rfl) (isi_f _ _ _ _ (by decide) (by decide)))) (ic_f qn9)) (kn9 (qs9 (r_if (qb9 (q19 (qv9 rfl) (isi_t _ _ _ (by decide)))) (ic_t (qs9 (r_ret (r_tup (ql9 qc9 (ql9 (q19 (qv9 rfl) (at1_1 ..)) q09)) (nle9 rfl))) k_ret))) k_ret)))
noncomputable def raB (R : List MV → Gst → Option (MV × Gst)) : Ab → Option (MV × Ab) := (fA9 R (lC9 (gv9 1) (lC9 (gv9 2) l09)))
theorem run_args (n : Nat) (G : Gst) (d : Dic) : ∀ (as : List At) (ys : List MV) (s1 : Slot), ys.length + as.length ≤ 1000 →
    ∃ s1', compL (tName 1) (raB (S_law_run (n + 1))) (as.map At.enc) ([.ownL ys, s1, .val (.dct d)], G) = some ([.ownL (ys ++ as.map (av d)), s1', .val (.dct d)], G)
  | [], ys, s1, _ => ⟨s1, by rw [List.map_nil, List.map_nil, List.append_nil]; rfl⟩
  | a :: as, ys, s1, h => by
    rw [List.length_cons] at h
    obtain ⟨s2, e⟩ := run_args n G d as (ys ++ [av d a]) (.val a.enc) (by rw [List.length_append, List.length_singleton]; lia)
    rw [List.append_assoc] at e
    have q : ys.length ≤ room := by have hr : room = 100000 := rfl; lia
    refine ⟨s2, r_comp1 rfl (?_ : raB _ _ = some (av d a, [.ownL ys, .val a.enc, .val (.dct d)], G)) rfl q rfl e⟩
    have e1 := runs_at d a n G
    unfold raB
    exact qa9 (ql9 (qv9 rfl) (ql9 (qv9 rfl) rfl)) e1
theorem runs_sm (d : Dic) (b : Sm) (hb : b.Wf) : Runs 2 b.enc d (sv d b) := fun n G => by
  cases b with
  | atm a => exact (runs_at d a).mono (by lia) n G
  | con nm as =>
    have h3 : as.length ≤ 3 := hb
    obtain ⟨s1, e⟩ := run_args n G d as [] .un (by simp only [List.length_nil]; lia)
    show specOf 2 10 (F_law_run (S_law_run (n + 1))) [.obj 7 [.str nm, .lst (as.map At.enc)], .dct d] G = some (.tup [.str "cell", .str nm, .lst (as.map (av d))], G)
    unfold raB at e
    unfold F_law_run
    exact r_spec rfl (r_start rfl) (qs9 (r_if (qb9 (q19 (qv9 rfl) (isi_f _ _ _ _ (by decide) (by decide)))) (ic_f qn9)) (kn9 (qs9 (r_if (qb9 (q19 (qv9 rfl) (isi_f _ _ _ _ (by decide) (by decide)))) (ic_f qn9)) (kn9 (qs9 (r_if (qb9 (q19 (qv9 rfl) (isi_t _ _ _ (by decide)))) (ic_t (qs9 (r_ret (r_tup (ql9 qc9 (ql9 (q19 (qv9 rfl) (at7_0 ..)) (ql9 (r_comp (k := e) (r_it (q19 (qv9 rfl) (at7_1 ..)) rfl) (r_cst rfl)) q09))) (nle9 rfl))) k_ret))) rfl)))))
theorem runs_lam (d : Dic) (ps body : MV) : Runs 1 (.obj 3 [ps, body]) d (.tup [.str "function", .obj 3 [ps, body], .dct d]) := fun n G => by
  show specOf 2 10 (F_law_run (S_law_run n)) [.obj 3 [ps, body], .dct d] G = _
  unfold F_law_run
  exact r_spec rfl (r_start rfl) (qs9 (r_if (qb9 (q19 (qv9 rfl) (isi_f _ _ _ _ (by decide) (by decide)))) (ic_f qn9)) (kn9 (qs9 (r_if (qb9 (q19 (qv9 rfl) (isi_f _ _ _ _ (by decide) (by decide)))) (ic_f qn9)) (kn9 (qs9 (r_if (qb9 (q19 (qv9 rfl) (isi_f _ _ _ _ (by decide) (by decide)))) (ic_f qn9)) (kn9 (qs9 (r_if (qb9 (q19 (qv9 rfl) (isi_t _ _ _ (by decide)))) (ic_t (qs9 (r_ret (r_tup (ql9 qc9 (ql9 (qv9 rfl) (ql9 (qv9 rfl) q09))) (nle9 rfl))) k_ret))) k_ret)))))))
structure Bd where
  x : Str
  e : MV
  w : MV
noncomputable def Bd.enc (b : Bd) : MV := .tup [.str b.x, b.e]
noncomputable def ext : Dic → List Bd → Dic
  | d, [] => d
  | d, b :: l => ext (mSet d b.x b.w) l
noncomputable def lbB (R : List MV → Gst → Option (MV × Gst)) : Ab → Option (Fl × Ab) := (sSeq (sSetD 2 (fA9 R (lC9 (gv9 4) (lC9 (gv9 1) l09))) (gv9 3)) sNil)
theorem let_loop (R : List MV → Gst → Option (MV × Gst)) (G : Gst) (x : MV) (d : Dic) : ∀ (l : List Bd) (near : Dic) (z3 z4 : Slot), (∀ b ∈ l, R [b.e, .dct d] G = some (b.w, G)) → near.length + l.length ≤ 1000 →
    ∃ z3' z4', loopF (tTup [3, 4]) (lbB R) (l.map Bd.enc) ([.val x, .val (.dct d), .ownD near, z3, z4, .un, .un, .un, .un, .un, .un, .un], G) = some (.nxt, [.val x, .val (.dct d), .ownD (ext near l), z3', z4', .un, .un, .un, .un, .un, .un, .un], G)
  | [], near, z3, z4, _, _ => ⟨z3, z4, rfl⟩
  | b :: l, near, z3, z4, h, hl => by
    rw [List.length_cons] at hl
    have := mSet_length near b.x b.w
    obtain ⟨z3', z4', e⟩ := let_loop R G x d l (mSet near b.x b.w) (.val (.str b.x)) (.val b.e) (fun c hc => h c (.tail _ hc)) (by lia)
    have q : near.length ≤ room := by have hr : room = 100000 := rfl; lia
    have hb := h b (.head _)
    refine ⟨z3', z4', r_loop1 (r_tt2 rfl rfl) (?_ : lbB R _ = some (.nxt, [.val x, .val (.dct d), .ownD (mSet near b.x b.w), .val (.str b.x), .val b.e, .un, .un, .un, .un, .un, .un, .un], G)) e⟩
    unfold lbB
    exact qs9 (r_setD (qa9 (ql9 (qv9 rfl) (ql9 (qv9 rfl) q09)) hb) rfl (qv9 rfl) rfl q rfl) (kn9 rfl)
theorem runs_let {k : Nat} {x r : MV} {d : Dic} {l : List Bd} (hx : Runs k x (ext d l) r) (hb : ∀ b ∈ l, Runs k b.e d b.w) (hd : d.length + l.length ≤ 1000) : Runs (k + 1) (.obj 4 [.lst (l.map Bd.enc), x, .bool false]) d r := fun n G => by
  obtain ⟨z3, z4, e⟩ := let_loop (S_law_run (n + k)) G (.obj 4 [.lst (l.map Bd.enc), x, .bool false]) d l d .un .un (fun b h => hb b h n G) hd
  have q : d.length ≤ room := by have hr : room = 100000 := rfl; lia
  have e1 := hx n G
  show specOf 2 10 (F_law_run (S_law_run (n + k))) [.obj 4 [.lst (l.map Bd.enc), x, .bool false], .dct d] G = some (r, G)
  unfold lbB at e
  unfold F_law_run
  exact r_spec rfl (r_start rfl) (qs9 (r_if (qb9 (q19 (qv9 rfl) (isi_f _ _ _ _ (by decide) (by decide)))) (ic_f qn9)) (kn9 (qs9 (r_if (qb9 (q19 (qv9 rfl) (isi_f _ _ _ _ (by decide) (by decide)))) (ic_f qn9)) (kn9 (qs9 (r_if (qb9 (q19 (qv9 rfl) (isi_f _ _ _ _ (by decide) (by decide)))) (ic_f qn9)) (kn9 (qs9 (r_if (qb9 (q19 (qv9 rfl) (isi_f _ _ _ _ (by decide) (by decide)))) (ic_f qn9)) (kn9 (qs9 (r_new (r_gd (qv9 rfl) q) (st2 ..)) (kn9 (qs9 (r_if (qb9 (q19 (qv9 rfl) (isi_t _ _ _ (by decide)))) (ic_t (qs9 (r_for (r_it (q19 (qv9 rfl) (at4_0 ..)) rfl) e) (kn9 (qs9 (r_ret (qa9 (ql9 (q19 (qv9 rfl) (at4_1 ..)) (ql9 (r_vald rfl (st2 ..)) q09)) e1)) k_ret))))) k_ret)))))))))))
theorem runs_wl {k : Nat} {x r : MV} {d : Dic} {l : List Bd} (hx : Runs k x (ext d l) r) (hb : ∀ b ∈ l, Runs k b.e d b.w) (hd : d.length + l.length ≤ 1000) : Runs (k + 1) (wl (l.map Bd.enc) x) d r := by
  cases l with
  | nil => exact hx.mono (by lia)
  | cons b l => rw [wlF rfl]; exact runs_let hx hb hd
theorem runs_app {k : Nat} {body r : MV} {d home : Dic} {j v p : Str} (hj : look d j = .tup [.str "function", .obj 3 [.lst [.str p], body], .dct home]) (hx : Runs (k + 1) body (mSet home p (look d v)) r) (hh : home.length ≤ 1000) (hd : d.length ≤ 1000) :
    Runs (k + 2) (.obj 2 [.obj 0 [.str j], .lst [.obj 0 [.str v]]]) d r := fun n G => by
  have e1 := runs_at d (.v j) (n + k) G
  have e2 := runs_at d (.v v) (n + k) G
  unfold At.enc av at e1 e2
  simp only [hj] at e1
  have e1 : S_law_run (n + k + 1) [.obj 0 [.str j], .dct d] G = some (.tup [.str "function", .obj 3 [.lst [.str p], body], .dct home], G) := e1
  have e2 : S_law_run (n + k + 1) [.obj 0 [.str v], .dct d] G = some (look d v, G) := e2
  have e3 : S_law_run (n + k + 1) [body, .dct (mSet home p (look d v))] G = some (r, G) := hx n G
  have q : home.length ≤ room := by have hr : room = 100000 := rfl; lia
  have q1 : d.length ≤ room := by have hr : room = 100000 := rfl; lia
  show specOf 2 10 (F_law_run (S_law_run (n + k + 1))) [.obj 2 [.obj 0 [.str j], .lst [.obj 0 [.str v]]], .dct d] G = some (r, G)
  unfold F_law_run
  exact r_spec rfl (r_start rfl) (qs9 (r_if (qb9 (q19 (qv9 rfl) (isi_f _ _ _ _ (by decide) (by decide)))) (ic_f qn9)) (kn9 (qs9 (r_if (qb9 (q19 (qv9 rfl) (isi_f _ _ _ _ (by decide) (by decide)))) (ic_f qn9)) (kn9 (qs9 (r_if (qb9 (q19 (qv9 rfl) (isi_f _ _ _ _ (by decide) (by decide)))) (ic_f qn9)) (kn9 (qs9 (r_if (qb9 (q19 (qv9 rfl) (isi_f _ _ _ _ (by decide) (by decide)))) (ic_f qn9)) (kn9 (qs9 (r_new (r_gd (qv9 rfl) q1) (st2 ..)) (kn9 (qs9 (r_if (qb9 (q19 (qv9 rfl) (isi_f _ _ _ _ (by decide) (by decide)))) (ic_f qn9)) (kn9 (qs9 (r_if (qb9 (q19 (qv9 rfl) (isi_t _ _ _ (by decide)))) (ic_t (qs9 (r_unp (qa9 (ql9 (q19 (qv9 rfl) (at2_0 ..)) (ql9 (qv9 rfl) q09)) e1) (r_tt3 (st5 ..) (st6 ..) (st7 ..))) (kn9 (qs9 (r_new (r_gd (qv9 rfl) q) (st8 ..)) (kn9 (qs9 (r_for (r_it (qa9 (ql9 (q19 (qv9 rfl) (at3_0 ..)) q09) (opL1 ..)) itR1) (r_loop1 (r_tn (st9 ..)) (qs9 (r_setD (qa9 (ql9 (q29 (q19 (qv9 rfl) (at2_1 ..)) (qv9 rfl) (fIdx_l0 ..)) (ql9 (qv9 rfl) q09)) e2) rfl (q29 (q19 (qv9 rfl) (at3_0 ..)) (qv9 rfl) (fIdx_l0 ..)) rfl q (st8 ..)) (kn9 qn9)) (lc_nxt r_loop0))) (kn9 (qs9 (r_ret (qa9 (ql9 (q19 (qv9 rfl) (at3_1 ..)) (ql9 (r_vald rfl (st8 ..)) q09)) e3)) k_ret))))))))) k_ret)))))))))))))
end Mine
end

section
namespace Mine
open PySem
inductive Vl where
  | num (i : Int)
  | cell (x : Str) (ws : List MV)
noncomputable def Vl.enc : Vl → MV
  | .num i => .tup [.str "number", .int i]
  | .cell x ws => .tup [.str "cell", .str x, .lst ws]
noncomputable def Vl.args : Vl → List MV
  | .num _ => []
  | .cell _ ws => ws
noncomputable def ABCD : List Str := ["A", "B", "C", "D"]
structure Vl.Ok (v : Vl) : Prop where
  nm : ∀ x ws, v = .cell x ws → x ∈ ABCD ∧ ws.length = Cl.size x
noncomputable def hit : Vl → Ky → Bool
  | .num i, .lit => ((7 : Int) == i) && true
  | .cell x _, .con y => x == y
  | _, _ => false
structure Ga where
  key : Ky
  fs : List Str
  body : MV
noncomputable def Ga.enc (a : Ga) : MV := .obj 5 [a.key.enc, .lst (a.fs.map .str), a.body]
structure Ga.Ok (a : Ga) : Prop where
  key : ∀ x, a.key = .con x → x ∈ ABCD ∧ a.fs.length = Cl.size x
  lit : a.key = .lit → a.fs = []
noncomputable def pick (v : Vl) : List Ga → Option Ga
  | [] => none
  | a :: r => if hit v a.key then some a else pick v r
noncomputable def msv : Dic → List Str → List MV → Dic
  | d, x :: xs, w :: ws => msv (mSet d x w) xs ws
  | d, _, _ => d
theorem q_nn : eqMV (.str "number") (.str "number") = some true := by kernel_rfl
theorem q_nc : eqMV (.str "number") (.str "cell") = some false := by kernel_rfl
theorem q_cn : eqMV (.str "cell") (.str "number") = some false := by kernel_rfl
theorem q_cc : eqMV (.str "cell") (.str "cell") = some true := by kernel_rfl
theorem q_ll (i : Int) : eqMV Ky.lit.enc (.tup [.str "lit", .str "int", .int i]) = some (((7 : Int) == i) && true) := by kernel_rfl
theorem q_lc (x : Str) (h : x ∈ ABCD) : eqMV Ky.lit.enc (.tup [.str "con", .str x]) = some false := by
  simp only [ABCD, List.mem_cons, List.not_mem_nil, or_false] at h
  rcases h with rfl | rfl | rfl | rfl <;> kernel_rfl
theorem q_cl (x : Str) (i : Int) (h : x ∈ ABCD) : eqMV (Ky.con x).enc (.tup [.str "lit", .str "int", .int i]) = some false := by
  simp only [ABCD, List.mem_cons, List.not_mem_nil, or_false] at h
  rcases h with rfl | rfl | rfl | rfl <;> kernel_rfl
theorem q_kk (x y : Str) (h : x ∈ ABCD) (h' : y ∈ ABCD) : eqMV (Ky.con y).enc (.tup [.str "con", .str x]) = some (x == y) := by
  simp only [ABCD, List.mem_cons, List.not_mem_nil, or_false] at h h'
  rcases h with rfl | rfl | rfl | rfl <;> rcases h' with rfl | rfl | rfl | rfl <;> kernel_rfl
noncomputable def CS (x : MV) (d near : Dic) (z9 : Slot) (val : MV) (z11 : Slot) : List Slot := [.val x, .val (.dct d), .ownD near, .un, .un, .un, .un, .un, .un, z9, .val val, z11]
noncomputable def caB (R : List MV → Gst → Option (MV × Gst)) : Ab → Option (Fl × Ab) := (sSeq (sIf (tAnd (asBool (f2 (f2 (gv9 10) (fK9 (.int 0)) fIdx) (fK9 (.str "number")) (pureOp (cmpMV .Eq)))) (tAnd (asBool (f2 (f1 (gv9 11) (fAttr "key")) (fTup (lC9 (fK9 (.str "lit")) (lC9 (fK9 (.str "int")) (lC9 (f2 (gv9 10) (fK9 (.int 1)) fIdx) l09)))) (pureOp (cmpMV .Eq)))) (tLit true))) (sSeq (sRet (fA9 R (lC9 (f1 (gv9 11) (fAttr "body")) (lC9 (gv9 2) l09)))) sNil) sNil) (sSeq (sIf (tAnd (asBool (f2 (f2 (gv9 10) (fK9 (.int 0)) fIdx) (fK9 (.str "cell")) (pureOp (cmpMV .Eq)))) (tAnd (asBool (f2 (f1 (gv9 11) (fAttr "key")) (fTup (lC9 (fK9 (.str "con")) (lC9 (f2 (gv9 10) (fK9 (.int 1)) fIdx) l09))) (pureOp (cmpMV .Eq)))) (tLit true))) (sSeq (sFor (fIt (fA9 opLen (lC9 (f1 (gv9 11) (fAttr "names")) l09)) itRange) (tName 9) (sSeq (sSetD 2 (f2 (f2 (gv9 10) (fK9 (.int 2)) fIdx) (gv9 9) fIdx) (f2 (f1 (gv9 11) (fAttr "names")) (gv9 9) fIdx)) sNil)) (sSeq (sRet (fA9 R (lC9 (f1 (gv9 11) (fAttr "body")) (lC9 (gv9 2) l09)))) sNil)) sNil) sNil))
theorem ca_miss (R : List MV → Gst → Option (MV × Gst)) (G : Gst) (x : MV) (d near : Dic) (z9 : Slot) (v : Vl) (a : Ga) (hv : v.Ok) (ha : a.Ok) (h : hit v a.key = false) :
    caB R (CS x d near z9 v.enc (.val a.enc), G) = some (.nxt, CS x d near z9 v.enc (.val a.enc), G) := by
  obtain ⟨key, fs, body⟩ := a
  unfold caB CS Ga.enc
  cases v with
  | num i =>
    have e : eqMV key.enc (.tup [.str "lit", .str "int", .int i]) = some false := by
      cases key with
      | lit => rw [q_ll]; exact congrArg some h
      | con y => exact q_cl y i (ha.key y rfl).1
    unfold Vl.enc
    exact qs9 (r_if (r_and (qb9 (q29 (q29 (qv9 rfl) qc9 (fIdx_t0 ..)) qc9 (po_eq _ _ _ true q_nn))) (ac_t (r_and (qb9 (q29 (q19 (qv9 rfl) (at5_0 ..)) (r_tup (ql9 qc9 (ql9 qc9 (ql9 (q29 (qv9 rfl) qc9 (fIdx_t1 ..)) q09))) (nle9 rfl)) (po_eq _ _ _ false e))) ac_f))) (ic_f qn9)) (kn9 (qs9 (r_if (r_and (qb9 (q29 (q29 (qv9 rfl) qc9 (fIdx_t0 ..)) qc9 (po_eq _ _ _ false q_nc))) ac_f) (ic_f qn9)) (kn9 qn9)))
  | cell y ws =>
    have e : eqMV key.enc (.tup [.str "con", .str y]) = some false := by
      cases key with
      | lit => exact q_lc y (hv.nm y ws rfl).1
      | con z => rw [q_kk y z (hv.nm y ws rfl).1 (ha.key z rfl).1]; exact congrArg some h
    unfold Vl.enc
    exact qs9 (r_if (r_and (qb9 (q29 (q29 (qv9 rfl) qc9 (fIdx_t0 ..)) qc9 (po_eq _ _ _ false q_cn))) ac_f) (ic_f qn9)) (kn9 (qs9 (r_if (r_and (qb9 (q29 (q29 (qv9 rfl) qc9 (fIdx_t0 ..)) qc9 (po_eq _ _ _ true q_cc))) (ac_t (r_and (qb9 (q29 (q19 (qv9 rfl) (at5_0 ..)) (r_tup (ql9 qc9 (ql9 (q29 (qv9 rfl) qc9 (fIdx_t1 ..)) q09)) (nle9 rfl)) (po_eq _ _ _ false e))) ac_f))) (ic_f qn9)) (kn9 qn9)))
theorem fIdx_l2 (G : Gst) (l : List MV) (x y z : MV) : fIdx G (.lst (x :: y :: z :: l)) (.int 2) = some (z, G) := fIdx_l (k := 2) rfl (by decide)
theorem hit_len {v : Vl} {a : Ga} (hv : v.Ok) (ha : a.Ok) (h : hit v a.key = true) : v.args.length = a.fs.length := by
  obtain ⟨key, fs, body⟩ := a
  cases v with
  | num i => cases key with
    | lit => have h1 : fs = [] := ha.lit rfl
             rw [show (Ga.mk Ky.lit fs body).fs = fs from rfl, h1]; rfl
    | con y => cases h
  | cell y ws => cases key with
    | lit => cases h
    | con z =>
      have h1 : y = z := by
        have : (y == z) = true := h
        simpa using this
      subst h1
      rw [show (Vl.cell y ws).args = ws from rfl, (hv.nm y ws rfl).2, (ha.key y rfl).2]
theorem ca_hit (R : List MV → Gst → Option (MV × Gst)) (G : Gst) (x : MV) (d near : Dic) (z9 : Slot) (v : Vl) (a : Ga) (r : MV) (hv : v.Ok) (ha : a.Ok) (h : hit v a.key = true) (hd : near.length ≤ 1000) (hr : R [a.body, .dct (msv near a.fs v.args)] G = some (r, G)) :
    ∃ ρ, caB R (CS x d near z9 v.enc (.val a.enc), G) = some (.ret r, ρ, G) := by
  have hl := hit_len hv ha h
  obtain ⟨key, fs, body⟩ := a
  have hr' : room = 100000 := rfl
  have l0 : near.length ≤ room := by lia
  have l1 : ∀ k v, (mSet near k v).length ≤ room := fun k v => Nat.le_trans (mSet_length ..) (by lia)
  have l2 : ∀ k v k' v', (mSet (mSet near k v) k' v').length ≤ room := fun k v k' v' => Nat.le_trans (mSet_length ..) (by have := mSet_length near k v; lia)
  cases v with
  | num i =>
    cases key with
    | con y => cases h
    | lit =>
      have h1 : fs = [] := ha.lit rfl
      subst h1
      have e : eqMV Ky.lit.enc (.tup [.str "lit", .str "int", .int i]) = some true := by rw [q_ll]; exact congrArg some h
      have hr : R [body, .dct near] G = some (r, G) := hr
      show ∃ ρ, caB R ([.val x, .val (.dct d), .ownD near, .un, .un, .un, .un, .un, .un, z9, .val (.tup [.str "number", .int i]), .val (.obj 5 [Ky.lit.enc, .lst [], body])], G) = some (.ret r, ρ, G)
      unfold caB
      apply Exists.intro
      exact qs9 (r_if (r_and (qb9 (q29 (q29 (qv9 rfl) qc9 (fIdx_t0 ..)) qc9 (po_eq _ _ _ true q_nn))) (ac_t (r_and (qb9 (q29 (q19 (qv9 rfl) (at5_0 ..)) (r_tup (ql9 qc9 (ql9 qc9 (ql9 (q29 (qv9 rfl) qc9 (fIdx_t1 ..)) q09))) (nle9 rfl)) (po_eq _ _ _ true e))) (ac_t r_tlit)))) (ic_t (qs9 (r_ret (qa9 (ql9 (q19 (qv9 rfl) (at5_2 ..)) (ql9 (r_vald rfl (st2 ..)) q09)) hr)) k_ret))) k_ret
  | cell y ws =>
    cases key with
    | lit => cases h
    | con z =>
      have e : eqMV (Ky.con z).enc (.tup [.str "con", .str y]) = some true := by rw [q_kk y z (hv.nm y ws rfl).1 (ha.key z rfl).1]; exact congrArg some h
      have h3 : fs.length ≤ 3 := by have := (ha.key z rfl).2; have h4 := Cl.size_le z; rw [← this] at h4; exact h4
      have hl : ws.length = fs.length := hl
      cases ll2_of hl h3 with
      | z =>
        have hr : R [body, .dct near] G = some (r, G) := hr
        show ∃ ρ, caB R ([.val x, .val (.dct d), .ownD near, .un, .un, .un, .un, .un, .un, z9, .val (.tup [.str "cell", .str y, .lst []]), .val (.obj 5 [(Ky.con z).enc, .lst [], body])], G) = some (.ret r, ρ, G)
        unfold caB
        apply Exists.intro
        exact qs9 (r_if (r_and (qb9 (q29 (q29 (qv9 rfl) qc9 (fIdx_t0 ..)) qc9 (po_eq _ _ _ false q_cn))) ac_f) (ic_f qn9)) (kn9 (qs9 (r_if (r_and (qb9 (q29 (q29 (qv9 rfl) qc9 (fIdx_t0 ..)) qc9 (po_eq _ _ _ true q_cc))) (ac_t (r_and (qb9 (q29 (q19 (qv9 rfl) (at5_0 ..)) (r_tup (ql9 qc9 (ql9 (q29 (qv9 rfl) qc9 (fIdx_t1 ..)) q09)) (nle9 rfl)) (po_eq _ _ _ true e))) (ac_t r_tlit)))) (ic_t (qs9 (r_for (r_it (qa9 (ql9 (q19 (qv9 rfl) (at5_1 ..)) q09) (opL0 ..)) itR0) r_loop0) (kn9 (qs9 (r_ret (qa9 (ql9 (q19 (qv9 rfl) (at5_2 ..)) (ql9 (r_vald rfl (st2 ..)) q09)) hr)) k_ret))))) k_ret))
      | o a w =>
        have hr : R [body, .dct (mSet near a w)] G = some (r, G) := hr
        show ∃ ρ, caB R ([.val x, .val (.dct d), .ownD near, .un, .un, .un, .un, .un, .un, z9, .val (.tup [.str "cell", .str y, .lst [w]]), .val (.obj 5 [(Ky.con z).enc, .lst [.str a], body])], G) = some (.ret r, ρ, G)
        unfold caB
        apply Exists.intro
        exact qs9 (r_if (r_and (qb9 (q29 (q29 (qv9 rfl) qc9 (fIdx_t0 ..)) qc9 (po_eq _ _ _ false q_cn))) ac_f) (ic_f qn9)) (kn9 (qs9 (r_if (r_and (qb9 (q29 (q29 (qv9 rfl) qc9 (fIdx_t0 ..)) qc9 (po_eq _ _ _ true q_cc))) (ac_t (r_and (qb9 (q29 (q19 (qv9 rfl) (at5_0 ..)) (r_tup (ql9 qc9 (ql9 (q29 (qv9 rfl) qc9 (fIdx_t1 ..)) q09)) (nle9 rfl)) (po_eq _ _ _ true e))) (ac_t r_tlit)))) (ic_t (qs9 (r_for (r_it (qa9 (ql9 (q19 (qv9 rfl) (at5_1 ..)) q09) (opL1 ..)) itR1) (r_loop1 (r_tn (st9 ..)) (qs9 (r_setD (q29 (q29 (qv9 rfl) qc9 (fIdx_t2 ..)) (qv9 rfl) (fIdx_l0 ..)) rfl (q29 (q19 (qv9 rfl) (at5_1 ..)) (qv9 rfl) (fIdx_l0 ..)) rfl l0 (st2 ..)) (kn9 qn9)) (lc_nxt r_loop0))) (kn9 (qs9 (r_ret (qa9 (ql9 (q19 (qv9 rfl) (at5_2 ..)) (ql9 (r_vald rfl (st2 ..)) q09)) hr)) k_ret))))) k_ret))
      | t a b w w2 =>
        have hr : R [body, .dct (mSet (mSet near a w) b w2)] G = some (r, G) := hr
        show ∃ ρ, caB R ([.val x, .val (.dct d), .ownD near, .un, .un, .un, .un, .un, .un, z9, .val (.tup [.str "cell", .str y, .lst [w, w2]]), .val (.obj 5 [(Ky.con z).enc, .lst [.str a, .str b], body])], G) = some (.ret r, ρ, G)
        unfold caB
        apply Exists.intro
        exact qs9 (r_if (r_and (qb9 (q29 (q29 (qv9 rfl) qc9 (fIdx_t0 ..)) qc9 (po_eq _ _ _ false q_cn))) ac_f) (ic_f qn9)) (kn9 (qs9 (r_if (r_and (qb9 (q29 (q29 (qv9 rfl) qc9 (fIdx_t0 ..)) qc9 (po_eq _ _ _ true q_cc))) (ac_t (r_and (qb9 (q29 (q19 (qv9 rfl) (at5_0 ..)) (r_tup (ql9 qc9 (ql9 (q29 (qv9 rfl) qc9 (fIdx_t1 ..)) q09)) (nle9 rfl)) (po_eq _ _ _ true e))) (ac_t r_tlit)))) (ic_t (qs9 (r_for (r_it (qa9 (ql9 (q19 (qv9 rfl) (at5_1 ..)) q09) (opL2 ..)) itR2) (r_loop1 (r_tn (st9 ..)) (qs9 (r_setD (q29 (q29 (qv9 rfl) qc9 (fIdx_t2 ..)) (qv9 rfl) (fIdx_l0 ..)) rfl (q29 (q19 (qv9 rfl) (at5_1 ..)) (qv9 rfl) (fIdx_l0 ..)) rfl l0 (st2 ..)) (kn9 qn9)) (lc_nxt (r_loop1 (r_tn (st9 ..)) (qs9 (r_setD (q29 (q29 (qv9 rfl) qc9 (fIdx_t2 ..)) (qv9 rfl) (fIdx_l1 ..)) rfl (q29 (q19 (qv9 rfl) (at5_1 ..)) (qv9 rfl) (fIdx_l1 ..)) rfl (l1 ..) (st2 ..)) (kn9 qn9)) (lc_nxt r_loop0))))) (kn9 (qs9 (r_ret (qa9 (ql9 (q19 (qv9 rfl) (at5_2 ..)) (ql9 (r_vald rfl (st2 ..)) q09)) hr)) k_ret))))) k_ret))
      | h a b c w w2 w3 =>
        have hr : R [body, .dct (mSet (mSet (mSet near a w) b w2) c w3)] G = some (r, G) := hr
        show ∃ ρ, caB R ([.val x, .val (.dct d), .ownD near, .un, .un, .un, .un, .un, .un, z9, .val (.tup [.str "cell", .str y, .lst [w, w2, w3]]), .val (.obj 5 [(Ky.con z).enc, .lst [.str a, .str b, .str c], body])], G) = some (.ret r, ρ, G)
        unfold caB
        apply Exists.intro
        exact qs9 (r_if (r_and (qb9 (q29 (q29 (qv9 rfl) qc9 (fIdx_t0 ..)) qc9 (po_eq _ _ _ false q_cn))) ac_f) (ic_f qn9)) (kn9 (qs9 (r_if (r_and (qb9 (q29 (q29 (qv9 rfl) qc9 (fIdx_t0 ..)) qc9 (po_eq _ _ _ true q_cc))) (ac_t (r_and (qb9 (q29 (q19 (qv9 rfl) (at5_0 ..)) (r_tup (ql9 qc9 (ql9 (q29 (qv9 rfl) qc9 (fIdx_t1 ..)) q09)) (nle9 rfl)) (po_eq _ _ _ true e))) (ac_t r_tlit)))) (ic_t (qs9 (r_for (r_it (qa9 (ql9 (q19 (qv9 rfl) (at5_1 ..)) q09) (opL3 ..)) itR3) (r_loop1 (r_tn (st9 ..)) (qs9 (r_setD (q29 (q29 (qv9 rfl) qc9 (fIdx_t2 ..)) (qv9 rfl) (fIdx_l0 ..)) rfl (q29 (q19 (qv9 rfl) (at5_1 ..)) (qv9 rfl) (fIdx_l0 ..)) rfl l0 (st2 ..)) (kn9 qn9)) (lc_nxt (r_loop1 (r_tn (st9 ..)) (qs9 (r_setD (q29 (q29 (qv9 rfl) qc9 (fIdx_t2 ..)) (qv9 rfl) (fIdx_l1 ..)) rfl (q29 (q19 (qv9 rfl) (at5_1 ..)) (qv9 rfl) (fIdx_l1 ..)) rfl (l1 ..) (st2 ..)) (kn9 qn9)) (lc_nxt (r_loop1 (r_tn (st9 ..)) (qs9 (r_setD (q29 (q29 (qv9 rfl) qc9 (fIdx_t2 ..)) (qv9 rfl) (fIdx_l2 ..)) rfl (q29 (q19 (qv9 rfl) (at5_1 ..)) (qv9 rfl) (fIdx_l2 ..)) rfl (l2 ..) (st2 ..)) (kn9 qn9)) (lc_nxt r_loop0))))))) (kn9 (qs9 (r_ret (qa9 (ql9 (q19 (qv9 rfl) (at5_2 ..)) (ql9 (r_vald rfl (st2 ..)) q09)) hr)) k_ret))))) k_ret))
theorem ca_loop (R : List MV → Gst → Option (MV × Gst)) (G : Gst) (x : MV) (d near : Dic) (z9 : Slot) (v : Vl) (r : MV) (hv : v.Ok) (hd : near.length ≤ 1000) : ∀ (as : List Ga) (z11 : Slot), (∀ a ∈ as, a.Ok) →
    (∀ a, pick v as = some a → (R [a.body, .dct (msv near a.fs v.args)] G = some (r, G))) →
    (∃ ρ, pick v as ≠ none ∧ loopF (tName 11) (caB R) (as.map Ga.enc) (CS x d near z9 v.enc z11, G) = some (.ret r, ρ, G)) ∨
    (∃ z, pick v as = none ∧ loopF (tName 11) (caB R) (as.map Ga.enc) (CS x d near z9 v.enc z11, G) = some (.nxt, CS x d near z9 v.enc z, G))
  | [], z11, _, _ => .inr ⟨z11, rfl, rfl⟩
  | a :: as, z11, ha, hr => by
    cases h : hit v a.key with
    | true =>
      have hp : pick v (a :: as) = some a := by unfold pick; rw [if_pos h]
      obtain ⟨ρ, e⟩ := ca_hit R G x d near z9 v a r hv (ha a (.head _)) h hd (hr a hp)
      refine .inl ⟨ρ, (by rw [hp]; exact Option.some_ne_none _), r_loop1 (T := tName 11) (B := caB R) rfl e lc_ret⟩
    | false =>
      have hp : pick v (a :: as) = pick v as := by unfold pick; rw [if_neg (by rw [h]; exact Bool.false_ne_true)]; cases as <;> rfl
      have e := ca_miss R G x d near z9 v a hv (ha a (.head _)) h
      rcases ca_loop R G x d near z9 v r hv hd as (.val a.enc) (fun b hb => ha b (.tail _ hb)) (fun b hb => hr b (hp.trans hb)) with ⟨ρ, h1, h2⟩ | ⟨z, h1, h2⟩
      · exact .inl ⟨ρ, by rw [hp]; exact h1, r_loopn rfl e h2⟩
      · exact .inr ⟨z, by rw [hp]; exact h1, r_loopn rfl e h2⟩
theorem runs_case {k : Nat} {w o r : MV} {d : Dic} {own : Str} {as : List Ga} {v : Vl} (hw : Runs k w d v.enc) (hv : v.Ok) (ha : ∀ a ∈ as, a.Ok) (hd : d.length < 1000)
    (h1 : ∀ a, pick v as = some a → Runs k a.body (msv (mSet d own v.enc) a.fs v.args) r) (h2 : pick v as = none → Runs k o (mSet d own v.enc) r) : Runs (k + 1) (.obj 6 [w, .str own, .lst (as.map Ga.enc), o]) d r := fun n G => by
  have hl := mSet_length d own v.enc
  have q : d.length ≤ room := by have hr : room = 100000 := rfl; lia
  have e0 := hw n G
  show specOf 2 10 (F_law_run (S_law_run (n + k))) [.obj 6 [w, .str own, .lst (as.map Ga.enc), o], .dct d] G = some (r, G)
  rcases ca_loop (S_law_run (n + k)) G (.obj 6 [w, .str own, .lst (as.map Ga.enc), o]) d (mSet d own v.enc) .un v r hv (by lia) as .un ha (fun a h => h1 a h n G) with ⟨ρ, _, e⟩ | ⟨z, h, e⟩
  · unfold caB CS at e
    unfold F_law_run
    exact r_spec rfl (r_start rfl) (qs9 (r_if (qb9 (q19 (qv9 rfl) (isi_f _ _ _ _ (by decide) (by decide)))) (ic_f qn9)) (kn9 (qs9 (r_if (qb9 (q19 (qv9 rfl) (isi_f _ _ _ _ (by decide) (by decide)))) (ic_f qn9)) (kn9 (qs9 (r_if (qb9 (q19 (qv9 rfl) (isi_f _ _ _ _ (by decide) (by decide)))) (ic_f qn9)) (kn9 (qs9 (r_if (qb9 (q19 (qv9 rfl) (isi_f _ _ _ _ (by decide) (by decide)))) (ic_f qn9)) (kn9 (qs9 (r_new (r_gd (qv9 rfl) q) (st2 ..)) (kn9 (qs9 (r_if (qb9 (q19 (qv9 rfl) (isi_f _ _ _ _ (by decide) (by decide)))) (ic_f qn9)) (kn9 (qs9 (r_if (qb9 (q19 (qv9 rfl) (isi_f _ _ _ _ (by decide) (by decide)))) (ic_f qn9)) (kn9 (qs9 (r_set (qa9 (ql9 (q19 (qv9 rfl) (at6_0 ..)) (ql9 (qv9 rfl) q09)) e0) (st10 ..)) (kn9 (qs9 (r_setD (qv9 rfl) rfl (q19 (qv9 rfl) (at6_1 ..)) rfl q (st2 ..)) (kn9 (qs9 (r_for (r_it (q19 (qv9 rfl) (at6_2 ..)) rfl) e) k_ret)))))))))))))))))))
  · have e2 := h2 h n G
    unfold caB CS at e
    unfold F_law_run
    exact r_spec rfl (r_start rfl) (qs9 (r_if (qb9 (q19 (qv9 rfl) (isi_f _ _ _ _ (by decide) (by decide)))) (ic_f qn9)) (kn9 (qs9 (r_if (qb9 (q19 (qv9 rfl) (isi_f _ _ _ _ (by decide) (by decide)))) (ic_f qn9)) (kn9 (qs9 (r_if (qb9 (q19 (qv9 rfl) (isi_f _ _ _ _ (by decide) (by decide)))) (ic_f qn9)) (kn9 (qs9 (r_if (qb9 (q19 (qv9 rfl) (isi_f _ _ _ _ (by decide) (by decide)))) (ic_f qn9)) (kn9 (qs9 (r_new (r_gd (qv9 rfl) q) (st2 ..)) (kn9 (qs9 (r_if (qb9 (q19 (qv9 rfl) (isi_f _ _ _ _ (by decide) (by decide)))) (ic_f qn9)) (kn9 (qs9 (r_if (qb9 (q19 (qv9 rfl) (isi_f _ _ _ _ (by decide) (by decide)))) (ic_f qn9)) (kn9 (qs9 (r_set (qa9 (ql9 (q19 (qv9 rfl) (at6_0 ..)) (ql9 (qv9 rfl) q09)) e0) (st10 ..)) (kn9 (qs9 (r_setD (qv9 rfl) rfl (q19 (qv9 rfl) (at6_1 ..)) rfl q (st2 ..)) (kn9 (qs9 (r_for (r_it (q19 (qv9 rfl) (at6_2 ..)) rfl) e) (kn9 (qs9 (r_ret (qa9 (ql9 (q19 (qv9 rfl) (at6_3 ..)) (ql9 (r_vald rfl (st2 ..)) q09)) e2)) k_ret)))))))))))))))))))))
end Mine
end

section
namespace Mine
open PySem
theorem pre_inj : ∀ x ∈ BS, ∀ y ∈ BS, pre x = pre y → x = y := by
  have h : (BS.all fun x => BS.all fun y => (!(pre x == pre y)) || decide (x = y)) = true := by decide +kernel
  intro x hx y hy e
  have h1 := List.all_eq_true.mp (List.all_eq_true.mp h x hx) y hy
  rw [e] at h1
  simpa using h1
theorem New.facts {x y : Str} (h : New x y) (hx : x ∈ BS) : pre y = pre x ∧ mAt avd y = none := by
  obtain ⟨k, hk, rfl⟩ := h
  have h := okNames x hx k hk
  unfold okName at h
  simp only [Bool.and_eq_true, decide_eq_true_eq] at h
  obtain ⟨⟨⟨⟨h1, h2⟩, h3⟩, h4⟩, h5⟩ := h
  exact ⟨by simpa using h5, by simpa using h3⟩
theorem avd_PL : ∀ x ∈ PL, (mAt avd x).isSome = true := by
  have h : (PL.all fun x => (mAt avd x).isSome) = true := by decide +kernel
  exact fun x hx => List.all_eq_true.mp h x hx
theorem New.notPL {x y : Str} (h : New x y) (hx : x ∈ BS) : y ∉ PL := fun hy => by
  have h1 := avd_PL y hy
  rw [(h.facts hx).2] at h1
  cases h1
noncomputable def LOK (l : Dic) : Prop := ∀ x v, mAt l x = some v → ∃ y, v = .str y ∧ New x y
theorem LOK.nil : LOK [] := fun x v h => by cases h
theorem LOK.set {l : Dic} (h : LOK l) {x y : Str} (n : New x y) : LOK (mSet l x (.str y)) := fun z v e => by
  rw [mAt_mSet] at e
  split at e
  · rename_i hz; cases e; subst hz; exact ⟨y, rfl, n⟩
  · exact h z v e
theorem LOK.sets : ∀ {xs ys : List Str} {l : Dic}, LOK l → F2 New xs ys → LOK (msets l xs ys)
  | [], [], _, h, _ => h
  | x :: xs, y :: ys, l, h, F => by
    cases F with
    | cons n F => unfold msets; exact LOK.sets (h.set n) F
theorem rn_pre {l : Dic} (h : LOK l) {x : Str} (hx : x ∈ PL) : pre (rn l x) = pre x := by
  unfold rn
  cases e : mAt l x with
  | none => rfl
  | some v =>
    obtain ⟨y, rfl, n⟩ := h x v e
    exact (n.facts (PLBS hx)).1
theorem rn_set (l : Dic) (x y z : Str) : rn (mSet l x (.str y)) z = if z = x then y else rn l z := by
  unfold rn
  rw [mAt_mSet]
  by_cases h : z = x
  · rw [if_pos h, if_pos h]
  · rw [if_neg h, if_neg h]
theorem look_set (d : Dic) (x : Str) (w : MV) (z : Str) : look (mSet d x w) z = if z = x then w else look d z := by
  unfold look
  rw [mAt_mSet]
  by_cases h : z = x
  · rw [if_pos h, if_pos h]; rfl
  · rw [if_neg h, if_neg h]
noncomputable def Corr (l : Dic) (d d' : Dic) : Prop := ∀ x ∈ PL, look d x = look d' (rn l x)
theorem Corr.refl (d : Dic) : Corr [] d d := fun x hx => rfl
theorem Corr.set {l d d' : Dic} (h : Corr l d d') (hl : LOK l) {x y : Str} (hx : x ∈ PL) (n : New x y) (w : MV) : Corr (mSet l x (.str y)) (mSet d x w) (mSet d' y w) := fun z hz => by
  rw [rn_set, look_set]
  by_cases e : z = x
  · rw [if_pos e, if_pos e, look_set, if_pos rfl]
  · rw [if_neg e, if_neg e, look_set, if_neg, h z hz]
    intro e2
    have h1 := rn_pre hl hz
    rw [e2, (n.facts (PLBS hx)).1] at h1
    exact e (pre_inj _ (PLBS hz) _ (PLBS hx) h1.symm)
theorem Corr.same {d d' : Dic} (h : Corr [] d d') {x : Str} (w : MV) : Corr [] (mSet d x w) (mSet d' x w) := fun z hz => by
  rw [rn_nil, look_set, look_set]
  by_cases e : z = x
  · rw [if_pos e, if_pos e]
  · rw [if_neg e, if_neg e]; exact h z hz
theorem Corr.skip {d d' : Dic} (h : Corr [] d d') {y : Str} (hy : y ∉ PL) (w : MV) : Corr [] d (mSet d' y w) := fun z hz => by
  have hn : ¬ z = y := fun e => hy (by rw [← e]; exact hz)
  rw [rn_nil, look_set, if_neg hn]; exact h z hz
theorem Corr.sets : ∀ {xs ys : List Str} {ws : List MV} {l d d' : Dic}, Corr l d d' → LOK l → (∀ x ∈ xs, x ∈ PL) → F2 New xs ys → ws.length = xs.length → Corr (msets l xs ys) (msv d xs ws) (msv d' ys ws)
  | [], [], _, _, _, _, h, _, _, _, _ => by simpa [msets, msv] using h
  | x :: xs, y :: ys, [], _, _, _, _, _, _, _, h => by cases h
  | x :: xs, y :: ys, w :: ws, l, d, d', h, hl, hx, F, he => by
    cases F with
    | cons n F =>
      unfold msets msv
      exact Corr.sets (h.set hl (hx x (.head _)) n w) (hl.set n) (fun z hz => hx z (.tail _ hz)) F (by simpa using he)
theorem Corr.sames : ∀ {xs : List Str} {ws : List MV} {d d' : Dic}, Corr [] d d' → Corr [] (msv d xs ws) (msv d' xs ws)
  | [], _, _, _, h => by simpa [msv] using h
  | x :: xs, [], _, _, h => by simpa [msv] using h
  | x :: xs, w :: ws, d, d', h => by unfold msv; exact Corr.sames (h.same w)
theorem av_ren {l d d' : Dic} (h : Corr l d d') {a : At} (ha : a.Ok) : av d' (a.ren l) = av d a := by
  cases a with
  | v x => exact (h x ha).symm
  | l i => rfl
theorem avs_ren {l d d' : Dic} (h : Corr l d d') : ∀ (as : List At), (∀ a ∈ as, a.Ok) → (as.map (At.ren l)).map (av d') = as.map (av d)
  | [], _ => rfl
  | a :: as, ha => by rw [List.map_cons, List.map_cons, List.map_cons, av_ren h (ha a (.head _)), avs_ren h as (fun b hb => ha b (.tail _ hb))]
theorem sv_ren {l d d' : Dic} (h : Corr l d d') {b : Sm} (hb : b.Ok) : sv d' (b.ren l) = sv d b := by
  cases b with
  | atm a => exact av_ren h hb
  | con n as =>
    show MV.tup [.str "cell", .str n, .lst ((as.map (At.ren l)).map (av d'))] = .tup [.str "cell", .str n, .lst (as.map (av d))]
    rw [avs_ren h as hb.2]
theorem sv_same {d d' : Dic} (h : Corr [] d d') {b : Sm} (hb : b.Ok) : sv d' b = sv d b := by
  have := sv_ren h hb
  rwa [Sm.ren_nil] at this
theorem Sm.Wf.ren {b : Sm} (h : b.Wf) (l : Dic) : (b.ren l).Wf := by
  cases b with
  | atm a => trivial
  | con n as => show (as.map (At.ren l)).length ≤ 3; rw [List.length_map]; exact h
noncomputable def Al.ga (a : Al) : Ga := ⟨a.key, a.fs, a.body.enc⟩
theorem Al.Ok.ga {a : Al} (h : a.Ok) : a.ga.Ok := ⟨fun x e => ⟨h.kk x e, h.key x e⟩, fun e => h.lit e⟩
theorem Cs.enc_ga (c : Cs) (v : MV) : c.enc v = .obj 6 [v, .str c.own, .lst ((c.alts.map Al.ga).map Ga.enc), c.other.enc] := by
  unfold Cs.enc
  rw [List.map_map]; rfl
noncomputable def pickA (v : Vl) : List Al → Option Al
  | [] => none
  | a :: r => if hit v a.key then some a else pickA v r
theorem pick_ga (v : Vl) : ∀ as : List Al, pick v (as.map Al.ga) = (pickA v as).map Al.ga
  | [] => rfl
  | a :: r => by
    rw [List.map_cons]
    unfold pick pickA
    by_cases h : hit v a.key = true
    · rw [if_pos h, if_pos (show hit v a.ga.key = true from h)]; rfl
    · rw [if_neg h, if_neg (show ¬ hit v a.ga.key = true from h)]; exact pick_ga v r
theorem pickA_mem {v : Vl} : ∀ {as : List Al} {a : Al}, pickA v as = some a → a ∈ as ∧ hit v a.key = true
  | [], _, h => by cases h
  | b :: r, a, h => by
    unfold pickA at h
    by_cases hb : hit v b.key = true
    · rw [if_pos hb] at h; cases h; exact ⟨.head _, hb⟩
    · rw [if_neg hb] at h
      exact ⟨.tail _ (pickA_mem h).1, (pickA_mem h).2⟩
noncomputable def outc (v : Vl) (d : Dic) (c : Cs) : MV := match pickA v c.alts with
  | some a => sv (msv (mSet d c.own v.enc) a.fs v.args) a.body
  | none => sv (mSet d c.own v.enc) c.other
structure Cs.Gd (c : Cs) : Prop where
  alts : ∀ a ∈ c.alts, a.ga.Ok ∧ a.body.Wf
  other : c.other.Wf
theorem Cs.Ok.gd {c : Cs} (h : c.Ok) : c.Gd := ⟨fun a ha => ⟨(h.alts a ha).ga, (h.alts a ha).body.wf⟩, h.other.wf⟩
theorem runs_cs {k : Nat} {w : MV} {d : Dic} {c : Cs} {v : Vl} (hw : Runs k w d v.enc) (hk : 2 ≤ k) (hv : v.Ok) (hc : c.Gd) (hd : d.length < 1000) : Runs (k + 1) (c.enc w) d (outc v d c) := by
  rw [Cs.enc_ga]
  refine runs_case hw hv ?_ hd ?_ ?_
  · intro a ha
    obtain ⟨b, hb, rfl⟩ := List.mem_map.mp ha
    exact (hc.alts b hb).1
  · intro a ha
    rw [pick_ga] at ha
    unfold outc
    cases e : pickA v c.alts with
    | none => rw [e] at ha; exact ns9 ha
    | some b =>
      rw [e] at ha; cases ha
      exact (runs_sm _ _ (hc.alts b (pickA_mem e).1).2).mono hk
  · intro ha
    rw [pick_ga] at ha
    unfold outc
    cases e : pickA v c.alts with
    | some b => rw [e] at ha; cases ha
    | none => exact (runs_sm _ _ hc.other).mono hk
theorem rAlts_pick (own own' : Str) (v : Vl) : ∀ (as : List Al) (fss : List (List Str)), F2 (F2 New) (as.map Al.fs) fss →
    (pickA v as = none ∧ pickA v (rAlts own own' as fss) = none) ∨ ∃ a f, pickA v as = some a ∧ F2 New a.fs f ∧ pickA v (rAlts own own' as fss) = some ⟨a.key, f, a.body.ren (msets (mSet [] own (.str own')) a.fs f)⟩
  | [], _, h => by cases h; exact .inl ⟨rfl, rfl⟩
  | a :: as, fss, h => by
    rw [List.map_cons] at h
    cases h with
    | @cons _ f _ fss n F =>
      unfold rAlts pickA
      by_cases hh : hit v a.key = true
      · rw [if_pos hh, if_pos hh]; exact .inr ⟨a, f, rfl, n, rfl⟩
      · rw [if_neg hh, if_neg hh]; exact rAlts_pick own own' v as fss F
theorem rAlts_gd (own own' : Str) : ∀ (as : List Al) (fss : List (List Str)), F2 (F2 New) (as.map Al.fs) fss → (∀ a ∈ as, a.ga.Ok ∧ a.body.Wf) → ∀ a ∈ rAlts own own' as fss, a.ga.Ok ∧ a.body.Wf
  | [], _, h, _ => fun a ha => by cases h; cases ha
  | b :: as, fss, h, ho => fun a ha => by
    rw [List.map_cons] at h
    cases h with
    | @cons _ f _ fss n F =>
      rcases List.mem_cons.mp ha with rfl | ha
      · have h1 := ho b (.head _)
        refine ⟨⟨fun x e => ⟨(h1.1.key x e).1, ?_⟩, fun e => ?_⟩, h1.2.ren _⟩
        · show f.length = _
          rw [← n.length]; exact (h1.1.key x e).2
        · show f = []
          have h2 : b.fs = [] := h1.1.lit e
          rw [h2] at n
          cases n; rfl
      · exact rAlts_gd own own' as fss F (fun c hc => ho c (.tail _ hc)) a ha
theorem RenOf.gd {c c' : Cs} (h : RenOf c c') (hc : c.Gd) : c'.Gd := by
  obtain ⟨own', fss', h1, h2, rfl⟩ := h
  exact ⟨rAlts_gd _ _ _ _ h2 hc.alts, hc.other.ren _⟩
theorem ren_out {c c' : Cs} {d d' : Dic} {v : Vl} (hc : c.Ok) (h : RenOf c c') (hd : Corr [] d d') (hv : v.Ok) : outc v d' c' = outc v d c := by
  obtain ⟨own', fss', h1, h2, rfl⟩ := h
  have hs := hd.set LOK.nil hc.own h1 v.enc
  have hl := LOK.nil.set h1
  unfold outc
  simp only
  rcases rAlts_pick c.own own' v c.alts fss' h2 with ⟨e1, e2⟩ | ⟨a, f, e1, n, e2⟩
  · rw [e1, e2]
    exact sv_ren hs hc.other
  · rw [e1, e2]
    have ha := hc.alts a (pickA_mem e1).1
    have hw : v.args.length = a.fs.length := hit_len (a := a.ga) hv ha.ga (pickA_mem e1).2
    exact sv_ren (hs.sets hl ha.fs n hw) ha.body
theorem same_out {c : Cs} {d d' : Dic} {v : Vl} (hc : c.Ok) (hd : Corr [] d d') : outc v d' c = outc v d c := by
  unfold outc
  cases e : pickA v c.alts with
  | none => exact sv_same (hd.same _) hc.other
  | some a => exact sv_same (hd.same _).sames (hc.alts a (pickA_mem e).1).body
end Mine
end

section
namespace Mine
open PySem
noncomputable def Lv (k : Nat) (v : MV) : Prop := ∃ p, toP v = some p ∧ p.canLay0 = true ∧ p.depth ≤ k
noncomputable def Lvs (k : Nat) (l : List MV) : Prop := ∃ p, toPs l = some p ∧ PyData.canLayAll0 p = true ∧ PyData.depthAll p ≤ k
theorem Lv.mono {k k' : Nat} {v : MV} (h : Lv k v) (l : k ≤ k') : Lv k' v := let ⟨p, a, b, c⟩ := h; ⟨p, a, b, Nat.le_trans c l⟩
theorem lv_int (k : Nat) (i : Int) : Lv k (.int i) := ⟨.int i, by simp only [toP], by simp only [PyData.canLay0], by simp only [PyData.depth]; lia⟩
theorem lv_str (k : Nat) (x : Str) (h : PyData.strOk x = true) : Lv k (.str x) := ⟨.str x, by simp only [toP], by simpa only [PyData.canLay0] using h, by simp only [PyData.depth]; lia⟩
theorem lvs_nil (k : Nat) : Lvs k [] := ⟨[], by simp only [toPs], by simp only [PyData.canLayAll0], by simp only [PyData.depthAll]; lia⟩
theorem lvs_cons {k : Nat} {v : MV} {l : List MV} (h : Lv k v) (h' : Lvs k l) : Lvs k (v :: l) := by
  obtain ⟨p, a, b, c⟩ := h
  obtain ⟨q, a', b', c'⟩ := h'
  exact ⟨p :: q, by simp only [toPs, a, a'], by simp only [PyData.canLayAll0, b, b', Bool.and_self], by simp only [PyData.depthAll]; lia⟩
theorem lv_tup {k : Nat} {l : List MV} (h : Lvs k l) : Lv (k + 1) (.tup l) := by
  obtain ⟨p, a, b, c⟩ := h
  exact ⟨.tuple p, by simp only [toP, a, Option.map], by simpa only [PyData.canLay0] using b, by simp only [PyData.depth]; lia⟩
theorem lv_lst {k : Nat} {l : List MV} (h : Lvs k l) : Lv (k + 1) (.lst l) := by
  obtain ⟨p, a, b, c⟩ := h
  exact ⟨.list p, by simp only [toP, a, Option.map], by simpa only [PyData.canLay0] using b, by simp only [PyData.depth]; lia⟩
theorem lvs_map {α : Type} {k : Nat} {f : α → MV} : ∀ {l : List α}, (∀ a ∈ l, Lv k (f a)) → Lvs k (l.map f)
  | [], _ => lvs_nil k
  | a :: l, h => lvs_cons (h a (.head _)) (lvs_map fun b hb => h b (.tail _ hb))
theorem lv_from {x : Str} (h : x ∈ PL) : Lv 1 (.tup [.str "from", .str x]) := by
  have h1 : (PL.all fun x => PyData.strOk x) = true := by decide +kernel
  exact lv_tup (lvs_cons (lv_str 0 _ (by decide +kernel)) (lvs_cons (lv_str 0 _ (List.all_eq_true.mp h1 x h)) (lvs_nil _)))
theorem lv_num (i : Int) : Lv 1 (.tup [.str "number", .int i]) := lv_tup (lvs_cons (lv_str 0 _ (by decide +kernel)) (lvs_cons (lv_int 0 i) (lvs_nil _)))
noncomputable def NM : List Str := ["A", "B", "C", "D", "T"]
theorem lv_cell {k : Nat} {x : Str} {l : List MV} (h : x ∈ NM) (hl : Lvs k l) : Lv (k + 2) (.tup [.str "cell", .str x, .lst l]) := by
  have h1 : (NM.all fun x => PyData.strOk x) = true := by decide +kernel
  exact lv_tup (lvs_cons (lv_str _ _ (by decide +kernel)) (lvs_cons (lv_str _ _ (List.all_eq_true.mp h1 x h)) (lvs_cons (lv_lst hl) (lvs_nil _))))
noncomputable def Good (r : MV) : Prop := (∃ l, r = .tup l) ∧ Lv 64 r
theorem Good.eq {r : MV} (h : Good r) : eqMV r r = some true := by
  obtain ⟨⟨l, rfl⟩, p, a, b, c⟩ := h
  unfold eqMV
  simp only [a]
  have hs : SeqAt.shaped p = true := by unfold SeqAt.shaped; rw [b, decide_eq_true c]; rfl
  rw [hs, SeqAt.eqv_refl p b]; rfl
noncomputable def LvD (k : Nat) (d : Dic) : Prop := ∀ x ∈ PL, Lv k (look d x)
theorem LvD.nil : LvD 1 [] := fun x hx => lv_from hx
theorem LvD.mono {k k' : Nat} {d : Dic} (h : LvD k d) (l : k ≤ k') : LvD k' d := fun x hx => (h x hx).mono l
theorem LvD.set {k : Nat} {d : Dic} (h : LvD k d) (y : Str) {w : MV} (hw : Lv k w) : LvD k (mSet d y w) := fun x hx => by
  rw [look_set]
  split
  · exact hw
  · exact h x hx
theorem LvD.sets {k : Nat} : ∀ {xs : List Str} {ws : List MV} {d : Dic}, LvD k d → (∀ w ∈ ws, Lv k w) → LvD k (msv d xs ws)
  | [], _, _, h, _ => by simpa [msv] using h
  | x :: xs, [], _, h, _ => by simpa [msv] using h
  | x :: xs, w :: ws, d, h, hw => by unfold msv; exact LvD.sets (h.set x (hw w (.head _))) (fun v hv => hw v (.tail _ hv))
noncomputable def NmOk (b : Sm) : Prop := ∀ n as, b = .con n as → n ∈ NM
theorem IsT.nm {b : Sm} (h : IsT b) : NmOk b := by
  obtain ⟨as, _, rfl⟩ := h
  intro n as' e
  cases e
  simp [NM]
theorem Cl.Ok.nm {c : Cl} (h : c.Ok) : c.name ∈ NM := by
  have := h.name
  simp only [NM, List.mem_cons, List.not_mem_nil, or_false] at this ⊢
  rcases this with h | h | h | h <;> simp [h]
theorem IsCell.nm {b : Sm} (h : IsCell b) : NmOk b := by
  obtain ⟨c, hc, rfl⟩ := h
  intro n as' e
  cases e
  exact hc.nm
theorem lv_av {k : Nat} {d : Dic} (h : LvD k d) (hk : 1 ≤ k) {a : At} (ha : a.Ok) : Lv k (av d a) := by
  cases a with
  | v x => exact h x ha
  | l i => exact (lv_num i).mono hk
theorem lv_sv {k : Nat} {d : Dic} (h : LvD k d) (hk : 1 ≤ k) {b : Sm} (hb : b.Ok) (hn : NmOk b) : Lv (k + 2) (sv d b) := by
  cases b with
  | atm a => exact (lv_av h hk hb).mono (by lia)
  | con n as => exact lv_cell (hn n as rfl) (lvs_map fun a ha => lv_av h hk (hb.2 a ha))
noncomputable def Cs.T (c : Cs) : Prop := (∀ a ∈ c.alts, IsT a.body) ∧ IsT c.other
theorem isT_tup {b : Sm} (h : IsT b) (d : Dic) : ∃ l, sv d b = .tup l := by
  obtain ⟨as, _, rfl⟩ := h
  exact ⟨_, rfl⟩
theorem good_out {k : Nat} {d : Dic} {c : Cs} {v : Vl} (hd : LvD k d) (hk : 1 ≤ k) (hk2 : k ≤ 60) (hc : c.Ok) (hT : c.T) (hv : Lv k v.enc) (hw : ∀ w ∈ v.args, Lv k w) : Good (outc v d c) := by
  unfold outc
  cases e : pickA v c.alts with
  | none => exact ⟨isT_tup hT.2 _, (lv_sv (hd.set _ hv) hk hc.other hT.2.nm).mono (by lia)⟩
  | some a =>
    have ha := (pickA_mem e).1
    exact ⟨isT_tup (hT.1 a ha) _, (lv_sv ((hd.set _ hv).sets hw) hk (hc.alts a ha).body (hT.1 a ha).nm).mono (by lia)⟩
noncomputable def env (ca cb : Cl) : Dic := mSet (mSet [] "a" (sv [] ca.sm)) "b" (sv [] cb.sm)
theorem lv_env {ca cb : Cl} (ha : ca.Ok) (hb : cb.Ok) : LvD 3 (env ca cb) := by
  have h1 := lv_sv LvD.nil (Nat.le_refl 1) ha.sm (IsCell.nm ⟨ca, ha, rfl⟩)
  have h2 := lv_sv LvD.nil (Nat.le_refl 1) hb.sm (IsCell.nm ⟨cb, hb, rfl⟩)
  exact ((LvD.nil.mono (by lia)).set _ h1).set _ h2
theorem env_length (ca cb : Cl) : (env ca cb).length ≤ 2 := by
  have h1 := mSet_length (mSet [] "a" (sv [] ca.sm)) "b" (sv [] cb.sm)
  have h2 := mSet_length [] "a" (sv [] ca.sm)
  simp only [List.length_nil] at h2
  unfold env
  lia
noncomputable def alB : Ab → Option (Fl × Ab) := (sSeq (sNew 4 gD0) (sSeq (sFor (fIt (fLst (lC9 (fK9 (.str "a")) (lC9 (fK9 (.str "b")) l09))) itMV) (tName 5) (sSeq (sSetD 4 (fA9 (S_law_run RUN) (lC9 (fA9 S_law_cell (lC9 (gv9 0) (lC9 (fLst l09) l09))) (lC9 fD0 l09))) (gv9 5)) sNil)) (sSeq (sIf (asBool (f2 (fA9 (S_law_run RUN) (lC9 (gv9 1) (lC9 (gv9 4) l09))) (fA9 (S_law_run RUN) (lC9 (gv9 2) (lC9 (gv9 4) l09))) (pureOp (cmpMV .NotEq)))) (sSeq (sRet (fK9 (.bool false))) sNil) sNil) sNil)))
theorem alike_turn (t0 t1 : Bool) (rest : Gst) (one other : MV) (h : ∀ ca cb : Cl, ca.Ok → cb.Ok → ∃ r, Good r ∧ Runs 40 one (env ca cb) r ∧ Runs 40 other (env ca cb) r) (g s : Int) (z3 z4 z5 : Slot) :
    ∃ (g' s' : Int) (z4' z5' : Slot), alB ([.val (.glo 2), .val one, .val other, z3, z4, z5], Pn t0 t1 g s rest) = some (.nxt, [.val (.glo 2), .val one, .val other, z3, z4', z5'], Pn t0 t1 g' s' rest) := by
  obtain ⟨ca, g1, s1, oa, e1⟩ := cell_ok t0 t1 g s rest [] (by simp) (by simp)
  obtain ⟨cb, g2, s2, ob, e2⟩ := cell_ok t0 t1 g1 s1 rest [] (by simp) (by simp)
  have e1 : S_law_cell [.glo 2, .lst []] (Pn t0 t1 g s rest) = some (ca.enc, Pn t0 t1 g1 s1 rest) := e1
  have e2 : S_law_cell [.glo 2, .lst []] (Pn t0 t1 g1 s1 rest) = some (cb.enc, Pn t0 t1 g2 s2 rest) := e2
  have r1 : ∀ G, S_law_run RUN [ca.enc, .dct []] G = some (sv [] ca.sm, G) := fun G => runs_sm [] ca.sm oa.sm.wf 38 G
  have r2 : ∀ G, S_law_run RUN [cb.enc, .dct []] G = some (sv [] cb.sm, G) := fun G => runs_sm [] cb.sm ob.sm.wf 38 G
  obtain ⟨r, hg, h1, h2⟩ := h ca cb oa ob
  have r3 : ∀ G, S_law_run RUN [one, .dct (mSet (mSet [] "a" (sv [] ca.sm)) "b" (sv [] cb.sm))] G = some (r, G) := fun G => h1 0 G
  have r4 : ∀ G, S_law_run RUN [other, .dct (mSet (mSet [] "a" (sv [] ca.sm)) "b" (sv [] cb.sm))] G = some (r, G) := fun G => h2 0 G
  have hr : room = 100000 := rfl
  have l0 : ([] : Dic).length ≤ room := by simp only [List.length_nil]; lia
  have l1 : (mSet [] "a" (sv [] ca.sm)).length ≤ room := Nat.le_trans (mSet_length ..) (by simp only [List.length_nil]; lia)
  have q : eqMV r r = some (!false) := hg.eq
  refine ⟨g2, s2, ?_⟩
  apply Exists.intro
  apply Exists.intro
  unfold alB
  exact qs9 (r_new r_gd0 (st4 ..)) (kn9 (qs9 (r_for (r_it (r_lst (ql9 qc9 (ql9 qc9 q09)) (nle9 rfl)) rfl) (r_loop1 (r_tn (st5 ..)) (qs9 (r_setD (qa9 (ql9 (qa9 (ql9 (qv9 rfl) (ql9 (r_lst q09 (nle9 rfl)) q09)) e1) (ql9 r_d0 q09)) (r1 ..)) rfl (qv9 rfl) rfl l0 (st4 ..)) (kn9 qn9)) (lc_nxt (r_loop1 (r_tn (st5 ..)) (qs9 (r_setD (qa9 (ql9 (qa9 (ql9 (qv9 rfl) (ql9 (r_lst q09 (nle9 rfl)) q09)) e2) (ql9 r_d0 q09)) (r2 ..)) rfl (qv9 rfl) rfl l1 (st4 ..)) (kn9 qn9)) (lc_nxt r_loop0))))) (kn9 (qs9 (r_if (qb9 (q29 (qa9 (ql9 (qv9 rfl) (ql9 (r_vald rfl (st4 ..)) q09)) (r3 ..)) (qa9 (ql9 (qv9 rfl) (ql9 (qv9 rfl) q09)) (r4 ..)) (po_ne _ _ _ false q))) (ic_f qn9)) (kn9 qn9)))))
theorem alike_ok (t0 t1 : Bool) (rest : Gst) (one other : MV) (h : ∀ ca cb : Cl, ca.Ok → cb.Ok → ∃ r, Good r ∧ Runs 40 one (env ca cb) r ∧ Runs 40 other (env ca cb) r) (g s : Int) :
    ∃ (g' s' : Int), S_law_alike [.glo 2, one, other] (Pn t0 t1 g s rest) = some (.bool true, Pn t0 t1 g' s' rest) := by
  obtain ⟨g1, s1, z4, z5, e1⟩ := alike_turn t0 t1 rest one other h g s (.val (.int 0)) .un .un
  obtain ⟨g2, s2, y4, y5, e2⟩ := alike_turn t0 t1 rest one other h g1 s1 (.val (.int 1)) z4 z5
  obtain ⟨g3, s3, x4, x5, e3⟩ := alike_turn t0 t1 rest one other h g2 s2 (.val (.int 2)) y4 y5
  refine ⟨g3, s3, ?_⟩
  have e : loopF (tName 3) alB [.int 0, .int 1, .int 2] ([.val (.glo 2), .val one, .val other, .un, .un, .un], Pn t0 t1 g s rest) = some (.nxt, [.val (.glo 2), .val one, .val other, .val (.int 2), x4, x5], Pn t0 t1 g3 s3 rest) :=
    r_loopn rfl e1 (r_loopn rfl e2 (r_loopn rfl e3 r_loop0))
  unfold alB at e
  unfold S_law_alike F_law_alike
  exact r_spec rfl (r_start rfl) (qs9 (r_for (r_it qc9 itR3) e) (kn9 (qs9 (r_ret qc9) k_ret)))
end Mine
end

section
namespace Mine
open PySem
noncomputable def Cl.vl (c : Cl) (d : Dic) : Vl := .cell c.name (c.args.map (av d))
theorem Cl.vl_enc (c : Cl) (d : Dic) : sv d c.sm = (c.vl d).enc := rfl
theorem Cl.Ok.vl {c : Cl} (h : c.Ok) (d : Dic) : (c.vl d).Ok := ⟨fun x ws e => by
  cases e
  exact ⟨h.name, by rw [List.length_map]; exact h.size⟩⟩
theorem lv_vl {k : Nat} {c : Cl} {d : Dic} (h : c.Ok) (hd : LvD k d) (hk : 1 ≤ k) : Lv (k + 2) (c.vl d).enc ∧ ∀ w ∈ (c.vl d).args, Lv (k + 2) w := by
  refine ⟨lv_sv hd hk h.sm (IsCell.nm ⟨c, h, rfl⟩), fun w hw => ?_⟩
  obtain ⟨a, ha, rfl⟩ := List.mem_map.mp hw
  exact (lv_av hd hk (h.args a ha)).mono (by lia)
theorem case_of_let_ok (t0 t1 : Bool) (g s : Int) (c : Cs) (a b cc : Sm) (ha : a.Wf) (hb : b.Wf) (hc : cc.Wf) :
    ∃ x' y' nums', New "p" x' ∧ New "r" y' ∧ S_case_of_let [c.enc (letE "p" "r" a b cc), fr] (Sg t0 t1 g s []) =
      some (.obj 4 [.lst [.tup [.str x', a.enc], .tup [.str y', b.enc]], c.enc (cc.ren (mSet (mSet [] "p" (.str x')) "r" (.str y'))).enc, .bool false], Sg t0 t1 g s nums') := by
  obtain ⟨x', y', nums', n1, n2, _, e⟩ := rename_let t0 t1 g s [] 0 "p" "r" a b cc (by simp [PL]) (by simp [PL]) ha hb hc NumsOK.nil (by decide)
  refine ⟨x', y', nums', n1, n2, ?_⟩
  have e : S_renamed [.obj 4 [.lst [.tup [.str "p", a.enc], .tup [.str "r", b.enc]], cc.enc, .bool false], .obj 9 [.glo 3, .glo 4]] (Sg t0 t1 g s []) = some (.obj 4 [.lst [.tup [.str x', a.enc], .tup [.str y', b.enc]], (cc.ren (mSet (mSet [] "p" (.str x')) "r" (.str y'))).enc, .bool false], Sg t0 t1 g s nums') := e
  unfold S_case_of_let F_case_of_let Cs.enc letE letM fr
  exact r_spec rfl (r_start rfl) (qs9 (r_if (r_or (r_not (qb9 (q19 (qv9 rfl) (isi_t _ _ _ (by decide)))) rfl) rfl) (ic_f qn9)) (kn9 (qs9 (r_set (qa9 (ql9 (q19 (qv9 rfl) (at6_0 ..)) (ql9 (qv9 rfl) q09)) e) (st2 ..)) (kn9 (qs9 (r_ret (qa9 (ql9 (q19 (qv9 rfl) (at4_0 ..)) (ql9 (qa9 (ql9 (q19 (qv9 rfl) (at4_1 ..)) (ql9 (q19 (qv9 rfl) (at6_1 ..)) (ql9 (q19 (qv9 rfl) (at6_2 ..)) (ql9 (q19 (qv9 rfl) (at6_3 ..)) q09)))) (cls6 ..)) (ql9 (q19 (qv9 rfl) (at4_2 ..)) q09))) (cls4 ..))) k_ret)))))
theorem form1_same (c : Cs) (a : At) (b cc : Cl) (x' y' : Str) (hc : c.Ok) (hT : c.T) (ha : a.Ok) (hb : b.Ok) (hcc : cc.Ok) (n1 : New "p" x') (n2 : New "r" y') (ca cb : Cl) (oa : ca.Ok) (ob : cb.Ok) :
    ∃ r, Good r ∧ Runs 40 (c.enc (letE "p" "r" (.atm a) b.sm cc.sm)) (env ca cb) r ∧
      Runs 40 (.obj 4 [.lst [.tup [.str x', (Sm.atm a).enc], .tup [.str y', b.sm.enc]], c.enc (cc.sm.ren (mSet (mSet [] "p" (.str x')) "r" (.str y'))).enc, .bool false]) (env ca cb) r := by
  have hp : ("p" : Str) ∈ PL := by simp [PL]
  have hr : ("r" : Str) ∈ PL := by simp [PL]
  have hl := env_length ca cb
  have lv := lv_env oa ob
  generalize env ca cb = d at hl lv
  let va := sv d (.atm a)
  let vb := sv d b.sm
  let d2 := mSet (mSet d "p" va) "r" vb
  let d3 := mSet (mSet d x' va) y' vb
  have ra : Runs 2 (Sm.atm a).enc d va := runs_sm d (.atm a) trivial
  have rb : Runs 2 b.sm.enc d vb := runs_sm d b.sm hb.sm.wf
  have lva : Lv 3 va := (lv_av lv (by lia) ha).mono (by lia)
  have lvb : Lv 5 vb := lv_sv lv (by lia) hb.sm (IsCell.nm ⟨b, hb, rfl⟩)
  have lv2 : LvD 5 d2 := ((lv.mono (by lia)).set _ (lva.mono (by lia))).set _ lvb
  obtain ⟨w1, w2⟩ := lv_vl hcc lv2 (by lia)
  have l1 : (mSet d x' va).length ≤ 3 := Nat.le_trans (mSet_length ..) (by lia)
  have l2 : d3.length ≤ 4 := Nat.le_trans (mSet_length ..) (by lia)
  refine ⟨outc (cc.vl d2) d c, good_out (k := 7) (lv.mono (by lia)) (by lia) (by lia) hc hT w1 w2, ?_, ?_⟩
  · have r1 : Runs 3 (letE "p" "r" (.atm a) b.sm cc.sm) d (cc.vl d2).enc :=
      runs_let (l := [⟨"p", (Sm.atm a).enc, va⟩, ⟨"r", b.sm.enc, vb⟩]) (runs_sm d2 cc.sm hcc.sm.wf) (by
        intro x hx
        rcases List.mem_cons.mp hx with rfl | hx
        · exact ra
        · rw [List.mem_singleton.mp hx]; exact rb) (by simp; lia)
    exact (runs_cs r1 (by lia) (hcc.vl d2) hc.gd (by lia)).mono (by lia)
  · have k1 : Corr (mSet (mSet [] "p" (.str x')) "r" (.str y')) d2 d3 := ((Corr.refl d).set LOK.nil hp n1 va).set (LOK.nil.set n1) hr n2 vb
    have k2 : Corr [] d d3 := ((Corr.refl d).skip (n1.notPL (PLBS hp)) va).skip (n2.notPL (PLBS hr)) vb
    have e1 : sv d3 (cc.sm.ren (mSet (mSet [] "p" (.str x')) "r" (.str y'))) = (cc.vl d2).enc := sv_ren k1 hcc.sm
    have r1 : Runs 2 (cc.sm.ren (mSet (mSet [] "p" (.str x')) "r" (.str y'))).enc d3 (cc.vl d2).enc := by
      rw [← e1]; exact runs_sm d3 _ (hcc.sm.wf.ren _)
    have r2 : Runs 3 (c.enc (cc.sm.ren (mSet (mSet [] "p" (.str x')) "r" (.str y'))).enc) d3 (outc (cc.vl d2) d c) := by
      rw [← same_out hc k2]; exact runs_cs r1 (by lia) (hcc.vl d2) hc.gd (by lia)
    exact (runs_let (l := [⟨x', (Sm.atm a).enc, va⟩, ⟨y', b.sm.enc, vb⟩]) r2 (by
        intro x hx
        rcases List.mem_cons.mp hx with rfl | hx
        · exact ra.mono (by lia)
        · rw [List.mem_singleton.mp hx]; exact rb.mono (by lia)) (by simp; lia)).mono (by lia)
end Mine
end

section
namespace Mine
open PySem
noncomputable def fbd (d : Dic) : Nat → List At → List Bd
  | _, [] => []
  | k, a :: as => ⟨nm "f" (k + 1), a.enc, av d a⟩ :: fbd d (k + 1) as
theorem fbd_length (d : Dic) : ∀ (k : Nat) (as : List At), (fbd d k as).length = as.length
  | _, [] => rfl
  | k, a :: as => by unfold fbd; rw [List.length_cons, List.length_cons, fbd_length d (k + 1) as]
noncomputable def fbB : Ab → Option (MV × Ab) := (fTup (lC9 (fCallM D_next (gv9 2) (lC9 (fK9 (.str "f")) l09)) (lC9 (gv9 1) l09)))
theorem fb_loop (t0 t1 : Bool) (g s : Int) (d : Dic) : ∀ (as : List At) (k : Nat) (nums : Dic) (ys : List MV) (s1 : Slot), NumsOK k nums → (mAt nums "f").getD (.int 0) = .int k → k + as.length ≤ 10 → ys.length + as.length ≤ 10 →
    ∃ nums' s1', NumsOK (k + as.length) nums' ∧ compL (tName 1) fbB (as.map At.enc) ([.ownL ys, s1, .val fr], Sg t0 t1 g s nums) = some ([.ownL (ys ++ (fbd d k as).map Bd.enc), s1', .val fr], Sg t0 t1 g s nums')
  | [], k, nums, ys, s1, h, _, _, _ => ⟨nums, s1, h, by unfold fbd; rw [List.map_nil, List.map_nil, List.append_nil]; rfl⟩
  | a :: as, k, nums, ys, s1, h, hn, hk, hy => by
    rw [List.length_cons] at hk hy
    have hf : ("f" : Str) ∈ BS := by simp [BS]
    have e1 := next_name t0 t1 g s nums "f" k hf hn (by have hL : LIM = 300 := rfl; lia) (by have := h.len; lia)
    obtain ⟨nums', s1', n1, e⟩ := fb_loop t0 t1 g s d as (k + 1) (mSet nums "f" (.int (k + 1 : Nat))) (ys ++ [.tup [.str (nm "f" (k + 1)), a.enc]]) (.val a.enc) (h.set "f" (k + 1) (by lia)) (by rw [mAt_mSet, if_pos rfl]; rfl) (by lia) (by rw [List.length_append, List.length_singleton]; lia)
    rw [List.append_assoc] at e
    have q : ys.length ≤ room := by have hr : room = 100000 := rfl; lia
    refine ⟨nums', s1', by rw [List.length_cons, show k + (as.length + 1) = k + 1 + as.length by lia]; exact n1, ?_⟩
    refine r_comp1 rfl (?_ : fbB _ = some (.tup [.str (nm "f" (k + 1)), a.enc], [.ownL ys, .val a.enc, .val fr], Sg t0 t1 g s (mSet nums "f" (.int (k + 1 : Nat))))) rfl q rfl e
    unfold fbB
    unfold fr at e1 ⊢
    have e1 : S_Fresh_next [.obj 9 [.glo 3, .glo 4], .str "f"] (Sg t0 t1 g s nums) = some (.str (nm "f" (k + 1)), Sg t0 t1 g s (mSet nums "f" (.int (k + 1 : Nat)))) := e1
    exact r_tup (ql9 (r_callM (qv9 rfl) (ql9 qc9 q09) rfl e1) (ql9 (qv9 rfl) rfl)) (nle9 rfl)
noncomputable def fvB : Ab → Option (MV × Ab) := (fA9 (clsSpec 0) (lC9 (gv9 1) l09))
noncomputable def bvs (l : List Bd) : List At := l.map fun b => .v b.x
theorem fv_loop (G : Gst) : ∀ (l : List Bd) (ys : List MV) (s1 s2 : Slot), ys.length + l.length ≤ 10 →
    ∃ s1' s2', compL (tTup [1, 2]) fvB (l.map Bd.enc) ([.ownL ys, s1, s2], G) = some ([.ownL (ys ++ (bvs l).map At.enc), s1', s2'], G)
  | [], ys, s1, s2, _ => ⟨s1, s2, by unfold bvs; rw [List.map_nil, List.map_nil, List.map_nil, List.append_nil]; rfl⟩
  | b :: l, ys, s1, s2, h => by
    rw [List.length_cons] at h
    obtain ⟨s1', s2', e⟩ := fv_loop G l (ys ++ [.obj 0 [.str b.x]]) (.val (.str b.x)) (.val b.e) (by rw [List.length_append, List.length_singleton]; lia)
    rw [List.append_assoc] at e
    have q : ys.length ≤ room := by have hr : room = 100000 := rfl; lia
    refine ⟨s1', s2', r_comp1 (r_tt2 rfl rfl) (?_ : fvB _ = some (.obj 0 [.str b.x], [.ownL ys, .val (.str b.x), .val b.e], G)) rfl q rfl e⟩
    unfold fvB
    exact qa9 (ql9 (qv9 rfl) rfl) (cls0 ..)
theorem fields_bound_ok (t0 t1 : Bool) (g s : Int) (d : Dic) (c : Cl) (h3 : c.args.length ≤ 3) :
    ∃ nums', NumsOK 3 nums' ∧ S_fields_bound [c.enc, fr] (Sg t0 t1 g s []) = some (.tup [.lst ((fbd d 0 c.args).map Bd.enc), (Sm.con c.name (bvs (fbd d 0 c.args))).enc], Sg t0 t1 g s nums') := by
  obtain ⟨nums', s1, n1, e1⟩ := fb_loop t0 t1 g s d c.args 0 [] [] .un NumsOK.nil rfl (by lia) (by simp only [List.length_nil]; lia)
  obtain ⟨z1, z2, e2⟩ := fv_loop (Sg t0 t1 g s nums') (fbd d 0 c.args) [] .un .un (by rw [fbd_length]; simp only [List.length_nil]; lia)
  refine ⟨nums', n1.mono (by lia), ?_⟩
  show S_fields_bound [c.enc, fr] (Sg t0 t1 g s []) = some (.tup [.lst ((fbd d 0 c.args).map Bd.enc), .obj 7 [.str c.name, .lst ((bvs (fbd d 0 c.args)).map At.enc)]], Sg t0 t1 g s nums')
  unfold fbB at e1
  unfold fvB at e2
  unfold S_fields_bound F_fields_bound Cl.enc
  unfold fr at e1 ⊢
  exact r_spec rfl (r_start rfl) (qs9 (r_set (r_comp (k := e1) (r_it (q19 (qv9 rfl) (at7_1 ..)) rfl) (r_cst rfl)) (st2 ..)) (kn9 (qs9 (r_ret (r_tup (ql9 (qv9 rfl) (ql9 (qa9 (ql9 (q19 (qv9 rfl) (at7_0 ..)) (ql9 (r_comp (k := e2) (r_it (qv9 rfl) rfl) (r_cst rfl)) q09)) (cls7 ..)) q09)) (nle9 rfl))) rfl)))
noncomputable def enco : Option Al → MV
  | some a => a.enc
  | none => .none
noncomputable def wcB : Ab → Option (Fl × Ab) := (sSeq (sIf (asBool (f2 (f1 (gv9 2) (fAttr "key")) (fTup (lC9 (fK9 (.str "con")) (lC9 (gv9 1) l09))) (pureOp (cmpMV .Eq)))) (sSeq (sRet (gv9 2)) sNil) sNil) sNil)
theorem eq_key {k : Ky} {x : Str} {ws : List MV} (hx : x ∈ ABCD) (hk : ∀ y, k = .con y → y ∈ ABCD) : eqMV k.enc (.tup [.str "con", .str x]) = some (hit (.cell x ws) k) := by
  cases k with
  | lit => exact q_lc x hx
  | con y => exact q_kk x y hx (hk y rfl)
theorem wc_loop (G : Gst) (o : MV) (x : Str) (ws : List MV) (hx : x ∈ ABCD) : ∀ (as : List Al) (z2 : Slot), (∀ a ∈ as, a.ga.Ok) →
    (∃ ρ a, pickA (.cell x ws) as = some a ∧ loopF (tName 2) wcB (as.map Al.enc) ([.val o, .val (.str x), z2], G) = some (.ret a.enc, ρ, G)) ∨
    (∃ z, pickA (.cell x ws) as = none ∧ loopF (tName 2) wcB (as.map Al.enc) ([.val o, .val (.str x), z2], G) = some (.nxt, [.val o, .val (.str x), z], G))
  | [], z2, _ => .inr ⟨z2, rfl, rfl⟩
  | a :: as, z2, ha => by
    have e := eq_key (ws := ws) hx (fun y e => ((ha a (.head _)).key y e).1)
    cases h : hit (.cell x ws) a.key with
    | true =>
      rw [show a.ga.key = a.key from rfl, h] at e
      refine .inl ⟨[.val o, .val (.str x), .val a.enc], a, by unfold pickA; rw [if_pos h], r_loop1 (T := tName 2) (B := wcB) rfl (?_ : wcB ([.val o, .val (.str x), .val a.enc], G) = some (.ret a.enc, [.val o, .val (.str x), .val a.enc], G)) lc_ret⟩
      unfold wcB Al.enc
      exact qs9 (r_if (qb9 (q29 (q19 (qv9 rfl) (at5_0 ..)) (r_tup (ql9 qc9 (ql9 (qv9 rfl) q09)) (nle9 rfl)) (po_eq _ _ _ true e))) (ic_t (qs9 (r_ret (qv9 rfl)) k_ret))) k_ret
    | false =>
      rw [show a.ga.key = a.key from rfl, h] at e
      have hp : pickA (.cell x ws) (a :: as) = pickA (.cell x ws) as := by
        show (if hit (.cell x ws) a.key then _ else _) = _
        rw [if_neg (by rw [h]; exact Bool.false_ne_true)]
      have e2 : wcB ([.val o, .val (.str x), .val a.enc], G) = some (.nxt, [.val o, .val (.str x), .val a.enc], G) := by
        unfold wcB Al.enc
        exact qs9 (r_if (qb9 (q29 (q19 (qv9 rfl) (at5_0 ..)) (r_tup (ql9 qc9 (ql9 (qv9 rfl) q09)) (nle9 rfl)) (po_eq _ _ _ false e))) (ic_f qn9)) (kn9 qn9)
      rw [hp]
      rcases wc_loop G o x ws hx as (.val a.enc) (fun b hb => ha b (.tail _ hb)) with ⟨ρ, b, h1, h2⟩ | ⟨z, h1, h2⟩
      · exact .inl ⟨ρ, b, h1, r_loopn rfl e2 h2⟩
      · exact .inr ⟨z, h1, r_loopn rfl e2 h2⟩
theorem way_ok (G : Gst) (c : Cs) (v : MV) (x : Str) (ws : List MV) (hx : x ∈ ABCD) (hc : c.Gd) : S_way_of_con [c.enc v, .str x] G = some (enco (pickA (.cell x ws) c.alts), G) := by
  rcases wc_loop G (c.enc v) x ws hx c.alts .un (fun a ha => (hc.alts a ha).1) with ⟨ρ, b, h1, h2⟩ | ⟨z, h1, h2⟩
  · rw [h1]
    unfold wcB Cs.enc at h2
    unfold S_way_of_con F_way_of_con Cs.enc enco
    exact r_spec rfl (r_start rfl) (qs9 (r_for (r_it (q19 (qv9 rfl) (at6_2 ..)) rfl) h2) k_ret)
  · rw [h1]
    unfold wcB Cs.enc at h2
    unfold S_way_of_con F_way_of_con Cs.enc enco
    exact r_spec rfl (r_start rfl) (qs9 (r_for (r_it (q19 (qv9 rfl) (at6_2 ..)) rfl) h2) (kn9 (qs9 (r_ret qc9) k_ret)))
end Mine
end

section
namespace Mine
open PySem
noncomputable def fzb : List Str → List Bd → List Bd
  | y :: ys, b :: l => ⟨y, .obj 0 [.str b.x], b.w⟩ :: fzb ys l
  | _, _ => []
noncomputable def kfC : Ab → Option (MV × Ab) := (fComp 1 [6, 4] (fIt (fA9 opLen (lC9 (f1 (gv9 6) (fAttr "names")) l09)) itRange) (tName 1) (fTup (lC9 (f2 (f1 (gv9 2) (fAttr "names")) (gv9 1) fIdx) (lC9 (f2 (f1 (gv9 3) (fAttr "args")) (gv9 1) fIdx) l09))))
theorem kf_ok (G : Gst) (e f c b o k bd n : MV) (z7 : Slot) (fs : List Str) (l : List Bd) (hl : l.length = fs.length) (h3 : fs.length ≤ 3) :
    kfC ([.val e, .val f, .val c, .val b, .val (.obj 7 [n, .lst ((bvs l).map At.enc)]), .val o, .val (.obj 5 [k, .lst (fs.map .str), bd]), z7], G) =
      some (.lst ((fzb fs l).map Bd.enc), [.val e, .val f, .val c, .val b, .val (.obj 7 [n, .lst ((bvs l).map At.enc)]), .val o, .val (.obj 5 [k, .lst (fs.map .str), bd]), z7], G) := by
  cases ll2_of hl h3 with
  | z => kernel_rfl
  | o x a =>
    show kfC ([.val e, .val f, .val c, .val b, .val (.obj 7 [n, .lst [.obj 0 [.str a.x]]]), .val o, .val (.obj 5 [k, .lst [.str x], bd]), z7], G) =
      some (.lst [.tup [.str x, .obj 0 [.str a.x]]], [.val e, .val f, .val c, .val b, .val (.obj 7 [n, .lst [.obj 0 [.str a.x]]]), .val o, .val (.obj 5 [k, .lst [.str x], bd]), z7], G)
    unfold kfC
    exact r_comp (r_it (qa9 (ql9 (q19 (qv9 rfl) (at5_1 ..)) q09) (opL1 ..)) itR1) (r_cst rfl) (r_comp1 (r_tn (st1 ..)) (r_tup (ql9 (q29 (q19 (qv9 rfl) (at5_1 ..)) (qv9 rfl) (fIdx_l0 ..)) (ql9 (q29 (q19 (qv9 rfl) (at7_1 ..)) (qv9 rfl) (fIdx_l0 ..)) q09)) (nle9 rfl)) rfl (nle9 rfl) (st0 ..) rfl)
  | t x x2 a a2 =>
    show kfC ([.val e, .val f, .val c, .val b, .val (.obj 7 [n, .lst [.obj 0 [.str a.x], .obj 0 [.str a2.x]]]), .val o, .val (.obj 5 [k, .lst [.str x, .str x2], bd]), z7], G) =
      some (.lst [.tup [.str x, .obj 0 [.str a.x]], .tup [.str x2, .obj 0 [.str a2.x]]], [.val e, .val f, .val c, .val b, .val (.obj 7 [n, .lst [.obj 0 [.str a.x], .obj 0 [.str a2.x]]]), .val o, .val (.obj 5 [k, .lst [.str x, .str x2], bd]), z7], G)
    unfold kfC
    exact r_comp (r_it (qa9 (ql9 (q19 (qv9 rfl) (at5_1 ..)) q09) (opL2 ..)) itR2) (r_cst rfl) (r_comp1 (r_tn (st1 ..)) (r_tup (ql9 (q29 (q19 (qv9 rfl) (at5_1 ..)) (qv9 rfl) (fIdx_l0 ..)) (ql9 (q29 (q19 (qv9 rfl) (at7_1 ..)) (qv9 rfl) (fIdx_l0 ..)) q09)) (nle9 rfl)) rfl (nle9 rfl) (st0 ..) (r_comp1 (r_tn (st1 ..)) (r_tup (ql9 (q29 (q19 (qv9 rfl) (at5_1 ..)) (qv9 rfl) (fIdx_l1 ..)) (ql9 (q29 (q19 (qv9 rfl) (at7_1 ..)) (qv9 rfl) (fIdx_l1 ..)) q09)) (nle9 rfl)) rfl (nle9 rfl) (st0 ..) rfl))
  | h x x2 x3 a a2 a3 =>
    show kfC ([.val e, .val f, .val c, .val b, .val (.obj 7 [n, .lst [.obj 0 [.str a.x], .obj 0 [.str a2.x], .obj 0 [.str a3.x]]]), .val o, .val (.obj 5 [k, .lst [.str x, .str x2, .str x3], bd]), z7], G) =
      some (.lst [.tup [.str x, .obj 0 [.str a.x]], .tup [.str x2, .obj 0 [.str a2.x]], .tup [.str x3, .obj 0 [.str a3.x]]], [.val e, .val f, .val c, .val b, .val (.obj 7 [n, .lst [.obj 0 [.str a.x], .obj 0 [.str a2.x], .obj 0 [.str a3.x]]]), .val o, .val (.obj 5 [k, .lst [.str x, .str x2, .str x3], bd]), z7], G)
    unfold kfC
    exact r_comp (r_it (qa9 (ql9 (q19 (qv9 rfl) (at5_1 ..)) q09) (opL3 ..)) itR3) (r_cst rfl) (r_comp1 (r_tn (st1 ..)) (r_tup (ql9 (q29 (q19 (qv9 rfl) (at5_1 ..)) (qv9 rfl) (fIdx_l0 ..)) (ql9 (q29 (q19 (qv9 rfl) (at7_1 ..)) (qv9 rfl) (fIdx_l0 ..)) q09)) (nle9 rfl)) rfl (nle9 rfl) (st0 ..) (r_comp1 (r_tn (st1 ..)) (r_tup (ql9 (q29 (q19 (qv9 rfl) (at5_1 ..)) (qv9 rfl) (fIdx_l1 ..)) (ql9 (q29 (q19 (qv9 rfl) (at7_1 ..)) (qv9 rfl) (fIdx_l1 ..)) q09)) (nle9 rfl)) rfl (nle9 rfl) (st0 ..) (r_comp1 (r_tn (st1 ..)) (r_tup (ql9 (q29 (q19 (qv9 rfl) (at5_1 ..)) (qv9 rfl) (fIdx_l2 ..)) (ql9 (q29 (q19 (qv9 rfl) (at7_1 ..)) (qv9 rfl) (fIdx_l2 ..)) q09)) (nle9 rfl)) rfl (nle9 rfl) (st0 ..) rfl)))
noncomputable def bodyOf (v : Vl) (c : Cs) : Sm := match pickA v c.alts with
  | some a => a.body
  | none => c.other
noncomputable def fldsOf (v : Vl) (c : Cs) (l : List Bd) : List Bd := match pickA v c.alts with
  | some a => fzb a.fs l
  | none => []
noncomputable def kcM (c' : Cs) (v : Vl) (l : List Bd) (V w : MV) : MV := wl (l.map Bd.enc) (wl [(⟨c'.own, V, w⟩ : Bd).enc] (wl ((fldsOf v c' l).map Bd.enc) (bodyOf v c').enc))
set_option maxHeartbeats 1000000 in
theorem known_con_ok (t0 t1 : Bool) (g s : Int) (d : Dic) (c : Cs) (c0 : Cl) (hc : c.Ok) (h0 : c0.Ok) (w : MV) :
    ∃ c' nums', RenOf c c' ∧ S_known_con [c.enc c0.enc, fr] (Sg t0 t1 g s []) = some (kcM c' (c0.vl d) (fbd d 0 c0.args) (Sm.con c0.name (bvs (fbd d 0 c0.args))).enc w, Sg t0 t1 g s nums') := by
  have h3 : c0.args.length ≤ 3 := h0.size ▸ Cl.size_le _
  obtain ⟨nums1, n1, e1⟩ := fields_bound_ok t0 t1 g s d c0 h3
  have hlen : (fbd d 0 c0.args).length = c0.args.length := fbd_length ..
  have hw : (Sm.con c0.name (bvs (fbd d 0 c0.args))).Wf := by show (bvs _).length ≤ 3; unfold bvs; rw [List.length_map, hlen]; exact h3
  obtain ⟨c', nums2, hR, n2, e2⟩ := rename_case t0 t1 g s nums1 3 c (.con c0.name (bvs (fbd d 0 c0.args))) hc hw n1 (by decide)
  refine ⟨c', nums2, hR, ?_⟩
  have hg := hR.gd hc.gd
  have e3 := fun G => way_ok G c' (Sm.con c0.name (bvs (fbd d 0 c0.args))).enc c0.name (c0.args.map (av d)) h0.name hg
  have hv := h0.vl d
  unfold kcM fldsOf bodyOf
  show S_known_con [.obj 6 [.obj 7 [.str c0.name, .lst (c0.args.map At.enc)], .str c.own, .lst (c.alts.map Al.enc), c.other.enc], .obj 9 [.glo 3, .glo 4]] (Sg t0 t1 g s []) = _
  unfold Cl.enc fr at e1
  have ho : isNone c'.other.enc = false := c'.other.enc_none
  generalize fbd d 0 c0.args = l at e1 e2 e3 hlen
  have e1 : S_fields_bound [.obj 7 [.str c0.name, .lst (c0.args.map At.enc)], .obj 9 [.glo 3, .glo 4]] (Sg t0 t1 g s []) = some (.tup [.lst (l.map Bd.enc), .obj 7 [.str c0.name, .lst ((bvs l).map At.enc)]], Sg t0 t1 g s nums1) := e1
  have e2 : S_renamed [.obj 6 [.obj 7 [.str c0.name, .lst ((bvs l).map At.enc)], .str c.own, .lst (c.alts.map Al.enc), c.other.enc], .obj 9 [.glo 3, .glo 4]] (Sg t0 t1 g s nums1) = some (.obj 6 [.obj 7 [.str c0.name, .lst ((bvs l).map At.enc)], .str c'.own, .lst (c'.alts.map Al.enc), c'.other.enc], Sg t0 t1 g s nums2) := e2
  have e3 : ∀ G, S_way_of_con [.obj 6 [.obj 7 [.str c0.name, .lst ((bvs l).map At.enc)], .str c'.own, .lst (c'.alts.map Al.enc), c'.other.enc], .str c0.name] G = some (enco (pickA (c0.vl d) c'.alts), G) := e3
  cases hp : pickA (c0.vl d) c'.alts with
  | none =>
    rw [hp] at e3
    have e4 : ∀ G, S_with_lets [.lst [.lst (l.map Bd.enc), .lst [.tup [.str c'.own, .obj 7 [.str c0.name, .lst ((bvs l).map At.enc)]]]], c'.other.enc] G = some (wl (l.map Bd.enc) (wl [(⟨c'.own, (Sm.con c0.name (bvs l)).enc, w⟩ : Bd).enc] (wl (([] : List Bd).map Bd.enc) c'.other.enc)), G) := fun G => with2 ..
    unfold enco at e3
    unfold S_known_con F_known_con
    exact r_spec rfl (r_start rfl) (qs9 (r_set (qa9 (ql9 (q19 (qv9 rfl) (at6_0 ..)) (ql9 (q19 (qv9 rfl) (at6_1 ..)) (ql9 (q19 (qv9 rfl) (at6_2 ..)) (ql9 (q19 (qv9 rfl) (at6_3 ..)) q09)))) (cls6 ..)) (st2 ..)) (kn9 (qs9 (r_unp (qa9 (ql9 (q19 (qv9 rfl) (at6_0 ..)) (ql9 (qv9 rfl) q09)) e1) (r_tt2 (st3 ..) (st4 ..))) (kn9 (qs9 (r_set (qa9 (ql9 (qa9 (ql9 (qv9 rfl) (ql9 (q19 (qv9 rfl) (at6_1 ..)) (ql9 (q19 (qv9 rfl) (at6_2 ..)) (ql9 (q19 (qv9 rfl) (at6_3 ..)) q09)))) (cls6 ..)) (ql9 (qv9 rfl) q09)) e2) (st5 ..)) (kn9 (qs9 (r_set (qa9 (ql9 (qv9 rfl) (ql9 (q19 (qv9 rfl) (at7_0 ..)) q09)) (e3 ..)) (st6 ..)) (kn9 (qs9 (r_if (qb9 (q29 (qv9 rfl) qc9 (po_isn ..))) (ic_t (qs9 (r_ret (r_fif (qb9 (q29 (q19 (qv9 rfl) (at6_3 ..)) qc9 (po_is _ _ _ ho))) (ic_f (qa9 (ql9 (r_lst (ql9 (qv9 rfl) (ql9 (r_lst (ql9 (r_tup (ql9 (q19 (qv9 rfl) (at6_1 ..)) (ql9 (qv9 rfl) q09)) (nle9 rfl)) q09) (nle9 rfl)) q09)) (nle9 rfl)) (ql9 (q19 (qv9 rfl) (at6_3 ..)) q09)) (e4 ..))))) k_ret))) k_ret)))))))))
  | some a =>
    rw [hp] at e3
    have ha := hg.alts a (pickA_mem hp).1
    have hl2 : l.length = a.fs.length := by
      rw [hlen]
      have := hit_len (a := a.ga) hv ha.1 (pickA_mem hp).2
      rwa [show (c0.vl d).args = c0.args.map (av d) from rfl, List.length_map] at this
    have e4 : ∀ G, S_with_lets [.lst [.lst (l.map Bd.enc), .lst [.tup [.str c'.own, .obj 7 [.str c0.name, .lst ((bvs l).map At.enc)]]], .lst ((fzb a.fs l).map Bd.enc)], a.body.enc] G = some (wl (l.map Bd.enc) (wl [(⟨c'.own, (Sm.con c0.name (bvs l)).enc, w⟩ : Bd).enc] (wl ((fzb a.fs l).map Bd.enc) a.body.enc)), G) := fun G => with3 ..
    have e5 := fun G e f c b o z7 => kf_ok G e f c b o a.key.enc a.body.enc (.str c0.name) z7 a.fs l hl2 (by lia)
    unfold kfC at e5
    have e3 : ∀ G, S_way_of_con [.obj 6 [.obj 7 [.str c0.name, .lst ((bvs l).map At.enc)], .str c'.own, .lst (c'.alts.map Al.enc), c'.other.enc], .str c0.name] G = some (.obj 5 [a.key.enc, .lst (a.fs.map .str), a.body.enc], G) := e3
    unfold S_known_con F_known_con
    exact r_spec rfl (r_start rfl) (qs9 (r_set (qa9 (ql9 (q19 (qv9 rfl) (at6_0 ..)) (ql9 (q19 (qv9 rfl) (at6_1 ..)) (ql9 (q19 (qv9 rfl) (at6_2 ..)) (ql9 (q19 (qv9 rfl) (at6_3 ..)) q09)))) (cls6 ..)) (st2 ..)) (kn9 (qs9 (r_unp (qa9 (ql9 (q19 (qv9 rfl) (at6_0 ..)) (ql9 (qv9 rfl) q09)) e1) (r_tt2 (st3 ..) (st4 ..))) (kn9 (qs9 (r_set (qa9 (ql9 (qa9 (ql9 (qv9 rfl) (ql9 (q19 (qv9 rfl) (at6_1 ..)) (ql9 (q19 (qv9 rfl) (at6_2 ..)) (ql9 (q19 (qv9 rfl) (at6_3 ..)) q09)))) (cls6 ..)) (ql9 (qv9 rfl) q09)) e2) (st5 ..)) (kn9 (qs9 (r_set (qa9 (ql9 (qv9 rfl) (ql9 (q19 (qv9 rfl) (at7_0 ..)) q09)) (e3 ..)) (st6 ..)) (kn9 (qs9 (r_if (qb9 (q29 (qv9 rfl) qc9 (po_iso ..))) (ic_f qn9)) (kn9 (qs9 (r_set (e5 ..) (st7 ..)) (kn9 (qs9 (r_ret (qa9 (ql9 (r_lst (ql9 (qv9 rfl) (ql9 (r_lst (ql9 (r_tup (ql9 (q19 (qv9 rfl) (at6_1 ..)) (ql9 (qv9 rfl) q09)) (nle9 rfl)) q09) (nle9 rfl)) (ql9 (qv9 rfl) q09))) (nle9 rfl)) (ql9 (q19 (qv9 rfl) (at5_2 ..)) q09)) (e4 ..))) k_ret)))))))))))))
end Mine
end

section
namespace Mine
open PySem
noncomputable def litM (i : Int) : MV := .obj 1 [.str "int", .int i]
noncomputable def klB : Ab → Option (Fl × Ab) := (sSeq (sIf (asBool (f2 (f1 (gv9 4) (fAttr "key")) (gv9 3) (pureOp (cmpMV .Eq)))) (sSeq (sRet (fA9 (clsSpec 4) (lC9 (fLst (lC9 (fTup (lC9 (f1 (gv9 2) (fAttr "name")) (lC9 (f1 (gv9 0) (fAttr "value")) l09))) l09)) (lC9 (f1 (gv9 4) (fAttr "body")) (lC9 (fK9 (.bool false)) l09))))) sNil) sNil) sNil)
theorem eq_lit {k : Ky} {i : Int} (hk : ∀ y, k = .con y → y ∈ ABCD) : eqMV k.enc (.tup [.str "lit", .str "int", .int i]) = some (hit (.num i) k) := by
  cases k with
  | lit => exact q_ll i
  | con y => exact q_cl y i (hk y rfl)
theorem kl_loop (G : Gst) (as' al o : MV) (own own' : Str) (f x1 x2 x3 : MV) (i : Int) : ∀ (as : List Al) (z4 : Slot), (∀ a ∈ as, a.ga.Ok) →
    (∃ ρ a, pickA (.num i) as = some a ∧ loopF (tName 4) klB (as.map Al.enc) ([.val (.obj 6 [litM i, x1, x2, x3]), .val f, .val (.obj 6 [litM i, .str own', al, o]), .val (.tup [.str "lit", .str "int", .int i]), z4], G) = some (.ret (.obj 4 [.lst [.tup [.str own', litM i]], a.body.enc, .bool false]), ρ, G)) ∨
    (∃ z, pickA (.num i) as = none ∧ loopF (tName 4) klB (as.map Al.enc) ([.val (.obj 6 [litM i, x1, x2, x3]), .val f, .val (.obj 6 [litM i, .str own', al, o]), .val (.tup [.str "lit", .str "int", .int i]), z4], G) = some (.nxt, [.val (.obj 6 [litM i, x1, x2, x3]), .val f, .val (.obj 6 [litM i, .str own', al, o]), .val (.tup [.str "lit", .str "int", .int i]), z], G))
  | [], z4, _ => .inr ⟨z4, rfl, rfl⟩
  | a :: as, z4, ha => by
    have e := eq_lit (i := i) (fun y e => ((ha a (.head _)).key y e).1)
    cases h : hit (.num i) a.key with
    | true =>
      rw [show a.ga.key = a.key from rfl, h] at e
      refine .inl ⟨[.val (.obj 6 [litM i, x1, x2, x3]), .val f, .val (.obj 6 [litM i, .str own', al, o]), .val (.tup [.str "lit", .str "int", .int i]), .val a.enc], a, by unfold pickA; rw [if_pos h], r_loop1 (T := tName 4) (B := klB) rfl (?_ : klB ([.val (.obj 6 [litM i, x1, x2, x3]), .val f, .val (.obj 6 [litM i, .str own', al, o]), .val (.tup [.str "lit", .str "int", .int i]), .val a.enc], G) = some (.ret (.obj 4 [.lst [.tup [.str own', litM i]], a.body.enc, .bool false]), [.val (.obj 6 [litM i, x1, x2, x3]), .val f, .val (.obj 6 [litM i, .str own', al, o]), .val (.tup [.str "lit", .str "int", .int i]), .val a.enc], G)) lc_ret⟩
      unfold klB Al.enc
      exact qs9 (r_if (qb9 (q29 (q19 (qv9 rfl) (at5_0 ..)) (qv9 rfl) (po_eq _ _ _ true e))) (ic_t (qs9 (r_ret (qa9 (ql9 (r_lst (ql9 (r_tup (ql9 (q19 (qv9 rfl) (at6_1 ..)) (ql9 (q19 (qv9 rfl) (at6_0 ..)) q09)) (nle9 rfl)) q09) (nle9 rfl)) (ql9 (q19 (qv9 rfl) (at5_2 ..)) (ql9 qc9 q09))) (cls4 ..))) k_ret))) k_ret
    | false =>
      rw [show a.ga.key = a.key from rfl, h] at e
      have hp : pickA (.num i) (a :: as) = pickA (.num i) as := by
        show (if hit (.num i) a.key then _ else _) = _
        rw [if_neg (by rw [h]; exact Bool.false_ne_true)]
      have e2 : klB ([.val (.obj 6 [litM i, x1, x2, x3]), .val f, .val (.obj 6 [litM i, .str own', al, o]), .val (.tup [.str "lit", .str "int", .int i]), .val a.enc], G) = some (.nxt, [.val (.obj 6 [litM i, x1, x2, x3]), .val f, .val (.obj 6 [litM i, .str own', al, o]), .val (.tup [.str "lit", .str "int", .int i]), .val a.enc], G) := by
        unfold klB Al.enc
        exact qs9 (r_if (qb9 (q29 (q19 (qv9 rfl) (at5_0 ..)) (qv9 rfl) (po_eq _ _ _ false e))) (ic_f qn9)) (kn9 qn9)
      rw [hp]
      rcases kl_loop G as' al o own own' f x1 x2 x3 i as (.val a.enc) (fun b hb => ha b (.tail _ hb)) with ⟨ρ, b, h1, h2⟩ | ⟨z, h1, h2⟩
      · exact .inl ⟨ρ, b, h1, r_loopn rfl e2 h2⟩
      · exact .inr ⟨z, h1, r_loopn rfl e2 h2⟩
theorem known_lit_ok (t0 t1 : Bool) (g s : Int) (c : Cs) (i : Int) (hc : c.Ok) :
    ∃ c' nums', RenOf c c' ∧ S_known_lit [c.enc (litM i), fr] (Sg t0 t1 g s []) = some (.obj 4 [.lst [.tup [.str c'.own, litM i]], (bodyOf (.num i) c').enc, .bool false], Sg t0 t1 g s nums') := by
  obtain ⟨c', nums', hR, _, e⟩ := rename_case t0 t1 g s [] 0 c (.atm (.l i)) hc trivial NumsOK.nil (by decide)
  refine ⟨c', nums', hR, ?_⟩
  have hg := hR.gd hc.gd
  have ho : isNone c'.other.enc = false := c'.other.enc_none
  have e : S_renamed [.obj 6 [.obj 1 [.str "int", .int i], .str c.own, .lst (c.alts.map Al.enc), c.other.enc], .obj 9 [.glo 3, .glo 4]] (Sg t0 t1 g s []) = some (.obj 6 [.obj 1 [.str "int", .int i], .str c'.own, .lst (c'.alts.map Al.enc), c'.other.enc], Sg t0 t1 g s nums') := e
  unfold bodyOf
  rcases kl_loop (Sg t0 t1 g s nums') .none (.lst (c'.alts.map Al.enc)) c'.other.enc c.own c'.own (.obj 9 [.glo 3, .glo 4]) (.str c.own) (.lst (c.alts.map Al.enc)) c.other.enc i c'.alts .un (fun a ha => (hg.alts a ha).1) with ⟨ρ, b, h1, h2⟩ | ⟨z, h1, h2⟩
  · rw [h1]
    unfold klB litM at h2
    unfold S_known_lit F_known_lit Cs.enc litM fr
    exact r_spec rfl (r_start rfl) (qs9 (r_set (qa9 (ql9 (qv9 rfl) (ql9 (qv9 rfl) q09)) e) (st2 ..)) (kn9 (qs9 (r_set (r_tup (ql9 qc9 (ql9 (q19 (q19 (qv9 rfl) (at6_0 ..)) (at1_0 ..)) (ql9 (q19 (q19 (qv9 rfl) (at6_0 ..)) (at1_1 ..)) q09))) (nle9 rfl)) (st3 ..)) (kn9 (qs9 (r_for (r_it (q19 (qv9 rfl) (at6_2 ..)) rfl) h2) k_ret)))))
  · rw [h1]
    unfold klB litM at h2
    unfold S_known_lit F_known_lit Cs.enc litM fr
    exact r_spec rfl (r_start rfl) (qs9 (r_set (qa9 (ql9 (qv9 rfl) (ql9 (qv9 rfl) q09)) e) (st2 ..)) (kn9 (qs9 (r_set (r_tup (ql9 qc9 (ql9 (q19 (q19 (qv9 rfl) (at6_0 ..)) (at1_0 ..)) (ql9 (q19 (q19 (qv9 rfl) (at6_0 ..)) (at1_1 ..)) q09))) (nle9 rfl)) (st3 ..)) (kn9 (qs9 (r_for (r_it (q19 (qv9 rfl) (at6_2 ..)) rfl) h2) (kn9 (qs9 (r_ret (r_fif (qb9 (q29 (q19 (qv9 rfl) (at6_3 ..)) qc9 (po_is _ _ _ ho))) (ic_f (qa9 (ql9 (r_lst (ql9 (r_tup (ql9 (q19 (qv9 rfl) (at6_1 ..)) (ql9 (q19 (qv9 rfl) (at6_0 ..)) q09)) (nle9 rfl)) q09) (nle9 rfl)) (ql9 (q19 (qv9 rfl) (at6_3 ..)) (ql9 qc9 q09))) (cls4 ..))))) k_ret)))))))
theorem known_case_con (G G' : Gst) (c : Cs) (c0 : Cl) (f r : MV) (e : S_known_con [c.enc c0.enc, f] G = some (r, G')) : S_known_case [c.enc c0.enc, f] G = some (r, G') := by
  unfold Cs.enc Cl.enc at e
  unfold S_known_case F_known_case Cs.enc Cl.enc
  exact r_spec rfl (r_start rfl) (qs9 (r_if (r_not (qb9 (q19 (qv9 rfl) (isi_t _ _ _ (by decide)))) rfl) rfl) (kn9 (qs9 (r_if (qb9 (q19 (q19 (qv9 rfl) (at6_0 ..)) (isi_t _ _ _ (by decide)))) (ic_t (qs9 (r_ret (qa9 (ql9 (qv9 rfl) (ql9 (qv9 rfl) q09)) e)) k_ret))) k_ret)))
theorem known_case_lit (G G' : Gst) (c : Cs) (i : Int) (f r : MV) (e : S_known_lit [c.enc (litM i), f] G = some (r, G')) : S_known_case [c.enc (litM i), f] G = some (r, G') := by
  unfold Cs.enc litM at e
  unfold S_known_case F_known_case Cs.enc litM
  exact r_spec rfl (r_start rfl) (qs9 (r_if (r_not (qb9 (q19 (qv9 rfl) (isi_t _ _ _ (by decide)))) rfl) rfl) (kn9 (qs9 (r_if (qb9 (q19 (q19 (qv9 rfl) (at6_0 ..)) (isi_f _ _ _ _ (by decide) (by decide)))) (ic_f qn9)) (kn9 (qs9 (r_if (qb9 (q19 (q19 (qv9 rfl) (at6_0 ..)) (isi_t _ _ _ (by decide)))) (ic_t (qs9 (r_ret (qa9 (ql9 (qv9 rfl) (ql9 (qv9 rfl) q09)) e)) k_ret))) k_ret)))))
inductive Lets : Nat → MV → MV → Prop
  | nil (b : MV) : Lets 0 b b
  | cons {k : Nat} {x b : MV} (l r : MV) : Lets k x b → Lets (k + 1) (.obj 4 [l, x, r]) b
theorem Lets.wl {k : Nat} {x b : MV} (l : List MV) (h : Lets k x b) : ∃ k' ≤ k + 1, Lets k' (wl l x) b := by
  cases e : l.isEmpty with
  | true => rw [wlT e]; exact ⟨k, by lia, h⟩
  | false => rw [wlF e]; exact ⟨k + 1, by lia, .cons _ _ h⟩
noncomputable def wiB : Ab → Option (Fl × Ab) := (sSeq (sSet 0 (f1 (gv9 0) (fAttr "body"))) sNil)
theorem within_w {k : Nat} {x b : MV} (h : Lets k x b) : ∀ n G, sWhile (asBool (f1 (gv9 0) (opIsi 4))) wiB (n + k) ([.val x], G) = sWhile (asBool (f1 (gv9 0) (opIsi 4))) wiB n ([.val b], G) := by
  induction h with
  | nil b => exact fun n G => rfl
  | @cons k x b l r h ih =>
    intro n G
    rw [← ih n G]
    have e1 : asBool (f1 (gv9 0) (opIsi 4)) ([.val (.obj 4 [l, x, r])], G) = some (true, [.val (.obj 4 [l, x, r])], G) := by exact qb9 (q19 (qv9 rfl) (isi_t _ _ _ (by decide)))
    have e2 : wiB ([.val (.obj 4 [l, x, r])], G) = some (.nxt, [.val x], G) := by
      unfold wiB
      exact qs9 (r_set (q19 (qv9 rfl) (at4_1 ..)) (st0 ..)) (kn9 qn9)
    exact w_true (n := n + k) e1 e2 rfl
theorem within_ok {k : Nat} {x : MV} {c : Nat} {ms : List MV} (h : Lets k x (.obj c ms)) (hk : k ≤ 10) (hc : c < 8) (h4 : (c == 4) = false) (G : Gst) : S_law_within_lets [x] G = some (.obj c ms, G) := by
  have h1 := within_w h (999 - k + 1) G
  have e1 : asBool (f1 (gv9 0) (opIsi 4)) ([.val (.obj c ms)], G) = some (false, [.val (.obj c ms)], G) := by exact qb9 (q19 (qv9 rfl) (isi_f _ _ _ _ hc h4))
  rw [w_false (n := 999 - k) e1, show 999 - k + 1 + k = N by unfold N; lia] at h1
  unfold wiB at h1
  unfold S_law_within_lets F_law_within_lets
  exact r_spec rfl (r_start rfl) (qs9 h1 (kn9 (qs9 (r_ret (qv9 rfl)) k_ret)))
end Mine
end

section
namespace Mine
open PySem
theorem nmf_inj : ∀ i ≤ 5, ∀ j ≤ 5, nm "f" i = nm "f" j → i = j := by
  have h : ((List.range 6).all fun i => (List.range 6).all fun j => (!(decide (nm "f" i = nm "f" j))) || decide (i = j)) = true := by decide +kernel
  intro i hi j hj e
  have h1 := List.all_eq_true.mp (List.all_eq_true.mp h i (List.mem_range.mpr (by lia))) j (List.mem_range.mpr (by lia))
  rw [decide_eq_true e] at h1
  simpa using h1
theorem fBS : ("f" : Str) ∈ BS := by simp [BS]
theorem fPL : ("f" : Str) ∉ PL := by decide +kernel
theorem nmf_new (k : Nat) (h : k ≤ 10) : New "f" (nm "f" k) := ⟨k, Nat.le_trans h (by decide), rfl⟩
theorem nmf_ne {x y : Str} (hx : x ∈ PL) (n : New x y) (k : Nat) (h : k ≤ 10) : nm "f" k ≠ y := fun e => by
  have h1 := ((nmf_new k h).facts fBS).1
  rw [e, (n.facts (PLBS hx)).1] at h1
  have h2 := pre_inj _ (PLBS hx) _ fBS h1
  rw [h2] at hx
  exact fPL hx
theorem fbd_mem {d : Dic} : ∀ {as : List At} {k : Nat} {b : Bd}, b ∈ fbd d k as → ∃ j, k + 1 ≤ j ∧ j ≤ k + as.length ∧ b.x = nm "f" j ∧ ∃ a ∈ as, b.e = a.enc ∧ b.w = av d a
  | [], _, _, h => by cases h
  | a :: as, k, b, h => by
    unfold fbd at h
    rw [List.length_cons]
    rcases List.mem_cons.mp h with rfl | h
    · exact ⟨k + 1, by lia, by lia, rfl, a, .head _, rfl, rfl⟩
    · obtain ⟨j, h1, h2, h3, c, hc, h4⟩ := fbd_mem h
      exact ⟨j, by lia, by lia, h3, c, .tail _ hc, h4⟩
theorem look_ext : ∀ (l : List Bd) (d : Dic) (x : Str), (∀ b ∈ l, b.x ≠ x) → look (ext d l) x = look d x
  | [], _, _, _ => rfl
  | b :: l, d, x, h => by
    unfold ext
    rw [look_ext l _ x (fun c hc => h c (.tail _ hc)), look_set, if_neg (fun e => h b (.head _) e.symm)]
theorem fbd_look (d0 : Dic) : ∀ (as : List At) (k : Nat) (d : Dic), k + as.length ≤ 5 → ∀ b ∈ fbd d0 k as, look (ext d (fbd d0 k as)) b.x = b.w
  | [], _, _, _ => fun b h => by cases h
  | a :: as, k, d, hk => fun b h => by
    rw [List.length_cons] at hk
    unfold fbd at h ⊢
    unfold ext
    rcases List.mem_cons.mp h with rfl | h
    · rw [look_ext, look_set, if_pos rfl]
      intro c hc e
      obtain ⟨j, h1, h2, h3, _⟩ := fbd_mem hc
      rw [h3] at e
      have := nmf_inj j (by lia) (k + 1) (by lia) e
      lia
    · exact fbd_look d0 as (k + 1) _ (by lia) b h
theorem ext_corr : ∀ (l : List Bd) (d d' : Dic), (∀ b ∈ l, b.x ∉ PL) → Corr [] d d' → Corr [] d (ext d' l)
  | [], _, _, _, h => h
  | b :: l, d, d', hb, h => by
    unfold ext
    exact ext_corr l d _ (fun c hc => hb c (.tail _ hc)) (h.skip (hb b (.head _)) _)
theorem ext_length : ∀ (l : List Bd) (d : Dic), (ext d l).length ≤ d.length + l.length
  | [], _ => Nat.le_refl _
  | b :: l, d => by
    unfold ext
    have h1 := ext_length l (mSet d b.x b.w)
    have h2 := mSet_length d b.x b.w
    rw [List.length_cons]
    lia
theorem fzb_ext : ∀ (fs : List Str) (l : List Bd) (d : Dic), ext d (fzb fs l) = msv d fs (l.map Bd.w)
  | [], _, _ => by unfold fzb ext; simp [msv]
  | _ :: _, [], _ => by unfold fzb ext; simp [msv]
  | y :: ys, b :: l, d => by
    unfold fzb ext
    rw [List.map_cons]
    unfold msv
    exact fzb_ext ys l _
theorem fzb_mem : ∀ {fs : List Str} {l : List Bd} {b : Bd}, b ∈ fzb fs l → ∃ a ∈ l, b.e = .obj 0 [.str a.x] ∧ b.w = a.w
  | [], _, _, h => by unfold fzb at h; cases h
  | _ :: _, [], _, h => by unfold fzb at h; cases h
  | y :: ys, a :: l, b, h => by
    unfold fzb at h
    rcases List.mem_cons.mp h with rfl | h
    · exact ⟨a, .head _, rfl, rfl⟩
    · obtain ⟨c, hc, h1⟩ := fzb_mem h
      exact ⟨c, .tail _ hc, h1⟩
theorem fzb_length : ∀ (fs : List Str) (l : List Bd), (fzb fs l).length ≤ l.length
  | [], _ => by unfold fzb; simp
  | _ :: _, [] => by unfold fzb; simp
  | y :: ys, a :: l => by
    unfold fzb
    have := fzb_length ys l
    simp only [List.length_cons]; lia
theorem fbd_ws (d : Dic) : ∀ (k : Nat) (as : List At), (fbd d k as).map Bd.w = as.map (av d)
  | _, [] => rfl
  | k, a :: as => by unfold fbd; rw [List.map_cons, List.map_cons, fbd_ws d (k + 1) as]
theorem bvs_look (d1 : Dic) : ∀ (l : List Bd), (∀ b ∈ l, look d1 b.x = b.w) → (bvs l).map (av d1) = l.map Bd.w
  | [], _ => rfl
  | b :: l, h => by
    have h1 := bvs_look d1 l (fun c hc => h c (.tail _ hc))
    unfold bvs at h1 ⊢
    rw [List.map_cons, List.map_cons, List.map_cons, h1, ← h b (.head _)]; rfl
theorem RenOf.own {c c' : Cs} (h : RenOf c c') : New c.own c'.own := by
  obtain ⟨own', fss', h1, h2, rfl⟩ := h
  exact h1
theorem bodyOf_wf {c : Cs} (h : c.Gd) (v : Vl) : (bodyOf v c).Wf := by
  unfold bodyOf
  cases e : pickA v c.alts with
  | none => exact h.other
  | some a => exact (h.alts a (pickA_mem e).1).2
theorem bodyOf_con {c c' : Cs} (h : RenOf c c') (hT : c.T) (v : Vl) : ∃ n as, bodyOf v c' = .con n as := by
  obtain ⟨own', fss', h1, h2, rfl⟩ := h
  unfold bodyOf
  simp only
  rcases rAlts_pick c.own own' v c.alts fss' h2 with ⟨e1, e2⟩ | ⟨a, f, e1, n, e2⟩
  · rw [e2]
    obtain ⟨as, _, e⟩ := hT.2
    exact ⟨_, _, by rw [e]; rfl⟩
  · rw [e2]
    obtain ⟨as, _, e⟩ := hT.1 a (pickA_mem e1).1
    exact ⟨_, _, by show a.body.ren _ = _; rw [e]; rfl⟩
theorem kc_same {c c' : Cs} {c0 : Cl} {d : Dic} (hc : c.Ok) (h0 : c0.Ok) (hR : RenOf c c') (hl : d.length ≤ 10) :
    Runs 40 (kcM c' (c0.vl d) (fbd d 0 c0.args) (Sm.con c0.name (bvs (fbd d 0 c0.args))).enc (c0.vl d).enc) d (outc (c0.vl d) d c) := by
  have h3 : c0.args.length ≤ 3 := h0.size ▸ Cl.size_le _
  have hlen : (fbd d 0 c0.args).length = c0.args.length := fbd_length ..
  have hlook := fbd_look d c0.args 0 d (by lia)
  have hmem : ∀ b ∈ fbd d 0 c0.args, ∃ j, j ≤ 10 ∧ b.x = nm "f" j := fun b hb => let ⟨j, _, h2, h3, _⟩ := fbd_mem hb; ⟨j, by lia, h3⟩
  have hex : ∀ b ∈ fbd d 0 c0.args, Runs 4 b.e d b.w := fun b hb => by
    obtain ⟨j, _, _, _, a, _, h4, h5⟩ := fbd_mem hb
    rw [h4, h5]; exact (runs_at d a).mono (by lia)
  have hws := fbd_ws d 0 c0.args
  have hcor : Corr [] d (ext d (fbd d 0 c0.args)) := ext_corr _ d d (fun b hb hx => by
    obtain ⟨j, h1, h2⟩ := hmem b hb
    rw [h2] at hx
    exact (nmf_new j h1).notPL fBS hx) (Corr.refl d)
  have hxl := ext_length (fbd d 0 c0.args) d
  have hv := h0.vl d
  have hg := hR.gd hc.gd
  have hown := hR.own
  generalize fbd d 0 c0.args = l at *
  rw [← ren_out hc hR hcor hv]
  have hV : sv (ext d l) (.con c0.name (bvs l)) = (c0.vl d).enc := by
    show MV.tup [.str "cell", .str c0.name, .lst ((bvs l).map (av (ext d l)))] = .tup [.str "cell", .str c0.name, .lst (c0.args.map (av d))]
    rw [bvs_look _ l hlook, hws]
  have hbw : (bvs l).length ≤ 3 := by unfold bvs; rw [List.length_map]; lia
  have r0 : Runs 2 (Sm.con c0.name (bvs l)).enc (ext d l) (c0.vl d).enc := by rw [← hV]; exact runs_sm _ _ hbw
  have hml := mSet_length (ext d l) c'.own (c0.vl d).enc
  have hfl : (fldsOf (c0.vl d) c' l).length ≤ 3 := by
    unfold fldsOf
    split
    · exact Nat.le_trans (fzb_length _ _) (by lia)
    · exact Nat.zero_le _
  have hout : sv (ext (mSet (ext d l) c'.own (c0.vl d).enc) (fldsOf (c0.vl d) c' l)) (bodyOf (c0.vl d) c') = outc (c0.vl d) (ext d l) c' := by
    unfold outc fldsOf bodyOf
    cases e : pickA (c0.vl d) c'.alts with
    | none => rfl
    | some a =>
      simp only
      rw [fzb_ext, hws]; rfl
  have r1 : Runs 2 (bodyOf (c0.vl d) c').enc (ext (mSet (ext d l) c'.own (c0.vl d).enc) (fldsOf (c0.vl d) c' l)) (outc (c0.vl d) (ext d l) c') := by
    rw [← hout]; exact runs_sm _ _ (bodyOf_wf hg _)
  have r2 : Runs 3 (wl ((fldsOf (c0.vl d) c' l).map Bd.enc) (bodyOf (c0.vl d) c').enc) (mSet (ext d l) c'.own (c0.vl d).enc) (outc (c0.vl d) (ext d l) c') := by
    refine runs_wl r1 ?_ (by lia)
    intro b hb
    unfold fldsOf at hb
    cases e : pickA (c0.vl d) c'.alts with
    | none => rw [e] at hb; cases hb
    | some a =>
      rw [e] at hb
      obtain ⟨b0, hb0, h1, h2⟩ := fzb_mem hb
      obtain ⟨j, hj, hjx⟩ := hmem b0 hb0
      have h4 : look (mSet (ext d l) c'.own (c0.vl d).enc) b0.x = b.w := by
        rw [look_set, if_neg (by rw [hjx]; exact nmf_ne hc.own hown j hj), hlook b0 hb0, h2]
      have h5 := runs_at (mSet (ext d l) c'.own (c0.vl d).enc) (.v b0.x)
      rw [show av (mSet (ext d l) c'.own (c0.vl d).enc) (.v b0.x) = b.w from h4] at h5
      rw [h1]
      exact h5.mono (by lia)
  have r3 : Runs 4 (wl [(⟨c'.own, (Sm.con c0.name (bvs l)).enc, (c0.vl d).enc⟩ : Bd).enc] (wl ((fldsOf (c0.vl d) c' l).map Bd.enc) (bodyOf (c0.vl d) c').enc)) (ext d l) (outc (c0.vl d) (ext d l) c') :=
    runs_wl (l := [⟨c'.own, (Sm.con c0.name (bvs l)).enc, (c0.vl d).enc⟩]) r2 (fun b hb => by rw [List.mem_singleton.mp hb]; exact r0.mono (by lia)) (by simp; lia)
  exact (runs_wl (l := l) r3 hex (by lia)).mono (by lia)
theorem msv_nil (d : Dic) (fs : List Str) : msv d fs [] = d := by cases fs <;> rfl
theorem kl_same {c c' : Cs} {i : Int} {d : Dic} (hc : c.Ok) (hR : RenOf c c') (hl : d.length ≤ 10) :
    Runs 40 (.obj 4 [.lst [.tup [.str c'.own, litM i]], (bodyOf (.num i) c').enc, .bool false]) d (outc (.num i) d c) := by
  have hv : (Vl.num i).Ok := ⟨fun x ws e => by cases e⟩
  rw [← ren_out hc hR (Corr.refl d) hv]
  have hg := hR.gd hc.gd
  have hout : sv (mSet d c'.own (Vl.num i).enc) (bodyOf (.num i) c') = outc (.num i) d c' := by
    unfold outc bodyOf
    cases e : pickA (.num i) c'.alts with
    | none => rfl
    | some a =>
      simp only
      rw [show (Vl.num i).args = [] from rfl, msv_nil]
  have r1 : Runs 2 (bodyOf (.num i) c').enc (ext d [⟨c'.own, litM i, (Vl.num i).enc⟩]) (outc (.num i) d c') := by
    rw [← hout]; exact runs_sm _ _ (bodyOf_wf hg _)
  exact (runs_let (l := [⟨c'.own, litM i, (Vl.num i).enc⟩]) r1 (fun b hb => by
    rw [List.mem_singleton.mp hb]
    exact (runs_at d (.l i)).mono (by lia)) (by simp; lia)).mono (by lia)
theorem form0_con (c c' : Cs) (c0 : Cl) (hc : c.Ok) (hT : c.T) (h0 : c0.Ok) (hR : RenOf c c') (ca cb : Cl) (oa : ca.Ok) (ob : cb.Ok) (W : MV) :
    ∃ r, Good r ∧ Runs 40 (c.enc c0.enc) (env ca cb) r ∧ Runs 40 (kcM c' (c0.vl (env ca cb)) (fbd (env ca cb) 0 c0.args) (Sm.con c0.name (bvs (fbd (env ca cb) 0 c0.args))).enc (c0.vl (env ca cb)).enc) (env ca cb) r := by
  have hl := env_length ca cb
  have lv := lv_env oa ob
  generalize env ca cb = d at hl lv
  obtain ⟨w1, w2⟩ := lv_vl h0 lv (by lia)
  have r1 : Runs 2 c0.enc d (c0.vl d).enc := runs_sm d c0.sm h0.sm.wf
  exact ⟨outc (c0.vl d) d c, good_out (k := 5) (lv.mono (by lia)) (by lia) (by lia) hc hT w1 w2, (runs_cs r1 (by lia) (h0.vl d) hc.gd (by lia)).mono (by lia), kc_same hc h0 hR (by lia)⟩
theorem form0_lit (c c' : Cs) (i : Int) (hc : c.Ok) (hT : c.T) (hR : RenOf c c') (ca cb : Cl) (oa : ca.Ok) (ob : cb.Ok) :
    ∃ r, Good r ∧ Runs 40 (c.enc (litM i)) (env ca cb) r ∧ Runs 40 (.obj 4 [.lst [.tup [.str c'.own, litM i]], (bodyOf (.num i) c').enc, .bool false]) (env ca cb) r := by
  have hl := env_length ca cb
  have lv := lv_env oa ob
  generalize env ca cb = d at hl lv
  have hv : (Vl.num i).Ok := ⟨fun x ws e => by cases e⟩
  have r1 : Runs 2 (litM i) d (Vl.num i).enc := (runs_at d (.l i)).mono (by lia)
  exact ⟨outc (.num i) d c, good_out (k := 5) (lv.mono (by lia)) (by lia) (by lia) hc hT ((lv_num i).mono (by lia)) (fun w hw => by cases hw), (runs_cs r1 (by lia) hv hc.gd (by lia)).mono (by lia), kl_same hc hR (by lia)⟩
end Mine
end

section
namespace Mine
open PySem
theorem fbd_enc (d d' : Dic) : ∀ (k : Nat) (as : List At), (fbd d k as).map Bd.enc = (fbd d' k as).map Bd.enc
  | _, [] => rfl
  | k, a :: as => by unfold fbd; rw [List.map_cons, List.map_cons, fbd_enc d d' (k + 1) as]; rfl
theorem fbd_bvs (d d' : Dic) : ∀ (k : Nat) (as : List At), bvs (fbd d k as) = bvs (fbd d' k as)
  | _, [] => rfl
  | k, a :: as => by
    have h := fbd_bvs d d' (k + 1) as
    unfold bvs at h ⊢
    unfold fbd; rw [List.map_cons, List.map_cons, h]
theorem pick_cell (x : Str) (ws ws' : List MV) : ∀ (as : List Al), pickA (.cell x ws) as = pickA (.cell x ws') as
  | [] => rfl
  | a :: as => by
    have h : hit (.cell x ws) a.key = hit (.cell x ws') a.key := by cases a.key <;> rfl
    unfold pickA
    rw [h, pick_cell x ws ws' as]
theorem fzb_enc : ∀ (fs : List Str) (l l' : List Bd), bvs l = bvs l' → (fzb fs l).map Bd.enc = (fzb fs l').map Bd.enc
  | [], _, _, _ => by unfold fzb; rfl
  | _ :: _, [], [], _ => rfl
  | _ :: _, [], _ :: _, h => by cases h
  | _ :: _, _ :: _, [], h => by cases h
  | y :: ys, b :: l, b' :: l', h => by
    unfold bvs at h
    rw [List.map_cons, List.map_cons] at h
    injection h with h1 h2
    injection h1 with h1
    unfold fzb
    rw [List.map_cons, List.map_cons, fzb_enc ys l l' h2, h1]; rfl
theorem kcM_indep (c' : Cs) (c0 : Cl) (d d' : Dic) (w w' : MV) : kcM c' (c0.vl d) (fbd d 0 c0.args) (Sm.con c0.name (bvs (fbd d 0 c0.args))).enc w = kcM c' (c0.vl d') (fbd d' 0 c0.args) (Sm.con c0.name (bvs (fbd d' 0 c0.args))).enc w' := by
  have h1 := fbd_enc d d' 0 c0.args
  have h2 := fbd_bvs d d' 0 c0.args
  have h3 : pickA (c0.vl d) c'.alts = pickA (c0.vl d') c'.alts := pick_cell ..
  unfold kcM fldsOf bodyOf
  rw [h1, h3, h2]
  cases e : pickA (c0.vl d') c'.alts with
  | none => rfl
  | some a =>
    simp only
    rw [fzb_enc a.fs _ _ h2]; rfl
theorem kc_within (G : Gst) (c c' : Cs) (hR : RenOf c c') (hT : c.T) (v : Vl) (l : List Bd) (V w : MV) : S_law_within_lets [kcM c' v l V w] G = some ((bodyOf v c').enc, G) := by
  obtain ⟨n, as, e⟩ := bodyOf_con hR hT v
  unfold kcM
  rw [e]
  obtain ⟨k1, l1, h1⟩ := (Lets.nil (Sm.con n as).enc).wl ((fldsOf v c' l).map Bd.enc)
  obtain ⟨k2, l2, h2⟩ := h1.wl [(⟨c'.own, V, w⟩ : Bd).enc]
  obtain ⟨k3, l3, h3⟩ := h2.wl (l.map Bd.enc)
  exact within_ok h3 (by lia) (by decide) (by decide) G
theorem kl_within (G : Gst) (c c' : Cs) (hR : RenOf c c') (hT : c.T) (v : Vl) (l r : MV) : S_law_within_lets [.obj 4 [l, (bodyOf v c').enc, r]] G = some ((bodyOf v c').enc, G) := by
  obtain ⟨n, as, e⟩ := bodyOf_con hR hT v
  rw [e]
  exact within_ok (.cons _ _ (.nil _)) (by lia) (by decide) (by decide) G
theorem form0c_ok (t0 t1 : Bool) (g s : Int) (c : Cs) (c0 : Cl) (hc : c.Ok) (hT : c.T) (h0 : c0.Ok) :
    ∃ told n as nums' g' s', S_known_case [c.enc c0.enc, fr] (Sg t0 t1 g s []) = some (told, Sg t0 t1 g s nums') ∧ (∀ G, S_law_within_lets [told] G = some (.obj 7 [n, as], G)) ∧
      S_law_alike [.glo 2, c.enc c0.enc, told] (Sg t0 t1 g s nums') = some (.bool true, Sg t0 t1 g' s' nums') := by
  obtain ⟨c', nums', hR, e⟩ := known_con_ok t0 t1 g s [] c c0 hc h0 .none
  obtain ⟨n, as, eb⟩ := bodyOf_con hR hT (c0.vl [])
  have hw := fun G => kc_within G c c' hR hT (c0.vl []) (fbd [] 0 c0.args) (Sm.con c0.name (bvs (fbd [] 0 c0.args))).enc .none
  rw [eb] at hw
  obtain ⟨g', s', e2⟩ := alike_ok t0 t1 [.d avd, .d nums'] (c.enc c0.enc) (kcM c' (c0.vl []) (fbd [] 0 c0.args) (Sm.con c0.name (bvs (fbd [] 0 c0.args))).enc .none) (fun ca cb oa ob => by
    rw [kcM_indep c' c0 [] (env ca cb) .none (c0.vl (env ca cb)).enc]
    exact form0_con c c' c0 hc hT h0 hR ca cb oa ob .none) g s
  exact ⟨_, .str n, .lst (as.map At.enc), nums', g', s', known_case_con _ _ c c0 fr _ e, hw, e2⟩
theorem form0l_ok (t0 t1 : Bool) (g s : Int) (c : Cs) (i : Int) (hc : c.Ok) (hT : c.T) :
    ∃ told n as nums' g' s', S_known_case [c.enc (litM i), fr] (Sg t0 t1 g s []) = some (told, Sg t0 t1 g s nums') ∧ (∀ G, S_law_within_lets [told] G = some (.obj 7 [n, as], G)) ∧
      S_law_alike [.glo 2, c.enc (litM i), told] (Sg t0 t1 g s nums') = some (.bool true, Sg t0 t1 g' s' nums') := by
  obtain ⟨c', nums', hR, e⟩ := known_lit_ok t0 t1 g s c i hc
  obtain ⟨n, as, eb⟩ := bodyOf_con hR hT (.num i)
  have hw := fun G => kl_within G c c' hR hT (.num i) (.lst [.tup [.str c'.own, litM i]]) (.bool false)
  obtain ⟨g', s', e2⟩ := alike_ok t0 t1 [.d avd, .d nums'] (c.enc (litM i)) _ (fun ca cb oa ob => form0_lit c c' i hc hT hR ca cb oa ob) g s
  refine ⟨_, .str n, .lst (as.map At.enc), nums', g', s', known_case_lit _ _ c i fr _ e, fun G => ?_, e2⟩
  rw [hw G, eb]; rfl
theorem form1_ok (t0 t1 : Bool) (g s : Int) (c : Cs) (a : At) (b cc : Cl) (hc : c.Ok) (hT : c.T) (ha : a.Ok) (hb : b.Ok) (hcc : cc.Ok) :
    ∃ l v nums' g' s', S_case_of_let [c.enc (letE "p" "r" (.atm a) b.sm cc.sm), fr] (Sg t0 t1 g s []) = some (.obj 4 [l, c.enc v, .bool false], Sg t0 t1 g s nums') ∧
      S_law_alike [.glo 2, c.enc (letE "p" "r" (.atm a) b.sm cc.sm), .obj 4 [l, c.enc v, .bool false]] (Sg t0 t1 g s nums') = some (.bool true, Sg t0 t1 g' s' nums') := by
  obtain ⟨x', y', nums', n1, n2, e⟩ := case_of_let_ok t0 t1 g s c (.atm a) b.sm cc.sm trivial hb.sm.wf hcc.sm.wf
  obtain ⟨g', s', e2⟩ := alike_ok t0 t1 [.d avd, .d nums'] (c.enc (letE "p" "r" (.atm a) b.sm cc.sm)) _ (fun ca cb oa ob => form1_same c a b cc x' y' hc hT ha hb hcc n1 n2 ca cb oa ob) g s
  exact ⟨_, _, nums', g', s', e, e2⟩
end Mine
end

section
namespace Mine
open PySem
noncomputable def tup2 (p : MV × MV) : MV := .tup [p.1, p.2]
noncomputable def szB : Ab → Option (Fl × Ab) := (sSeq (sApp 3 (gv9 5)) sNil)
theorem sz_push (G : Gst) (e m n z4 : MV) : ∀ (ps : List (MV × MV)) (ts : List MV) (z5 z6 : Slot), ts.length + ps.length ≤ 1000 →
    ∃ z5' z6', loopF (tTup [5, 6]) szB (ps.map tup2) ([.val e, .val m, .val n, .ownL ts, .val z4, z5, z6], G) = some (.nxt, [.val e, .val m, .val n, .ownL (ts ++ ps.map Prod.fst), .val z4, z5', z6'], G)
  | [], ts, z5, z6, _ => ⟨z5, z6, by rw [List.map_nil, List.map_nil, List.append_nil]; rfl⟩
  | p :: ps, ts, z5, z6, h => by
    rw [List.length_cons] at h
    obtain ⟨z5', z6', e2⟩ := sz_push G e m n z4 ps (ts ++ [p.1]) (.val p.1) (.val p.2) (by rw [List.length_append, List.length_singleton]; lia)
    rw [List.append_assoc] at e2
    have q : ts.length ≤ room := by have hr : room = 100000 := rfl; lia
    refine ⟨z5', z6', r_loopn (r_tt2 rfl rfl) (?_ : szB _ = some (.nxt, [.val e, .val m, .val n, .ownL (ts ++ [p.1]), .val z4, .val p.1, .val p.2], G)) e2⟩
    unfold szB
    exact qs9 (r_app rfl (qv9 rfl) rfl q rfl) (kn9 rfl)
noncomputable def sz : Sm → Nat
  | .atm _ => 1
  | .con _ as => 1 + as.length
noncomputable def wt : List Sm → Nat
  | [] => 0
  | b :: l => sz b + wt l
theorem wt_append : ∀ (l r : List Sm), wt (l ++ r) = wt l + wt r
  | [], r => by unfold wt; simp
  | b :: l, r => by show sz b + wt (l ++ r) = sz b + wt l + wt r; rw [wt_append l r]; lia
theorem sz_pos (b : Sm) : 1 ≤ sz b := by
  cases b with
  | atm a => exact Nat.le_refl _
  | con n as => show 1 ≤ 1 + as.length; lia
theorem wt_len : ∀ (l : List Sm), l.length ≤ wt l
  | [] => Nat.le_refl _
  | b :: l => by show l.length + 1 ≤ sz b + wt l; have := wt_len l; have := sz_pos b; lia
theorem wt_atoms : ∀ (as : List At), wt (as.map Sm.atm) = as.length
  | [] => rfl
  | a :: as => by show 1 + wt (as.map Sm.atm) = as.length + 1; rw [wt_atoms as]; lia
noncomputable def sub : Sm → List Sm
  | .atm _ => []
  | .con _ as => as.map .atm
theorem sz_sub (b : Sm) : sz b = 1 + wt (sub b) := by
  cases b with
  | atm a => rfl
  | con n as => show 1 + as.length = 1 + wt (as.map Sm.atm); rw [wt_atoms]
theorem parts_sm (b : Sm) (hb : b.Wf) : ∃ c ms sp, b.enc = .obj c ms ∧ D_parts c = some sp ∧ ∀ G, sp [.obj c ms] G = some (.lst (((sub b).map fun x => (x.enc, MV.tup [])).map tup2), G) := by
  cases b with
  | atm a => cases a with
    | v x => exact ⟨0, _, _, rfl, rfl, fun G => by kernel_rfl⟩
    | l i => exact ⟨1, _, _, rfl, rfl, fun G => by kernel_rfl⟩
  | con n as =>
    have h3 : as.length ≤ 3 := hb
    refine ⟨7, _, _, rfl, rfl, fun G => ?_⟩
    cases ll1_of h3 with
    | z => kernel_rfl
    | o a => exact con_parts1 ..
    | t a b => exact con_parts2 ..
    | h a b c => exact con_parts3 ..
noncomputable def szC : Ab → Option (Bool × Ab) := (tAnd (tOwn 3) (tAnd (asBool (f2 (gv9 2) (gv9 1) (pureOp (cmpMV .LtE)))) (tLit true)))
noncomputable def szW : Ab → Option (Fl × Ab) := (sSeq (sSet 4 (fPop 3)) (sSeq (sAug 2 (fK9 (.int 1))) (sSeq (sFor (fIt (fCallM D_parts (gv9 4) l09) itMV) (tTup [5, 6]) (sSeq (sApp 3 (gv9 5)) sNil)) sNil)))
noncomputable def SZ (e : MV) (m n : Int) (ts : List MV) (z4 z5 z6 : Slot) : List Slot := [.val e, .val (.int m), .val (.int n), .ownL ts, z4, z5, z6]
theorem sz_step (G : Gst) (e : MV) (m n : Int) (ts : List MV) (c : Nat) (ms : List MV) (sp : List MV → Gst → Option (MV × Gst)) (ps : List (MV × MV)) (hd : D_parts c = some sp) (hp : ∀ G, sp [.obj c ms] G = some (.lst (ps.map tup2), G)) (hl : ts.length + ps.length ≤ 900) (z4 z5 z6 : Slot) :
    ∃ z4' z5' z6', szW (SZ e m n (ts ++ [.obj c ms]) z4 z5 z6, G) = some (.nxt, SZ e m (n + 1) (ts ++ ps.map Prod.fst) z4' z5' z6', G) := by
  obtain ⟨z5', z6', e2⟩ := sz_push G e (.int m) (.int (n + 1)) (.obj c ms) ps ts z5 z6 (by lia)
  have q : (ts ++ [MV.obj c ms]).length ≤ room := by rw [List.length_append, List.length_singleton]; have hr : room = 100000 := rfl; lia
  refine ⟨.val (.obj c ms), z5', z6', ?_⟩
  unfold szB at e2
  unfold szW SZ
  exact qs9 (r_set (r_pop rfl q (st3 ..)) (st4 ..)) (kn9 (qs9 (r_aug (qv9 rfl) qc9 (st2 ..)) (kn9 (qs9 (r_for (r_it (r_callM (qv9 rfl) q09 hd (hp ..)) rfl) e2) (kn9 qn9)))))
theorem sz_stop1 (G : Gst) (e : MV) (m n : Int) (z4 z5 z6 : Slot) : szC (SZ e m n [] z4 z5 z6, G) = some (false, SZ e m n [] z4 z5 z6, G) := by
  unfold szC SZ
  exact r_and (r_town rfl (nle9 rfl) rfl) rfl
theorem sz_stop2 (G : Gst) (e : MV) (m n : Int) (ts : List MV) (z4 z5 z6 : Slot) (h : ts.isEmpty = false) (hl : ts.length ≤ 1000) (hn : m < n) : szC (SZ e m n ts z4 z5 z6, G) = some (false, SZ e m n ts z4 z5 z6, G) := by
  have q : ts.length ≤ room := by have hr : room = 100000 := rfl; lia
  have q2 : (!ts.isEmpty) = true := by rw [h]; rfl
  have q3 : decide (n ≤ m) = false := decide_eq_false (by lia)
  unfold szC SZ
  exact r_and (r_town rfl q q2) (ac_t (r_and (qb9 (q29 (qv9 rfl) (qv9 rfl) (po_le _ _ _ false q3))) ac_f))
theorem sz_go (G : Gst) (e : MV) (m n : Int) (ts : List MV) (z4 z5 z6 : Slot) (h : ts.isEmpty = false) (hl : ts.length ≤ 1000) (hn : n ≤ m) : szC (SZ e m n ts z4 z5 z6, G) = some (true, SZ e m n ts z4 z5 z6, G) := by
  have q : ts.length ≤ room := by have hr : room = 100000 := rfl; lia
  have q2 : (!ts.isEmpty) = true := by rw [h]; rfl
  have q3 : decide (n ≤ m) = true := decide_eq_true hn
  unfold szC SZ
  exact r_and (r_town rfl q q2) (ac_t (r_and (qb9 (q29 (qv9 rfl) (qv9 rfl) (po_le _ _ _ true q3))) (ac_t r_tlit)))
noncomputable def Ends (m t : Int) (ρ : List Slot) : Prop := ∃ (e : MV) (n : Int) (ts : List MV) (z4 z5 z6 : Slot), ρ = SZ e m n ts z4 z5 z6 ∧ ts.length ≤ 1000 ∧ ((ts.isEmpty = true ∧ n = t) ∨ (ts.isEmpty = false ∧ m < t))
theorem sz_loop (G : Gst) (e : MV) (m : Int) : ∀ (k : Nat) (l : List Sm) (n : Int) (fuel : Nat) (z4 z5 z6 : Slot), wt l ≤ k → k < fuel → (∀ b ∈ l, b.Wf) → k ≤ 400 →
    ∃ ρ, Ends m (n + wt l) ρ ∧ sWhile szC szW fuel (SZ e m n (l.map Sm.enc) z4 z5 z6, G) = some (.nxt, ρ, G) := by
  intro k
  induction k with
  | zero =>
    intro l n fuel z4 z5 z6 hw hf hb hl
    obtain ⟨fu, rfl⟩ : ∃ fu, fuel = fu + 1 := ⟨fuel - 1, by lia⟩
    cases l with
    | nil => exact ⟨_, ⟨e, n, [], z4, z5, z6, rfl, by simp, .inl ⟨rfl, by unfold wt; lia⟩⟩, w_false (sz_stop1 ..)⟩
    | cons b l => exfalso; unfold wt at hw; have := sz_sub b; lia
  | succ k ih =>
    intro l n fuel z4 z5 z6 hw hf hb hl
    obtain ⟨fu, rfl⟩ : ∃ fu, fuel = fu + 1 := ⟨fuel - 1, by lia⟩
    by_cases h0 : l = []
    · subst h0
      exact ⟨_, ⟨e, n, [], z4, z5, z6, rfl, by simp, .inl ⟨rfl, by unfold wt; lia⟩⟩, w_false (sz_stop1 ..)⟩
    · have hne : (l.map Sm.enc).isEmpty = false := by cases l with
        | nil => exact absurd rfl h0
        | cons b l => rfl
      have hlw := wt_len l
      have hlen : (l.map Sm.enc).length ≤ 1000 := by rw [List.length_map]; lia
      have e0 : l = l.dropLast ++ [l.getLast h0] := (List.dropLast_concat_getLast h0).symm
      have hwt : wt l = wt l.dropLast + sz (l.getLast h0) := by
        conv => lhs; rw [e0]
        rw [wt_append]; unfold wt; simp [wt]
      have hpos := sz_sub (l.getLast h0)
      by_cases hn : n ≤ m
      · generalize hi : l.dropLast = i at *
        generalize hz : l.getLast h0 = b at *
        have hbw : b.Wf := by rw [← hz]; exact hb _ (List.getLast_mem h0)
        obtain ⟨c, ms, sp, h1, h2, h3⟩ := parts_sm b hbw
        have hil : i.length + 1 = l.length := by rw [e0, List.length_append, List.length_singleton]
        have hsl : (sub b).length ≤ 3 := by
          cases b with
          | atm a => exact Nat.zero_le _
          | con n as => show (as.map Sm.atm).length ≤ 3; rw [List.length_map]; exact hbw
        obtain ⟨z4', z5', z6', e2⟩ := sz_step G e m n (i.map Sm.enc) c ms sp _ h2 h3 (by rw [List.length_map, List.length_map]; lia) z4 z5 z6
        have e3 : l.map Sm.enc = i.map Sm.enc ++ [.obj c ms] := by rw [e0, List.map_append, ← h1]; rfl
        have e4 : i.map Sm.enc ++ ((sub b).map fun x => (x.enc, MV.tup [])).map Prod.fst = (i ++ sub b).map Sm.enc := by rw [List.map_append, List.map_map]; rfl
        rw [e4] at e2
        have hsb : ∀ x ∈ sub b, x.Wf := by
          intro x hx
          cases b with
          | atm a => cases hx
          | con n as => obtain ⟨a, _, rfl⟩ := List.mem_map.mp hx; trivial
        have hwf : ∀ x ∈ i ++ sub b, x.Wf := by
          intro x hx
          rcases List.mem_append.mp hx with hx | hx
          · exact hb x (by rw [e0]; exact List.mem_append_left _ hx)
          · exact hsb x hx
        obtain ⟨ρ, hE, e5⟩ := ih (i ++ sub b) (n + 1) fu z4' z5' z6' (by rw [wt_append]; lia) (by lia) hwf (by lia)
        refine ⟨ρ, ?_, ?_⟩
        · have : (n + wt l : Int) = n + 1 + wt (i ++ sub b) := by rw [wt_append]; lia
          rw [this]; exact hE
        · rw [e3] at hne hlen ⊢
          exact w_true (sz_go G e m n _ z4 z5 z6 hne hlen hn) e2 e5
      · exact ⟨_, ⟨e, n, l.map Sm.enc, z4, z5, z6, rfl, hlen, .inr ⟨hne, by lia⟩⟩, w_false (sz_stop2 G e m n _ z4 z5 z6 hne hlen (by lia))⟩
noncomputable def psA : Nat → List Al → List (MV × MV)
  | _, [] => []
  | i, a :: r => (a.body.enc, .tup [.int 0, .int (i + 1 : Nat)]) :: psA (i + 1) r
theorem psA_tup : ∀ (i : Nat) (l : List Al), (psA i l).map tup2 = pAlts i l
  | _, [] => rfl
  | i, a :: r => by show _ :: (psA (i + 1) r).map tup2 = _ :: pAlts (i + 1) r; rw [psA_tup (i + 1) r]; rfl
theorem psA_fst : ∀ (i : Nat) (l : List Al), (psA i l).map Prod.fst = (l.map Al.body).map Sm.enc
  | _, [] => rfl
  | i, a :: r => by show _ :: (psA (i + 1) r).map Prod.fst = _ :: (r.map Al.body).map Sm.enc; rw [psA_fst (i + 1) r]
theorem psA_length : ∀ (i : Nat) (l : List Al), (psA i l).length = l.length
  | _, [] => rfl
  | i, a :: r => by show (psA (i + 1) r).length + 1 = r.length + 1; rw [psA_length (i + 1) r]
theorem wt_T : ∀ (l : List Al), (∀ a ∈ l, IsT a.body) → wt (l.map Al.body) = 4 * l.length
  | [], _ => rfl
  | a :: l, h => by
    obtain ⟨as, h1, h2⟩ := h a (.head _)
    show sz a.body + wt (l.map Al.body) = 4 * (l.length + 1)
    rw [wt_T l (fun b hb => h b (.tail _ hb)), h2]
    show 1 + as.length + _ = _
    lia
set_option maxHeartbeats 1000000 in
theorem size_ok (G : Gst) (c : Cs) (m : Int) (hm : 0 ≤ m) (hc : c.Ok) (hT : c.T) :
    ∃ r : Int, S_size_of [c.enc (.obj 0 [.str "value"]), .int m] G = some (.int r, G) ∧ decide (m < r) = decide (m < 2 + 4 * ((c.alts.length : Int) + 1)) := by
  let v : Sm := .atm (.v "value")
  let ps : List (MV × MV) := [(v.enc, .tup [])] ++ psA 0 c.alts ++ [(c.other.enc, .tup [.int 0])]
  let L : List Sm := [v] ++ c.alts.map Al.body ++ [c.other]
  have hlen := hc.len
  have hp : ∀ G, S_Case_parts [.obj 6 [v.enc, .str c.own, .lst (c.alts.map Al.enc), c.other.enc]] G = some (.lst (ps.map tup2), G) := fun G => by
    have h1 := parts_ok G c v.enc hlen
    have h2 : ps.map tup2 = prts c v.enc := by
      show (([(v.enc, MV.tup [])] ++ psA 0 c.alts) ++ [(c.other.enc, MV.tup [.int 0])]).map tup2 = _
      rw [List.map_append, List.map_append, psA_tup]; rfl
    rw [h2]; exact h1
  have hf : ps.map Prod.fst = L.map Sm.enc := by
    show (([(v.enc, MV.tup [])] ++ psA 0 c.alts) ++ [(c.other.enc, MV.tup [.int 0])]).map Prod.fst = (([v] ++ c.alts.map Al.body) ++ [c.other]).map Sm.enc
    rw [List.map_append, List.map_append, psA_fst, List.map_append, List.map_append]; rfl
  have hpl : ps.length = c.alts.length + 2 := by
    show (([(v.enc, MV.tup [])] ++ psA 0 c.alts) ++ [(c.other.enc, MV.tup [.int 0])]).length = _
    rw [List.length_append, List.length_append, psA_length]; simp; lia
  have hwt : wt L = 1 + 4 * c.alts.length + 4 := by
    obtain ⟨as, h1, h2⟩ := hT.2
    show wt (([v] ++ c.alts.map Al.body) ++ [c.other]) = _
    rw [wt_append, wt_append, wt_T c.alts hT.1, h2]
    show 1 + 0 + 4 * c.alts.length + (1 + as.length + 0) = _
    lia
  have hwf : ∀ b ∈ L, b.Wf := by
    intro b hb
    rcases List.mem_append.mp hb with hb | hb
    · rcases List.mem_append.mp hb with hb | hb
      · rw [List.mem_singleton.mp hb]; trivial
      · obtain ⟨a, ha, rfl⟩ := List.mem_map.mp hb
        exact (hc.alts a ha).body.wf
    · rw [List.mem_singleton.mp hb]; exact hc.other.wf
  let E : MV := c.enc (.obj 0 [.str "value"])
  have g1 := sz_go G E m 0 [E] .un .un .un rfl (by simp) hm
  obtain ⟨z4, z5, z6, e1⟩ := sz_step G E m 0 [] 6 _ S_Case_parts ps rfl hp (by simp [hpl]; lia) .un .un .un
  rw [hf] at e1
  obtain ⟨ρ, ⟨e, n, ts, y4, y5, y6, rfl, hl, hE⟩, e2⟩ := sz_loop G E m (wt L) L 1 999 z4 z5 z6 (Nat.le_refl _) (by lia) hwf (by lia)
  have e3 : sWhile szC szW N (SZ E m 0 [E] .un .un .un, G) = some (.nxt, SZ e m n ts y4 y5 y6, G) := w_true (n := 999) g1 e1 e2
  have hr : room = 100000 := rfl
  have q : ts.length ≤ room := by lia
  have ht : (1 : Int) + (wt L : Nat) = 2 + 4 * ((c.alts.length : Int) + 1) := by rw [hwt]; lia
  rw [ht] at hE
  have e3 : sWhile szC szW N ([.val E, .val (.int m), .val (.int 0), .ownL [E], .un, .un, .un], G) = some (.nxt, [.val e, .val (.int m), .val (.int n), .ownL ts, y4, y5, y6], G) := e3
  unfold szC szW at e3
  rcases hE with ⟨h1, h2⟩ | ⟨h1, h2⟩
  · have q2 : (!ts.isEmpty) = false := by rw [h1]; rfl
    refine ⟨n, ?_, by rw [h2]⟩
    show S_size_of [E, .int m] G = _
    generalize E = E at *
    unfold S_size_of F_size_of
    exact r_spec rfl (r_start rfl) (qs9 (r_pair (r_pval qc9 (r_gl (ql9 (qv9 rfl) q09) (nle9 rfl))) (st3 ..) (st2 ..)) (kn9 (qs9 e3 (kn9 (qs9 (r_ret (r_fif (r_not (r_town rfl q q2) rfl) rfl)) k_ret)))))
  · have q2 : (!ts.isEmpty) = true := by rw [h1]; rfl
    refine ⟨m + 1, ?_, by rw [decide_eq_true h2, decide_eq_true (by lia)]⟩
    show S_size_of [E, .int m] G = _
    generalize E = E at *
    unfold S_size_of F_size_of
    exact r_spec rfl (r_start rfl) (qs9 (r_pair (r_pval qc9 (r_gl (ql9 (qv9 rfl) q09) (nle9 rfl))) (st3 ..) (st2 ..)) (kn9 (qs9 e3 (kn9 (qs9 (r_ret (r_fif (r_not (r_town rfl q q2) rfl) rfl)) k_ret)))))
end Mine
end

section
namespace Mine
open PySem
theorem r_ddef {j k i : Nat} {cis : List Nat} {ρ ρ₁ : List Slot} {G G₁ : Gst} {l : List MV} (h : G[j]? = some (.t false)) (hv : valsAt ρ cis = some l) (hs : ρ.set i (.val (.clo k l)) = ρ₁) (hg : G.set j (.t true) = G₁) : dDef j k i cis (ρ, G) = some (ρ₁, G₁) := by
  subst hs hg
  unfold dDef; simp only; rw [h]; simp only; rw [hv]
theorem r_difT {c : Ab → Option (Bool × Ab)} {f : Ab → Option (Fl × Ab)} {g : Ab → Option Ab} {s s₁ s₂ : Ab} (h : c s = some (true, s₁)) (h' : f s₁ = some (.nxt, s₂)) : dIf c f g s = some s₂ := by
  unfold dIf; rw [h]; simp only; rw [h']
theorem r_difF {c : Ab → Option (Bool × Ab)} {f : Ab → Option (Fl × Ab)} {g : Ab → Option Ab} {s s₁ : Ab} {r : Option Ab} (h : c s = some (false, s₁)) (h' : g s₁ = r) : dIf c f g s = r := by
  unfold dIf; rw [h]; exact h'
theorem r_fin {f : Ab → Option (Fl × Ab)} {s : Ab} {m : MV} {ρ : List Slot} {G : Gst} (h : f s = some (.ret m, ρ, G)) : finish (f s) = some (m, G) := by rw [h]; rfl
noncomputable def goM (e : MV) (j n : Str) : MV := .obj 6 [e, .str n, .lst [], .obj 2 [.obj 0 [.str j], .lst [.obj 0 [.str n]]]]
theorem go0_ok (t0 t1 : Bool) (g s : Int) (j : Str) (nums : Dic) (B : Nat) (e : MV) (h : NumsOK B nums) (hB : B + 16 ≤ LIM) :
    ∃ r nums', (∃ n, New "v" n ∧ r = goM e j n) ∧ NumsOK (B + 16) nums' ∧ cloSpec 0 [.str j, fr] [e] (Sg t0 t1 g s nums) = some (r, Sg t0 t1 g s nums') := by
  obtain ⟨n, nums', h1, h2, e1⟩ := next_new t0 t1 g s nums "v" B (by simp [BS]) h (by lia)
  refine ⟨goM e j n, nums', ⟨n, h1, rfl⟩, h2.mono (by lia), ?_⟩
  show finish (F_go0 ([.val e, .un, .val (.str j), .val fr], Sg t0 t1 g s nums)) = _
  have e1 : S_Fresh_next [.obj 9 [.glo 3, .glo 4], .str "v"] (Sg t0 t1 g s nums) = some (.str n, Sg t0 t1 g s nums') := e1
  refine r_fin (ρ := [.val e, .val (.str n), .val (.str j), .val fr]) ?_
  unfold F_go0 goM fr
  exact qs9 (r_set (r_callM (qv9 rfl) (ql9 qc9 q09) rfl e1) (st1 ..)) (kn9 (qs9 (r_ret (qa9 (ql9 (qv9 rfl) (ql9 (qv9 rfl) (ql9 (r_lst q09 (nle9 rfl)) (ql9 (qa9 (ql9 (qa9 (ql9 (qv9 rfl) q09) (cls0 ..)) (ql9 (r_lst (ql9 (qa9 (ql9 (qv9 rfl) q09) (cls0 ..)) q09) (nle9 rfl)) q09)) (cls2 ..)) q09)))) (cls6 ..))) k_ret))
theorem go1_ok (t0 t1 : Bool) (g s : Int) (c : Cs) (v : MV) (hc : c.Ok) (nums : Dic) (B : Nat) (e : MV) (h : NumsOK B nums) (hB : B + 16 ≤ LIM) :
    ∃ r nums', (∃ c', RenOf c c' ∧ r = c'.enc e) ∧ NumsOK (B + 16) nums' ∧ cloSpec 1 [fr, c.enc v] [e] (Sg t0 t1 g s nums) = some (r, Sg t0 t1 g s nums') := by
  obtain ⟨c', nums', h1, h2, e1⟩ := outer_case_ok t0 t1 g s nums B c v e hc h hB
  refine ⟨c'.enc e, nums', ⟨c', h1, rfl⟩, h2, ?_⟩
  show finish (F_go1 ([.val e, .val fr, .val (c.enc v)], Sg t0 t1 g s nums)) = _
  refine r_fin (ρ := [.val e, .val fr, .val (c.enc v)]) ?_
  unfold F_go1
  exact qs9 (r_ret (qa9 (ql9 (qv9 rfl) (ql9 (qv9 rfl) (ql9 (qv9 rfl) q09))) e1)) k_ret
theorem joined_ok (t1 : Bool) (g s : Int) (nums : Dic) (B : Nat) (c : Cs) (v : MV) (hc : c.Ok) (h : NumsOK B nums) (hB : B + 18 ≤ LIM) :
    ∃ j w c' nums', New "j" j ∧ New "v" w ∧ RenOf c c' ∧ NumsOK (B + 18) nums' ∧ S_joined [c.enc v, fr] (Sg false t1 g s nums) = some (.tup [.lst [.tup [.str j, .obj 3 [.lst [.str w], c'.enc (.obj 0 [.str w])]]], .clo 0 [.str j, fr]], Sg true t1 g s nums') := by
  obtain ⟨j, nums1, h1, n1, e1⟩ := next_new false t1 g s nums "j" B (by simp [BS]) h (by lia)
  obtain ⟨w, nums2, h2, n2, e2⟩ := next_new false t1 g s nums1 "v" (B + 1) (by simp [BS]) n1 (by lia)
  obtain ⟨c', nums3, h3, n3, e3⟩ := outer_case_ok false t1 g s nums2 (B + 1 + 1) c v (.obj 0 [.str w]) hc n2 (by lia)
  refine ⟨j, w, c', nums3, h1, h2, h3, n3.mono (by lia), ?_⟩
  generalize c.enc v = E at *
  have e1 : S_Fresh_next [.obj 9 [.glo 3, .glo 4], .str "j"] (Sg false t1 g s nums) = some (.str j, Sg false t1 g s nums1) := e1
  have e2 : S_Fresh_next [.obj 9 [.glo 3, .glo 4], .str "v"] (Sg false t1 g s nums1) = some (.str w, Sg false t1 g s nums2) := e2
  have e3 : S_outer_case [E, .obj 0 [.str w], .obj 9 [.glo 3, .glo 4]] (Sg false t1 g s nums2) = some (c'.enc (.obj 0 [.str w]), Sg false t1 g s nums3) := e3
  have hg : (Sg false t1 g s nums3)[0]? = some (.t false) := rfl
  have hs : (Sg false t1 g s nums3).set 0 (.t true) = Sg true t1 g s nums3 := rfl
  unfold S_joined F_joined fr
  exact r_spec rfl (r_start rfl) (qs9 (r_unp (r_tup (ql9 (r_callM (qv9 rfl) (ql9 qc9 q09) rfl e1) (ql9 (r_callM (qv9 rfl) (ql9 qc9 q09) rfl e2) q09)) (nle9 rfl)) (r_tt2 (st2 ..) (st3 ..))) (kn9 (qs9 (r_set (qa9 (ql9 (qv9 rfl) (ql9 (qa9 (ql9 (qv9 rfl) q09) (cls0 ..)) (ql9 (qv9 rfl) q09))) e3) (st4 ..)) (kn9 (r_dx (r_ddef hg rfl (st5 ..) hs) (qs9 (r_ret (r_tup (ql9 (r_lst (ql9 (r_tup (ql9 (qv9 rfl) (ql9 (qa9 (ql9 (r_lst (ql9 (qv9 rfl) q09) (nle9 rfl)) (ql9 (qv9 rfl) q09)) (cls3 ..)) q09)) (nle9 rfl)) q09) (nle9 rfl)) (ql9 (qv9 rfl) q09)) (nle9 rfl))) k_ret))))))
noncomputable def caC : Ab → Option (MV × Ab) := (fA9 (clsSpec 5) (lC9 (f1 (gv9 1) (fAttr "key")) (lC9 (f1 (gv9 1) (fAttr "names")) (lC9 (fCallC cloSpec (gv9 2) (lC9 (f1 (gv9 1) (fAttr "body")) l09)) l09))))
theorem comp_go (t0 t1 : Bool) (g s : Int) (k : Nat) (cs : List MV) (P : MV → MV → Prop)
    (go : ∀ (nums : Dic) (B : Nat) (e : MV), NumsOK B nums → B + 16 ≤ LIM → ∃ r nums', P e r ∧ NumsOK (B + 16) nums' ∧ cloSpec k cs [e] (Sg t0 t1 g s nums) = some (r, Sg t0 t1 g s nums')) :
    ∀ (as : List Al) (nums : Dic) (B : Nat) (ys : List MV) (s1 : Slot), NumsOK B nums → B + 16 * as.length ≤ LIM → ys.length + as.length ≤ 100 →
    ∃ bs nums' s1', F2 (fun (a : Al) (b : Ga) => b.key = a.key ∧ b.fs = a.fs ∧ P a.body.enc b.body) as bs ∧ NumsOK (B + 16 * as.length) nums' ∧
      compL (tName 1) caC (as.map Al.enc) ([.ownL ys, s1, .val (.clo k cs)], Sg t0 t1 g s nums) = some ([.ownL (ys ++ bs.map Ga.enc), s1', .val (.clo k cs)], Sg t0 t1 g s nums')
  | [], nums, B, ys, s1, h, _, _ => ⟨[], nums, s1, .nil, h, by rw [List.map_nil, List.map_nil, List.append_nil]; rfl⟩
  | a :: as, nums, B, ys, s1, h, hB, hy => by
    rw [List.length_cons] at hB hy
    obtain ⟨r, nums1, hP, n1, e1⟩ := go nums B a.body.enc h (by lia)
    obtain ⟨bs, nums2, s2, hF, n2, e2⟩ := comp_go t0 t1 g s k cs P go as nums1 (B + 16) (ys ++ [.obj 5 [a.key.enc, .lst (a.fs.map .str), r]]) (.val a.enc) n1 (by lia) (by rw [List.length_append, List.length_singleton]; lia)
    rw [List.append_assoc] at e2
    have q : ys.length ≤ room := by have hr : room = 100000 := rfl; lia
    refine ⟨⟨a.key, a.fs, r⟩ :: bs, nums2, s2, .cons ⟨rfl, rfl, hP⟩ hF, by rw [List.length_cons, show B + 16 * (as.length + 1) = B + 16 + 16 * as.length by lia]; exact n2, ?_⟩
    refine r_comp1 rfl (?_ : caC _ = some (.obj 5 [a.key.enc, .lst (a.fs.map .str), r], [.ownL ys, .val a.enc, .val (.clo k cs)], Sg t0 t1 g s nums1)) rfl q rfl e2
    unfold caC Al.enc
    exact qa9 (ql9 (q19 (qv9 rfl) (at5_0 ..)) (ql9 (q19 (qv9 rfl) (at5_1 ..)) (ql9 (r_callC (qv9 rfl) (ql9 (q19 (qv9 rfl) (at5_2 ..)) q09) e1) rfl))) (cls5 ..)
noncomputable def tlF : Ab → Option (Fl × Ab) := (sSeq (sSet 8 (fComp 1 [7] (fIt (f1 (gv9 3) (fAttr "alts")) itMV) (tName 1) (fA9 (clsSpec 5) (lC9 (f1 (gv9 1) (fAttr "key")) (lC9 (f1 (gv9 1) (fAttr "names")) (lC9 (fCallC cloSpec (gv9 2) (lC9 (f1 (gv9 1) (fAttr "body")) l09)) l09)))))) (sSeq (sSet 9 (fIf (asBool (f2 (f1 (gv9 3) (fAttr "other")) (fK9 .none) (pureOp (cmpMV .Is)))) (fK9 .none) (fCallC cloSpec (gv9 7) (lC9 (f1 (gv9 3) (fAttr "other")) l09)))) (sSeq (sSet 10 (fA9 (clsSpec 6) (lC9 (f1 (gv9 3) (fAttr "value")) (lC9 (f1 (gv9 3) (fAttr "name")) (lC9 (gv9 8) (lC9 (gv9 9) l09)))))) (sSeq (sRet (fIf (asBool (f2 (gv9 6) (fLst l09) (pureOp (cmpMV .Eq)))) (gv9 10) (fA9 (clsSpec 4) (lC9 (gv9 6) (lC9 (gv9 10) (lC9 (fK9 (.bool false)) l09)))))) sNil))))
theorem tail_ok (t0 t1 : Bool) (g s : Int) (k : Nat) (cs : List MV) (P : MV → MV → Prop)
    (go : ∀ (nums : Dic) (B : Nat) (e : MV), NumsOK B nums → B + 16 ≤ LIM → ∃ r nums', P e r ∧ NumsOK (B + 16) nums' ∧ cloSpec k cs [e] (Sg t0 t1 g s nums) = some (r, Sg t0 t1 g s nums'))
    (nums : Dic) (B : Nat) (c : Cs) (x E0 F0 M W O : MV) (bl : List MV) (h : NumsOK B nums) (hc : c.alts.length ≤ 5) (hB : B + 100 ≤ LIM) :
    ∃ bs r nums' ρ, F2 (fun (a : Al) (b : Ga) => b.key = a.key ∧ b.fs = a.fs ∧ P a.body.enc b.body) c.alts bs ∧ P c.other.enc r ∧
      tlF ([.val E0, .val F0, .val M, .val (.obj 6 [x, .str c.own, .lst (c.alts.map Al.enc), c.other.enc]), .val W, .val O, .val (.lst bl), .val (.clo k cs), .un, .un, .un], Sg t0 t1 g s nums) = some (.ret (wl bl (.obj 6 [x, .str c.own, .lst (bs.map Ga.enc), r])), ρ, Sg t0 t1 g s nums') := by
  obtain ⟨bs, nums1, s1, hF, n1, e1⟩ := comp_go t0 t1 g s k cs P go c.alts nums B [] .un h (by lia) (by simp only [List.length_nil]; lia)
  obtain ⟨r, nums2, hP, n2, e2⟩ := go nums1 (B + 16 * c.alts.length) c.other.enc n1 (by lia)
  have ho : isNone c.other.enc = false := c.other.enc_none
  refine ⟨bs, r, nums2, ?_⟩
  apply Exists.intro
  refine ⟨hF, hP, ?_⟩
  unfold caC at e1
  have q : ∀ G, pureOp (cmpMV .Eq) G (.lst bl) (.lst []) = some (.bool bl.isEmpty, G) := fun G => po_eqn _ _ _ rfl
  have q0 : ∀ G, pureOp (cmpMV .Is) G c.other.enc .none = some (.bool false, G) := fun G => po_is _ _ _ ho
  unfold tlF
  cases hb : bl.isEmpty with
  | true =>
    rw [wlT hb]
    rw [hb] at q
    exact qs9 (r_set (r_comp (k := e1) (r_it (q19 (qv9 rfl) (at6_2 ..)) rfl) (r_cst rfl)) (st8 ..)) (kn9 (qs9 (r_set (r_fif (qb9 (q29 (q19 (qv9 rfl) (at6_3 ..)) qc9 (q0 ..))) (ic_f (r_callC (qv9 rfl) (ql9 (q19 (qv9 rfl) (at6_3 ..)) q09) e2))) (st9 ..)) (kn9 (qs9 (r_set (qa9 (ql9 (q19 (qv9 rfl) (at6_0 ..)) (ql9 (q19 (qv9 rfl) (at6_1 ..)) (ql9 (qv9 rfl) (ql9 (qv9 rfl) q09)))) (cls6 ..)) (st10 ..)) (kn9 (qs9 (r_ret (r_fif (qb9 (q29 (qv9 rfl) (r_lst q09 (nle9 rfl)) (q ..))) (ic_t (qv9 rfl)))) rfl))))))
  | false =>
    rw [wlF hb]
    rw [hb] at q
    exact qs9 (r_set (r_comp (k := e1) (r_it (q19 (qv9 rfl) (at6_2 ..)) rfl) (r_cst rfl)) (st8 ..)) (kn9 (qs9 (r_set (r_fif (qb9 (q29 (q19 (qv9 rfl) (at6_3 ..)) qc9 (q0 ..))) (ic_f (r_callC (qv9 rfl) (ql9 (q19 (qv9 rfl) (at6_3 ..)) q09) e2))) (st9 ..)) (kn9 (qs9 (r_set (qa9 (ql9 (q19 (qv9 rfl) (at6_0 ..)) (ql9 (q19 (qv9 rfl) (at6_1 ..)) (ql9 (qv9 rfl) (ql9 (qv9 rfl) q09)))) (cls6 ..)) (st10 ..)) (kn9 (qs9 (r_ret (r_fif (qb9 (q29 (qv9 rfl) (r_lst q09 (nle9 rfl)) (q ..))) (ic_f (qa9 (ql9 (qv9 rfl) (ql9 (qv9 rfl) (ql9 qc9 q09))) (cls4 ..))))) rfl))))))
end Mine
end

section
namespace Mine
open PySem
theorem rAlts_length (own own' : Str) : ∀ (as : List Al) (fss : List (List Str)), F2 (F2 New) (as.map Al.fs) fss → (rAlts own own' as fss).length = as.length
  | [], _, h => by cases h; rfl
  | a :: as, fss, h => by
    rw [List.map_cons] at h
    cases h with
    | @cons _ f _ fss n F =>
      show (rAlts own own' as fss).length + 1 = as.length + 1
      rw [rAlts_length own own' as fss F]
theorem RenOf.len {c c' : Cs} (h : RenOf c c') : c'.alts.length = c.alts.length := by
  obtain ⟨own', fss', h1, h2, rfl⟩ := h
  exact rAlts_length _ _ _ _ h2
noncomputable def altsP (P : MV → MV → Prop) (as : List Al) (bs : List Ga) : Prop := F2 (fun (a : Al) (b : Ga) => b.key = a.key ∧ b.fs = a.fs ∧ P a.body.enc b.body) as bs
theorem opInt_t (G : Gst) : opInt [.bool true] G = some (.int 1, G) := rfl
set_option maxHeartbeats 2000000 in
theorem coc_plain (t0 : Bool) (g s : Int) (c ci : Cs) (x : Str) (m : Int) (hm : 0 ≤ m) (hc : c.Ok) (hT : c.T) (hi : ci.Ok) (h1 : 1 ≤ ci.alts.length) (hno : decide (m < 2 + 4 * ((c.alts.length : Int) + 1)) = false) :
    ∃ ci' bs r nums', RenOf ci ci' ∧ altsP (fun e r => ∃ c', RenOf c c' ∧ r = c'.enc e) ci'.alts bs ∧ (∃ c', RenOf c c' ∧ r = c'.enc ci'.other.enc) ∧
      S_case_of_case [c.enc (ci.enc (.obj 0 [.str x])), fr, .int m] (Sg t0 false g s []) = some (.obj 6 [.obj 0 [.str x], .str ci'.own, .lst (bs.map Ga.enc), r], Sg t0 true g s nums') := by
  obtain ⟨ci', nums1, hR, n1, e1⟩ := rename_case t0 false g s [] 0 ci (.atm (.v x)) hi trivial NumsOK.nil (by decide)
  have hlen := hR.len
  have hl5 := hi.len
  obtain ⟨z, e2, hz⟩ := size_ok (Sg t0 false g s nums1) c m hm hc hT
  rw [hno] at hz
  obtain ⟨bs, r, nums2, ρ, hF, hr, e3⟩ := tail_ok t0 true g s 1 [fr, c.enc (ci.enc (.obj 0 [.str x]))] _ (fun nums B e h hB => go1_ok t0 true g s c (ci.enc (.obj 0 [.str x])) hc nums B e h hB) nums1 (0 + 16) ci' (.obj 0 [.str x]) (c.enc (ci.enc (.obj 0 [.str x]))) fr (.int m) (.int ((ci'.alts.length : Int) + 1)) (c.enc (.obj 0 [.str "value"])) [] n1 (by lia) (by decide)
  refine ⟨ci', bs, r, nums2, hR, hF, hr, ?_⟩
  rw [wlT rfl] at e3
  have ho : isNone ci'.other.enc = false := ci'.other.enc_none
  have hs : (Sg t0 false g s nums1).set 1 (.t true) = Sg t0 true g s nums1 := rfl
  have hg : (Sg t0 false g s nums1)[1]? = some (.t false) := rfl
  have q1 : ∀ G, opLen [.lst (ci'.alts.map Al.enc)] G = some (.int ci'.alts.length, G) := fun G => by rw [opLen_ok (by rw [List.length_map]; have hr : room = 100000 := rfl; lia), List.length_map]
  have q2 : decide ((1 : Int) < (ci'.alts.length : Int) + 1) = true := decide_eq_true (by lia)
  have q3 : ∀ G, pureOp (cmpMV .IsNot) G ci'.other.enc .none = some (.bool true, G) := fun G => po_isnot _ _ _ (by rw [ho]; rfl)
  have e1 : S_renamed [.obj 6 [.obj 0 [.str x], .str ci.own, .lst (ci.alts.map Al.enc), ci.other.enc], .obj 9 [.glo 3, .glo 4]] (Sg t0 false g s []) = some (.obj 6 [.obj 0 [.str x], .str ci'.own, .lst (ci'.alts.map Al.enc), ci'.other.enc], Sg t0 false g s nums1) := e1
  unfold tlF at e3
  unfold S_case_of_case F_case_of_case
  unfold Cs.enc at e2 e3
  unfold fr at e3
  unfold Cs.enc fr
  exact r_spec rfl (r_start rfl) (qs9 (r_if (r_or (r_not (qb9 (q19 (qv9 rfl) (isi_t _ _ _ (by decide)))) rfl) rfl) (ic_f qn9)) (kn9 (qs9 (r_set (qa9 (ql9 (q19 (qv9 rfl) (at6_0 ..)) (ql9 (qv9 rfl) q09)) e1) (st3 ..)) (kn9 (qs9 (r_set (q29 (qa9 (ql9 (q19 (qv9 rfl) (at6_2 ..)) q09) (q1 ..)) (qa9 (ql9 (q29 (q19 (qv9 rfl) (at6_3 ..)) qc9 (q3 ..)) q09) (opInt_t ..)) (po_add ..)) (st4 ..)) (kn9 (qs9 (r_set (qa9 (ql9 (qa9 (ql9 qc9 q09) (cls0 ..)) (ql9 (q19 (qv9 rfl) (at6_1 ..)) (ql9 (q19 (qv9 rfl) (at6_2 ..)) (ql9 (q19 (qv9 rfl) (at6_3 ..)) q09)))) (cls6 ..)) (st5 ..)) (kn9 (qs9 (r_set (r_lst q09 (nle9 rfl)) (st6 ..)) (kn9 (r_dx (r_difF (r_and (qb9 (q29 (qv9 rfl) qc9 (po_gt _ _ _ true q2))) (ac_t (r_and (qb9 (q29 (qa9 (ql9 (qv9 rfl) (ql9 (qv9 rfl) q09)) e2) (qv9 rfl) (po_gt _ _ _ false hz))) ac_f))) (r_ddef hg rfl (st7 ..) hs)) e3)))))))))))
set_option maxHeartbeats 2000000 in
theorem coc_join (t1 : Bool) (g s : Int) (c ci : Cs) (x : Str) (m : Int) (hm : 0 ≤ m) (hc : c.Ok) (hT : c.T) (hi : ci.Ok) (h1 : 1 ≤ ci.alts.length) (hno : decide (m < 2 + 4 * ((c.alts.length : Int) + 1)) = true) :
    ∃ ci' bs r nums' j w cJ, RenOf ci ci' ∧ New "j" j ∧ New "v" w ∧ RenOf c cJ ∧ altsP (fun e r => ∃ n, New "v" n ∧ r = goM e j n) ci'.alts bs ∧ (∃ n, New "v" n ∧ r = goM ci'.other.enc j n) ∧
      S_case_of_case [c.enc (ci.enc (.obj 0 [.str x])), fr, .int m] (Sg false t1 g s []) =
        some (.obj 4 [.lst [.tup [.str j, .obj 3 [.lst [.str w], cJ.enc (.obj 0 [.str w])]]], .obj 6 [.obj 0 [.str x], .str ci'.own, .lst (bs.map Ga.enc), r], .bool false], Sg true t1 g s nums') := by
  obtain ⟨ci', nums1, hR, n1, e1⟩ := rename_case false t1 g s [] 0 ci (.atm (.v x)) hi trivial NumsOK.nil (by decide)
  have hlen := hR.len
  have hl5 := hi.len
  obtain ⟨z, e2, hz⟩ := size_ok (Sg false t1 g s nums1) c m hm hc hT
  rw [hno] at hz
  obtain ⟨j, w, cJ, nums2, hj, hw, hRJ, n2, e4⟩ := joined_ok t1 g s nums1 (0 + 16) c (ci.enc (.obj 0 [.str x])) hc n1 (by decide)
  obtain ⟨bs, r, nums3, ρ, hF, hr, e3⟩ := tail_ok true t1 g s 0 [.str j, fr] _ (fun nums B e h hB => go0_ok true t1 g s j nums B e h hB) nums2 (0 + 16 + 18) ci' (.obj 0 [.str x]) (c.enc (ci.enc (.obj 0 [.str x]))) fr (.int m) (.int ((ci'.alts.length : Int) + 1)) (c.enc (.obj 0 [.str "value"])) [.tup [.str j, .obj 3 [.lst [.str w], cJ.enc (.obj 0 [.str w])]]] n2 (by lia) (by decide)
  refine ⟨ci', bs, r, nums3, j, w, cJ, hR, hj, hw, hRJ, hF, hr, ?_⟩
  rw [wlF rfl] at e3
  have ho : isNone ci'.other.enc = false := ci'.other.enc_none
  have q1 : ∀ G, opLen [.lst (ci'.alts.map Al.enc)] G = some (.int ci'.alts.length, G) := fun G => by rw [opLen_ok (by rw [List.length_map]; have hr : room = 100000 := rfl; lia), List.length_map]
  have q2 : decide ((1 : Int) < (ci'.alts.length : Int) + 1) = true := decide_eq_true (by lia)
  have q3 : ∀ G, pureOp (cmpMV .IsNot) G ci'.other.enc .none = some (.bool true, G) := fun G => po_isnot _ _ _ (by rw [ho]; rfl)
  have e1 : S_renamed [.obj 6 [.obj 0 [.str x], .str ci.own, .lst (ci.alts.map Al.enc), ci.other.enc], .obj 9 [.glo 3, .glo 4]] (Sg false t1 g s []) = some (.obj 6 [.obj 0 [.str x], .str ci'.own, .lst (ci'.alts.map Al.enc), ci'.other.enc], Sg false t1 g s nums1) := e1
  generalize cJ.enc (.obj 0 [.str w]) = J at *
  unfold tlF at e3
  unfold S_case_of_case F_case_of_case
  unfold Cs.enc at e2 e3 e4
  unfold fr at e3 e4
  unfold Cs.enc fr
  exact r_spec rfl (r_start rfl) (qs9 (r_if (r_or (r_not (qb9 (q19 (qv9 rfl) (isi_t _ _ _ (by decide)))) rfl) rfl) (ic_f qn9)) (kn9 (qs9 (r_set (qa9 (ql9 (q19 (qv9 rfl) (at6_0 ..)) (ql9 (qv9 rfl) q09)) e1) (st3 ..)) (kn9 (qs9 (r_set (q29 (qa9 (ql9 (q19 (qv9 rfl) (at6_2 ..)) q09) (q1 ..)) (qa9 (ql9 (q29 (q19 (qv9 rfl) (at6_3 ..)) qc9 (q3 ..)) q09) (opInt_t ..)) (po_add ..)) (st4 ..)) (kn9 (qs9 (r_set (qa9 (ql9 (qa9 (ql9 qc9 q09) (cls0 ..)) (ql9 (q19 (qv9 rfl) (at6_1 ..)) (ql9 (q19 (qv9 rfl) (at6_2 ..)) (ql9 (q19 (qv9 rfl) (at6_3 ..)) q09)))) (cls6 ..)) (st5 ..)) (kn9 (qs9 (r_set (r_lst q09 (nle9 rfl)) (st6 ..)) (kn9 (r_dx (r_difT (r_and (qb9 (q29 (qv9 rfl) qc9 (po_gt _ _ _ true q2))) (ac_t (r_and (qb9 (q29 (qa9 (ql9 (qv9 rfl) (ql9 (qv9 rfl) q09)) e2) (qv9 rfl) (po_gt _ _ _ true hz))) (ac_t r_tlit)))) (qs9 (r_unp (qa9 (ql9 (qv9 rfl) (ql9 (qv9 rfl) q09)) e4) (r_tt2 (st6 ..) (st7 ..))) (kn9 qn9))) e3)))))))))))
end Mine
end

section
namespace Mine
open PySem
noncomputable def NewP (y : Str) : Prop := ∃ x ∈ PL, New x y
theorem NewP.notPL {y : Str} (h : NewP y) : y ∉ PL := let ⟨x, hx, n⟩ := h; n.notPL (PLBS hx)
theorem NewP.ne {y b j : Str} (h : NewP y) (hb : b ∈ BS) (hb2 : b ∉ PL) (n : New b j) : y ≠ j := fun e => by
  obtain ⟨x, hx, n2⟩ := h
  have h1 := (n2.facts (PLBS hx)).1
  rw [e, (n.facts hb).1] at h1
  rw [pre_inj _ hb _ (PLBS hx) h1] at hb2
  exact hb2 hx
theorem f2_new : ∀ {xs ys : List Str}, F2 New xs ys → (∀ x ∈ xs, x ∈ PL) → ∀ y ∈ ys, NewP y
  | _, _, .nil, _ => fun y hy => by cases hy
  | x :: xs, z :: ys, .cons n F, h => fun y hy => by
    rcases List.mem_cons.mp hy with rfl | hy
    · exact ⟨x, h x (.head _), n⟩
    · exact f2_new F (fun z hz => h z (.tail _ hz)) y hy
theorem rAlts_new (own own' : Str) : ∀ (as : List Al) (fss : List (List Str)), F2 (F2 New) (as.map Al.fs) fss → (∀ a ∈ as, a.Ok) → ∀ a ∈ rAlts own own' as fss, ∀ y ∈ a.fs, NewP y
  | [], _, h, _ => fun a ha => by cases h; cases ha
  | b :: as, fss, h, ho => fun a ha y hy => by
    rw [List.map_cons] at h
    cases h with
    | @cons _ f _ fss n F =>
      rcases List.mem_cons.mp ha with rfl | ha
      · exact f2_new n (ho b (.head _)).fs y hy
      · exact rAlts_new own own' as fss F (fun c hc => ho c (.tail _ hc)) a ha y hy
theorem RenOf.names {c c' : Cs} (h : RenOf c c') (hc : c.Ok) : NewP c'.own ∧ ∀ a ∈ c'.alts, ∀ y ∈ a.fs, NewP y := by
  obtain ⟨own', fss', h1, h2, rfl⟩ := h
  exact ⟨⟨_, hc.own, h1⟩, rAlts_new _ _ _ _ h2 hc.alts⟩
theorem look_msv : ∀ (fs : List Str) (ws : List MV) (d : Dic) (x : Str), (∀ y ∈ fs, y ≠ x) → look (msv d fs ws) x = look d x
  | [], _, _, _, _ => by simp [msv]
  | _ :: _, [], _, _, _ => by simp [msv]
  | y :: ys, w :: ws, d, x, h => by
    unfold msv
    rw [look_msv ys ws _ x (fun z hz => h z (.tail _ hz)), look_set, if_neg (fun e => h y (.head _) e.symm)]
theorem Corr.msv {d d' : Dic} (h : Corr [] d d') {fs : List Str} (hf : ∀ y ∈ fs, y ∉ PL) (ws : List MV) : Corr [] d (msv d' fs ws) := fun x hx => by
  rw [rn_nil, look_msv fs ws d' x (fun y hy e => hf y hy (by rw [e]; exact hx))]
  exact h x hx
theorem msv_length : ∀ (fs : List Str) (ws : List MV) (d : Dic), (msv d fs ws).length ≤ d.length + fs.length
  | [], _, _ => by simp [msv]
  | _ :: _, [], _ => by simp [msv]
  | y :: ys, w :: ws, d => by
    unfold msv
    have h1 := msv_length ys ws (mSet d y w)
    have h2 := mSet_length d y w
    rw [List.length_cons]; lia
structure VOk (k : Nat) (v : Vl) : Prop where
  ok : v.Ok
  lv : Lv k v.enc
  args : ∀ w ∈ v.args, Lv k w
theorem vok_cell {k : Nat} {c : Cl} {d : Dic} (h : c.Ok) (hd : LvD k d) (hk : 1 ≤ k) : VOk (k + 2) (c.vl d) := ⟨h.vl d, (lv_vl h hd hk).1, (lv_vl h hd hk).2⟩
theorem env_vl {ca cb : Cl} (oa : ca.Ok) (ob : cb.Ok) {x : Str} (hx : x ∈ [("a" : Str), "b"]) : ∃ v : Vl, VOk 3 v ∧ look (env ca cb) x = v.enc := by
  have hab : ("a" : Str) ≠ "b" := by decide +kernel
  rcases List.mem_cons.mp hx with rfl | hx
  · refine ⟨ca.vl [], vok_cell oa LvD.nil (Nat.le_refl 1), ?_⟩
    unfold env
    rw [look_set, if_neg hab, look_set, if_pos rfl]; rfl
  · rw [List.mem_singleton.mp hx]
    refine ⟨cb.vl [], vok_cell ob LvD.nil (Nat.le_refl 1), ?_⟩
    unfold env
    rw [look_set, if_pos rfl]; rfl
theorem sm_vl {k : Nat} {b : Sm} {d : Dic} (h : IsCell b ∨ b = .atm (.l 7)) (hd : LvD k d) (hk : 1 ≤ k) : ∃ w : Vl, VOk (k + 2) w ∧ sv d b = w.enc := by
  rcases h with ⟨c, hc, rfl⟩ | rfl
  · exact ⟨c.vl d, vok_cell hc hd hk, rfl⟩
  · exact ⟨.num 7, ⟨⟨fun x ws e => by cases e⟩, (lv_num 7).mono (by lia), fun w hw => by cases hw⟩, rfl⟩
theorem inner_out {ci : Cs} {v : Vl} {d : Dic} (hi : ci.Ok) (hb : ∀ a ∈ ci.alts, IsCell a.body) (ho : IsCell ci.other ∨ ci.other = .atm (.l 7)) (hd : LvD 3 d) (hv : VOk 3 v) : ∃ w : Vl, VOk 5 w ∧ outc v d ci = w.enc := by
  unfold outc
  cases e : pickA v ci.alts with
  | none => exact sm_vl ho (hd.set _ hv.lv) (by lia)
  | some a => exact sm_vl (.inl (hb a (pickA_mem e).1)) ((hd.set _ hv.lv).sets hv.args) (by lia)
theorem altsP_pick {P : MV → MV → Prop} (v : Vl) : ∀ {as : List Al} {bs : List Ga}, altsP P as bs →
    (pickA v as = none ∧ pick v bs = none) ∨ ∃ a b, pickA v as = some a ∧ pick v bs = some b ∧ b.fs = a.fs ∧ P a.body.enc b.body
  | _, _, .nil => .inl ⟨rfl, rfl⟩
  | a :: as, b :: bs, .cons h H => by
    unfold pickA pick
    rw [h.1]
    by_cases hh : hit v a.key = true
    · rw [if_pos hh, if_pos hh]; exact .inr ⟨a, b, rfl, rfl, h.2.1, h.2.2⟩
    · rw [if_neg hh, if_neg hh]; exact altsP_pick v H
theorem altsP_ok {P : MV → MV → Prop} : ∀ {as : List Al} {bs : List Ga}, altsP P as bs → (∀ a ∈ as, a.ga.Ok) → ∀ b ∈ bs, b.Ok
  | _, _, .nil, _ => fun b hb => by cases hb
  | a :: as, b :: bs, .cons h H, ho => fun x hx => by
    rcases List.mem_cons.mp hx with rfl | hx
    · have h1 := ho a (.head _)
      exact ⟨fun y e => (by rw [h.2.1]; exact h1.key y (h.1.symm.trans e)), fun e => (by rw [h.2.1]; exact h1.lit (h.1.symm.trans e))⟩
    · exact altsP_ok H (fun c hc => ho c (.tail _ hc)) x hx
noncomputable def dat (v : Vl) (d : Dic) (c : Cs) : Dic := match pickA v c.alts with
  | some a => msv (mSet d c.own v.enc) a.fs v.args
  | none => mSet d c.own v.enc
theorem dat_out (v : Vl) (d : Dic) (c : Cs) : outc v d c = sv (dat v d c) (bodyOf v c) := by
  unfold outc dat bodyOf
  cases pickA v c.alts <;> rfl
theorem dat_corr {c c' : Cs} {v : Vl} {d d' : Dic} (hR : RenOf c c') (hc : c.Ok) (h : Corr [] d d') : Corr [] d (dat v d' c') := by
  obtain ⟨h1, h2⟩ := hR.names hc
  unfold dat
  cases e : pickA v c'.alts with
  | none => exact h.skip h1.notPL _
  | some a => exact (h.skip h1.notPL _).msv (fun y hy => (h2 a (pickA_mem e).1 y hy).notPL) _
theorem dat_look {c c' : Cs} {v : Vl} {d' : Dic} {j : Str} (hR : RenOf c c') (hc : c.Ok) (h : ∀ y, NewP y → y ≠ j) : look (dat v d' c') j = look d' j := by
  obtain ⟨h1, h2⟩ := hR.names hc
  unfold dat
  cases e : pickA v c'.alts with
  | none => simp only; rw [look_set, if_neg (fun e => h _ h1 e.symm)]
  | some a => simp only; rw [look_msv _ _ _ _ (fun y hy => h _ (h2 a (pickA_mem e).1 y hy)), look_set, if_neg (fun e => h _ h1 e.symm)]
theorem dat_length {c' : Cs} {v : Vl} {d' : Dic} (hg : c'.Gd) : (dat v d' c').length ≤ d'.length + 4 := by
  have h1 := mSet_length d' c'.own v.enc
  unfold dat
  cases e : pickA v c'.alts with
  | none => simp only; lia
  | some a =>
    have h2 := msv_length a.fs v.args (mSet d' c'.own v.enc)
    have h3 : a.fs.length ≤ 3 := by
      have hk := (hg.alts a (pickA_mem e).1).1
      cases ek : a.key with
      | lit => rw [show a.fs = [] from hk.lit ek]; exact Nat.zero_le _
      | con y => rw [show a.fs.length = Cl.size y from (hk.key y ek).2]; exact Cl.size_le _
    simp only; lia
theorem runs_told {k : Nat} {c' : Cs} {P : MV → MV → Prop} {bs : List Ga} {x : Str} {r out : MV} {d : Dic} {v : Vl} (hg : c'.Gd) (hF : altsP P c'.alts bs) (hP : P c'.other.enc r) (hx : look d x = v.enc) (hv : v.Ok) (hd : d.length ≤ 100) (hk : 1 ≤ k)
    (h : ∀ y, P (bodyOf v c').enc y → Runs k y (dat v d c') out) : Runs (k + 1) (.obj 6 [.obj 0 [.str x], .str c'.own, .lst (bs.map Ga.enc), r]) d out := by
  have hw : Runs k (.obj 0 [.str x]) d v.enc := by rw [← hx]; exact (runs_at d (.v x)).mono hk
  unfold bodyOf dat at h
  refine runs_case hw hv (altsP_ok hF fun a ha => (hg.alts a ha).1) (by lia) ?_ ?_
  · intro b hb
    rcases altsP_pick v hF with ⟨e1, e2⟩ | ⟨a, b', e1, e2, h1, h2⟩
    · rw [e2] at hb; exact ns9 hb
    · rw [e2] at hb; cases hb
      rw [e1] at h
      rw [h1]
      exact h _ h2
  · intro hb
    rcases altsP_pick v hF with ⟨e1, e2⟩ | ⟨a, b', e1, e2, h1, h2⟩
    · rw [e1] at h
      exact h _ hP
    · rw [e2] at hb; cases hb
theorem form2_plain {c ci ci' : Cs} {bs : List Ga} {r : MV} {x : Str} {d : Dic} {v w : Vl} (hc : c.Ok) (hi : ci.Ok) (hR : RenOf ci ci') (hF : altsP (fun e r => ∃ c', RenOf c c' ∧ r = c'.enc e) ci'.alts bs) (hP : ∃ c', RenOf c c' ∧ r = c'.enc ci'.other.enc)
    (hx : look d x = v.enc) (hv : v.Ok) (hw : w.Ok) (ho : outc v d ci = w.enc) (hd : d.length ≤ 10) : Runs 4 (.obj 6 [.obj 0 [.str x], .str ci'.own, .lst (bs.map Ga.enc), r]) d (outc w d c) := by
  have hg := hR.gd hi.gd
  refine runs_told hg hF hP hx hv (by lia) (by lia) ?_
  rintro y ⟨c', h1, rfl⟩
  have h2 : Runs 2 (bodyOf v ci').enc (dat v d ci') w.enc := by
    rw [← ho, ← ren_out hi hR (Corr.refl d) hv, dat_out]; exact runs_sm _ _ (bodyOf_wf hg v)
  have hl := dat_length (v := v) (d' := d) hg
  rw [← ren_out hc h1 (dat_corr (v := v) hR hi (Corr.refl d)) hw]
  exact runs_cs h2 (by lia) hw (h1.gd hc.gd) (by lia)
theorem form2_join {c ci ci' cJ : Cs} {bs : List Ga} {r : MV} {x j wn : Str} {d : Dic} {v w : Vl} (hc : c.Ok) (hi : ci.Ok) (hR : RenOf ci ci') (hj : New "j" j) (hwn : New "v" wn) (hJ : RenOf c cJ) (hF : altsP (fun e r => ∃ n, New "v" n ∧ r = goM e j n) ci'.alts bs) (hP : ∃ n, New "v" n ∧ r = goM ci'.other.enc j n)
    (hxP : x ∈ PL) (hx : look d x = v.enc) (hv : v.Ok) (hw : w.Ok) (ho : outc v d ci = w.enc) (hd : d.length ≤ 10) :
    Runs 7 (.obj 4 [.lst [.tup [.str j, .obj 3 [.lst [.str wn], cJ.enc (.obj 0 [.str wn])]]], .obj 6 [.obj 0 [.str x], .str ci'.own, .lst (bs.map Ga.enc), r], .bool false]) d (outc w d c) := by
  have hg := hR.gd hi.gd
  have jB : ("j" : Str) ∈ BS := by simp [BS]
  have vB : ("v" : Str) ∈ BS := by simp [BS]
  have jP : ("j" : Str) ∉ PL := by decide +kernel
  have vP : ("v" : Str) ∉ PL := by decide +kernel
  have hjn := hj.notPL jB
  have hvn := hwn.notPL vB
  let fn : MV := .tup [.str "function", .obj 3 [.lst [.str wn], cJ.enc (.obj 0 [.str wn])], .dct d]
  have hc1 : Corr [] d (mSet d j fn) := (Corr.refl d).skip hjn fn
  have hl1 := mSet_length d j fn
  have r1 : Runs 6 (.obj 6 [.obj 0 [.str x], .str ci'.own, .lst (bs.map Ga.enc), r]) (mSet d j fn) (outc w d c) := by
    have hx1 : look (mSet d j fn) x = v.enc := by rw [look_set, if_neg (fun e => hjn (by rw [← e]; exact hxP)), hx]
    refine runs_told hg hF hP hx1 hv (by lia) (by lia) ?_
    rintro y ⟨n, hn, rfl⟩
    have hl := dat_length (v := v) (d' := mSet d j fn) hg
    have h2 : Runs 4 (bodyOf v ci').enc (dat v (mSet d j fn) ci') w.enc := by
      rw [← ho, ← ren_out hi hR hc1 hv, dat_out]; exact (runs_sm _ _ (bodyOf_wf hg v)).mono (by lia)
    have hl2 := mSet_length (dat v (mSet d j fn) ci') n w.enc
    refine runs_case (as := []) h2 hw (fun a ha => by cases ha) (by lia) (fun a ha => by cases ha) (fun _ => ?_)
    have hjl : look (mSet (dat v (mSet d j fn) ci') n w.enc) j = fn := by
      have hjne : j ≠ n := fun e => by
        have h1 := (hj.facts jB).1
        rw [e, (hn.facts vB).1] at h1
        exact absurd (pre_inj _ vB _ jB h1) (by decide +kernel)
      rw [look_set, if_neg hjne, dat_look hR hi (fun y hy => hy.ne jB jP hj), look_set, if_pos rfl]
    have hnl : look (mSet (dat v (mSet d j fn) ci') n w.enc) n = w.enc := by rw [look_set, if_pos rfl]
    have hl3 := mSet_length d wn w.enc
    refine runs_app (k := 2) hjl ?_ (by lia) (by lia)
    rw [hnl, ← ren_out hc hJ ((Corr.refl d).skip hvn w.enc) hw]
    have h5 : Runs 2 (.obj 0 [.str wn]) (mSet d wn w.enc) w.enc := by
      have h6 := runs_at (mSet d wn w.enc) (.v wn)
      rw [show av (mSet d wn w.enc) (.v wn) = w.enc by show look _ _ = _; rw [look_set, if_pos rfl]] at h6
      exact h6.mono (by lia)
    exact runs_cs h5 (by lia) hw (hJ.gd hc.gd) (by lia)
  exact runs_let (l := [⟨j, .obj 3 [.lst [.str wn], cJ.enc (.obj 0 [.str wn])], fn⟩]) r1 (fun b hb => by
    rw [List.mem_singleton.mp hb]
    exact (runs_lam d _ _).mono (by lia)) (by simp; lia)
end Mine
end

section
namespace Mine
open PySem
theorem form2_ok (g s : Int) (c ci : Cs) (x : Str) (m : Int) (hm : 0 ≤ m) (hc : c.Ok) (hT : c.T) (hi : ci.Ok) (hb : ∀ a ∈ ci.alts, IsCell a.body) (ho : IsCell ci.other ∨ ci.other = .atm (.l 7)) (h1 : 1 ≤ ci.alts.length) (hx : x ∈ [("a" : Str), "b"]) :
    ∃ told b0 b1 nums' g' s' own alts oth k, S_case_of_case [c.enc (ci.enc (.obj 0 [.str x])), fr, .int m] (Sg false false g s []) = some (told, Sg b0 b1 g s nums') ∧ Lets k told (.obj 6 [.obj 0 [.str x], own, alts, oth]) ∧ k ≤ 1 ∧
      (∀ G, opIsi 4 G told = some (.bool (decide (m < 2 + 4 * ((c.alts.length : Int) + 1))), G)) ∧ S_law_alike [.glo 2, c.enc (ci.enc (.obj 0 [.str x])), told] (Sg b0 b1 g s nums') = some (.bool true, Sg b0 b1 g' s' nums') := by
  have hxP : x ∈ PL := by
    rcases List.mem_cons.mp hx with rfl | hx
    · simp [PL]
    · rw [List.mem_singleton.mp hx]; simp [PL]
  have orig : ∀ ca cb : Cl, ca.Ok → cb.Ok → ∃ v w : Vl, VOk 3 v ∧ VOk 5 w ∧ look (env ca cb) x = v.enc ∧ outc v (env ca cb) ci = w.enc ∧ Good (outc w (env ca cb) c) ∧ Runs 40 (c.enc (ci.enc (.obj 0 [.str x]))) (env ca cb) (outc w (env ca cb) c) := fun ca cb oa ob => by
    obtain ⟨v, hv, e1⟩ := env_vl oa ob hx
    have lv := lv_env oa ob
    have hl := env_length ca cb
    generalize env ca cb = d at *
    obtain ⟨w, hw, e2⟩ := inner_out hi hb ho lv hv
    refine ⟨v, w, hv, hw, e1, e2, good_out (k := 5) (lv.mono (by lia)) (by lia) (by lia) hc hT hw.lv hw.args, ?_⟩
    have r1 : Runs 2 (.obj 0 [.str x]) d v.enc := by rw [← e1]; exact (runs_at d (.v x)).mono (by lia)
    have r2 : Runs 3 (ci.enc (.obj 0 [.str x])) d w.enc := by rw [← e2]; exact runs_cs r1 (by lia) hv.ok hi.gd (by lia)
    exact (runs_cs r2 (by lia) hw.ok hc.gd (by lia)).mono (by lia)
  cases hj : decide (m < 2 + 4 * ((c.alts.length : Int) + 1)) with
  | false =>
    obtain ⟨ci', bs, r, nums', hR, hF, hP, e⟩ := coc_plain false g s c ci x m hm hc hT hi h1 hj
    obtain ⟨g', s', e2⟩ := alike_ok false true [.d avd, .d nums'] (c.enc (ci.enc (.obj 0 [.str x]))) (.obj 6 [.obj 0 [.str x], .str ci'.own, .lst (bs.map Ga.enc), r]) (fun ca cb oa ob => by
      obtain ⟨v, w, hv, hw, q1, q2, q3, q4⟩ := orig ca cb oa ob
      have hl := env_length ca cb
      exact ⟨_, q3, q4, (form2_plain hc hi hR hF hP q1 hv.ok hw.ok q2 (by lia)).mono (by lia)⟩) g s
    exact ⟨_, false, true, nums', g', s', _, _, _, 0, e, .nil _, by lia, fun G => isi_f _ _ _ _ (by decide) (by decide), e2⟩
  | true =>
    obtain ⟨ci', bs, r, nums', j, w', cJ, hR, hj1, hw1, hRJ, hF, hP, e⟩ := coc_join false g s c ci x m hm hc hT hi h1 hj
    obtain ⟨g', s', e2⟩ := alike_ok true false [.d avd, .d nums'] (c.enc (ci.enc (.obj 0 [.str x]))) _ (fun ca cb oa ob => by
      obtain ⟨v, w, hv, hw, q1, q2, q3, q4⟩ := orig ca cb oa ob
      have hl := env_length ca cb
      exact ⟨_, q3, q4, (form2_join hc hi hR hj1 hw1 hRJ hF hP hxP q1 hv.ok hw.ok q2 (by lia)).mono (by lia)⟩) g s
    exact ⟨_, true, false, nums', g', s', _, _, _, 1, e, .cons _ _ (.nil _), by lia, fun G => isi_t _ _ _ (by decide), e2⟩
noncomputable def lwF : Ab → Option (Fl × Ab) := (sSeq (sIf (asBool (f2 (gv9 2) (fK9 (.int 0)) (pureOp (cmpMV .Eq)))) (sSeq (sSet 5 (fIf (asBool (f2 (fA9 S_law_next (lC9 (gv9 1) (lC9 (fK9 (.int 4)) l09))) (fK9 (.int 0)) (pureOp (cmpMV .Gt)))) (fA9 S_law_cell (lC9 (gv9 1) (lC9 (fLst l09) l09))) (fA9 (clsSpec 1) (lC9 (fK9 (.str "int")) (lC9 (f2 (fK9 (.int 6)) (fA9 S_law_next (lC9 (gv9 1) (lC9 (fK9 (.int 2)) l09))) (pureOp (binMV .Add))) l09))))) (sSeq (sSet 6 (fA9 S_law_outer (lC9 (gv9 1) (lC9 (gv9 5) (lC9 (gv9 3) l09))))) (sSeq (sSet 7 (fA9 S_known_case (lC9 (gv9 6) (lC9 (gv9 4) l09)))) (sSeq (sRet (fAnd (f1 (fA9 S_law_within_lets (lC9 (gv9 7) l09)) (opIsi 7)) (fA9 S_law_alike (lC9 (gv9 1) (lC9 (gv9 6) (lC9 (gv9 7) l09)))))) sNil)))) sNil) (sSeq (sIf (asBool (f2 (gv9 2) (fK9 (.int 1)) (pureOp (cmpMV .Eq)))) (sSeq (sSet 8 (fLst (lC9 (fTup (lC9 (fK9 (.str "p")) (lC9 (fA9 S_law_atom (lC9 (gv9 1) (lC9 (fLst (lC9 (fK9 (.str "a")) l09)) l09))) l09))) (lC9 (fTup (lC9 (fK9 (.str "r")) (lC9 (fA9 S_law_cell (lC9 (gv9 1) (lC9 (fLst (lC9 (fK9 (.str "b")) l09)) l09))) l09))) l09)))) (sSeq (sSet 6 (fA9 S_law_outer (lC9 (gv9 1) (lC9 (fA9 (clsSpec 4) (lC9 (gv9 8) (lC9 (fA9 S_law_cell (lC9 (gv9 1) (lC9 (fLst (lC9 (fK9 (.str "r")) (lC9 (fK9 (.str "p")) l09))) l09))) (lC9 (fK9 (.bool false)) l09)))) (lC9 (gv9 3) l09))))) (sSeq (sSet 7 (fA9 S_case_of_let (lC9 (gv9 6) (lC9 (gv9 4) l09)))) (sSeq (sRet (fAnd (f1 (gv9 7) (opIsi 4)) (fAnd (f1 (f1 (gv9 7) (fAttr "body")) (opIsi 6)) (fA9 S_law_alike (lC9 (gv9 1) (lC9 (gv9 6) (lC9 (gv9 7) l09))))))) sNil)))) sNil) (sSeq (sSet 6 (fA9 S_law_outer (lC9 (gv9 1) (lC9 (fA9 S_law_inner (lC9 (gv9 1) l09)) (lC9 (gv9 3) l09))))) (sSeq (sSet 9 (f2 (fLst (lC9 (fK9 (.int 0)) (lC9 (fK9 (.int 9)) (lC9 (fK9 (.int 90)) l09)))) (fA9 S_law_next (lC9 (gv9 1) (lC9 (fK9 (.int 3)) l09))) fIdx)) (sSeq (sSet 7 (fA9 S_case_of_case (lC9 (gv9 6) (lC9 (gv9 4) (lC9 (gv9 9) l09))))) (sSeq (sSet 10 (fA9 S_law_within_lets (lC9 (gv9 7) l09))) (sSeq (sIf (asBool (f2 (f1 (gv9 7) (opIsi 4)) (f2 (f2 (fK9 (.int 2)) (f2 (fK9 (.int 4)) (f2 (fA9 opLen (lC9 (f1 (gv9 6) (fAttr "alts")) l09)) (fK9 (.int 1)) (pureOp (binMV .Add))) (pureOp (binMV .Mult))) (pureOp (binMV .Add))) (gv9 9) (pureOp (cmpMV .Gt))) (pureOp (cmpMV .NotEq)))) (sSeq (sRet (fK9 (.bool false))) sNil) sNil) (sSeq (sIf (tOr (tNot (asBool (f1 (gv9 10) (opIsi 6)))) (tOr (tNot (asBool (f1 (f1 (gv9 10) (fAttr "value")) (opIsi 0)))) (tOr (asBool (f2 (f1 (f1 (gv9 10) (fAttr "value")) (fAttr "name")) (fLst (lC9 (fK9 (.str "a")) (lC9 (fK9 (.str "b")) l09))) (pureOp (cmpMV .NotIn)))) (tLit false)))) (sSeq (sRet (fK9 (.bool false))) sNil) sNil) (sSeq (sRet (fAnd (fA9 S_law_alike (lC9 (gv9 1) (lC9 (gv9 6) (lC9 (gv9 7) l09)))) (fSame 10 4))) sNil)))))))))
noncomputable def LS (form : Int) (few : Int) : List Slot := [.un, .val (.glo 2), .val (.int form), .val (.int few), .val fr, .un, .un, .un, .un, .un, .un]
noncomputable def Fine (F : Ab → Option (Fl × Ab)) (ρ : List Slot) (g s : Int) : Prop := ∃ ρ' b0 b1 g' s' nums', F (ρ, Sg false false g s []) = some (.ret (.bool true), ρ', Sg b0 b1 g' s' nums')
theorem i00 : eqMV (.int 0) (.int 0) = some true := by kernel_rfl
theorem i10 : eqMV (.int 1) (.int 0) = some false := by kernel_rfl
theorem i11 : eqMV (.int 1) (.int 1) = some true := by kernel_rfl
theorem i20 : eqMV (.int 2) (.int 0) = some false := by kernel_rfl
theorem i21 : eqMV (.int 2) (.int 1) = some false := by kernel_rfl
theorem law_f0 (g s : Int) (few : Nat) (hf : few ≤ 5) : Fine lwF (LS 0 few) g s := by
  obtain ⟨d, g1, s1, hd, e1⟩ := next_ok false false g s [.d avd, .d []] 4 ⟨by decide, by decide⟩
  have e1 : S_law_next [.glo 2, .int 4] (Pn false false g s [.d avd, .d []]) = some (.int d, Pn false false g1 s1 [.d avd, .d []]) := e1
  by_cases h0 : 0 < d
  · obtain ⟨c0, g2, s2, o2, e2⟩ := cell_ok false false g1 s1 [.d avd, .d []] [] (by simp) (by simp)
    have e2 : S_law_cell [.glo 2, .lst []] (Pn false false g1 s1 [.d avd, .d []]) = some (c0.enc, Pn false false g2 s2 [.d avd, .d []]) := e2
    obtain ⟨c, g3, s3, oc, hA, hO, e3⟩ := outer_ok false false [.d avd, .d []] c0.enc few hf g2 s2
    obtain ⟨told, n, as, nums', g', s', e4, e5, e6⟩ := form0c_ok false false g3 s3 c c0 oc ⟨hA, hO⟩ o2
    have p1 : decide ((0 : Int) < d) = true := decide_eq_true (by lia)
    unfold Fine
    unfold Sg fr at *
    apply Exists.intro
    refine ⟨false, false, g', s', nums', ?_⟩
    unfold lwF LS fr
    exact qs9 (r_if (qb9 (q29 (qv9 rfl) qc9 (po_eq _ _ _ true i00))) (ic_t (qs9 (r_set (r_fif (qb9 (q29 (qa9 (ql9 (qv9 rfl) (ql9 qc9 q09)) e1) qc9 (po_gt _ _ _ true p1))) (ic_t (qa9 (ql9 (qv9 rfl) (ql9 (r_lst q09 (nle9 rfl)) q09)) e2))) (st5 ..)) (kn9 (qs9 (r_set (qa9 (ql9 (qv9 rfl) (ql9 (qv9 rfl) (ql9 (qv9 rfl) q09))) e3) (st6 ..)) (kn9 (qs9 (r_set (qa9 (ql9 (qv9 rfl) (ql9 (qv9 rfl) q09)) e4) (st7 ..)) (kn9 (qs9 (r_ret (r_fand (q19 (qa9 (ql9 (qv9 rfl) q09) (e5 ..)) (isi_t _ _ _ (by decide))) (fc_t (qa9 (ql9 (qv9 rfl) (ql9 (qv9 rfl) (ql9 (qv9 rfl) q09))) e6)))) k_ret))))))))) k_ret
  · obtain ⟨k, g2, s2, hk, e2⟩ := next_ok false false g1 s1 [.d avd, .d []] 2 ⟨by decide, by decide⟩
    have e2 : S_law_next [.glo 2, .int 2] (Pn false false g1 s1 [.d avd, .d []]) = some (.int k, Pn false false g2 s2 [.d avd, .d []]) := e2
    obtain ⟨c, g3, s3, oc, hA, hO, e3⟩ := outer_ok false false [.d avd, .d []] (litM (6 + k)) few hf g2 s2
    obtain ⟨told, n, as, nums', g', s', e4, e5, e6⟩ := form0l_ok false false g3 s3 c (6 + k) oc ⟨hA, hO⟩
    have p1 : decide ((0 : Int) < d) = false := decide_eq_false (by lia)
    unfold Fine
    unfold Sg fr at *
    apply Exists.intro
    refine ⟨false, false, g', s', nums', ?_⟩
    unfold lwF LS fr
    unfold litM at e3 e4 e6
    exact qs9 (r_if (qb9 (q29 (qv9 rfl) qc9 (po_eq _ _ _ true i00))) (ic_t (qs9 (r_set (r_fif (qb9 (q29 (qa9 (ql9 (qv9 rfl) (ql9 qc9 q09)) e1) qc9 (po_gt _ _ _ false p1))) (ic_f (qa9 (ql9 qc9 (ql9 (q29 qc9 (qa9 (ql9 (qv9 rfl) (ql9 qc9 q09)) e2) (po_add ..)) q09)) (cls1 ..)))) (st5 ..)) (kn9 (qs9 (r_set (qa9 (ql9 (qv9 rfl) (ql9 (qv9 rfl) (ql9 (qv9 rfl) q09))) e3) (st6 ..)) (kn9 (qs9 (r_set (qa9 (ql9 (qv9 rfl) (ql9 (qv9 rfl) q09)) e4) (st7 ..)) (kn9 (qs9 (r_ret (r_fand (q19 (qa9 (ql9 (qv9 rfl) q09) (e5 ..)) (isi_t _ _ _ (by decide))) (fc_t (qa9 (ql9 (qv9 rfl) (ql9 (qv9 rfl) (ql9 (qv9 rfl) q09))) e6)))) k_ret))))))))) k_ret
theorem law_f1 (g s : Int) (few : Nat) (hf : few ≤ 5) : Fine lwF (LS 1 few) g s := by
  obtain ⟨a, g1, s1, oa, e1⟩ := atom_ok false false g s [.d avd, .d []] ["a"] (by simp) (by simp [PL])
  have e1 : S_law_atom [.glo 2, .lst [.str "a"]] (Pn false false g s [.d avd, .d []]) = some (a.enc, Pn false false g1 s1 [.d avd, .d []]) := e1
  obtain ⟨b, g2, s2, ob, e2⟩ := cell_ok false false g1 s1 [.d avd, .d []] ["b"] (by simp) (by simp [PL])
  have e2 : S_law_cell [.glo 2, .lst [.str "b"]] (Pn false false g1 s1 [.d avd, .d []]) = some (b.enc, Pn false false g2 s2 [.d avd, .d []]) := e2
  obtain ⟨cc, g3, s3, occ, e3⟩ := cell_ok false false g2 s2 [.d avd, .d []] ["r", "p"] (by simp) (by simp [PL])
  have e3 : S_law_cell [.glo 2, .lst [.str "r", .str "p"]] (Pn false false g2 s2 [.d avd, .d []]) = some (cc.enc, Pn false false g3 s3 [.d avd, .d []]) := e3
  obtain ⟨c, g4, s4, oc, hA, hO, e4⟩ := outer_ok false false [.d avd, .d []] (letE "p" "r" (.atm a) b.sm cc.sm) few hf g3 s3
  obtain ⟨l, v, nums', g', s', e5, e6⟩ := form1_ok false false g4 s4 c a b cc oc ⟨hA, hO⟩ oa ob occ
  have e4 : S_law_outer [.glo 2, .obj 4 [.lst [.tup [.str "p", a.enc], .tup [.str "r", b.enc]], cc.enc, .bool false], .int few] (Pn false false g3 s3 [.d avd, .d []]) = some (c.enc (letE "p" "r" (.atm a) b.sm cc.sm), Pn false false g4 s4 [.d avd, .d []]) := e4
  unfold Fine
  unfold Sg fr at *
  apply Exists.intro
  refine ⟨false, false, g', s', nums', ?_⟩
  unfold lwF LS fr
  unfold Cs.enc at e4 e5 e6
  exact qs9 (r_if (qb9 (q29 (qv9 rfl) qc9 (po_eq _ _ _ false i10))) (ic_f qn9)) (kn9 (qs9 (r_if (qb9 (q29 (qv9 rfl) qc9 (po_eq _ _ _ true i11))) (ic_t (qs9 (r_set (r_lst (ql9 (r_tup (ql9 qc9 (ql9 (qa9 (ql9 (qv9 rfl) (ql9 (r_lst (ql9 qc9 q09) (nle9 rfl)) q09)) e1) q09)) (nle9 rfl)) (ql9 (r_tup (ql9 qc9 (ql9 (qa9 (ql9 (qv9 rfl) (ql9 (r_lst (ql9 qc9 q09) (nle9 rfl)) q09)) e2) q09)) (nle9 rfl)) q09)) (nle9 rfl)) (st8 ..)) (kn9 (qs9 (r_set (qa9 (ql9 (qv9 rfl) (ql9 (qa9 (ql9 (qv9 rfl) (ql9 (qa9 (ql9 (qv9 rfl) (ql9 (r_lst (ql9 qc9 (ql9 qc9 q09)) (nle9 rfl)) q09)) e3) (ql9 qc9 q09))) (cls4 ..)) (ql9 (qv9 rfl) q09))) e4) (st6 ..)) (kn9 (qs9 (r_set (qa9 (ql9 (qv9 rfl) (ql9 (qv9 rfl) q09)) e5) (st7 ..)) (kn9 (qs9 (r_ret (r_fand (q19 (qv9 rfl) (isi_t _ _ _ (by decide))) (fc_t (r_fand (q19 (q19 (qv9 rfl) (at4_1 ..)) (isi_t _ _ _ (by decide))) (fc_t (qa9 (ql9 (qv9 rfl) (ql9 (qv9 rfl) (ql9 (qv9 rfl) q09))) e6)))))) k_ret))))))))) k_ret))
theorem not_tf : (!true) = false := rfl
theorem not_ft : (!false) = true := rfl
theorem eqb (b : Bool) : eqMV (.bool b) (.bool b) = some (!false) := by cases b <;> kernel_rfl
theorem notin_ab {x : Str} (hx : x ∈ [("a" : Str), "b"]) (G : Gst) : pureOp (cmpMV .NotIn) G (.str x) (.lst [.str "a", .str "b"]) = some (.bool false, G) := by
  rcases List.mem_cons.mp hx with rfl | hx
  · kernel_rfl
  · rw [List.mem_singleton.mp hx]; kernel_rfl
theorem r_same {i j : Nat} {ρ : List Slot} {G : Gst} {l r : List MV} {m : MV} (h : ρ[i]? = some (.val (.obj 6 (.obj 0 l :: r)))) (h' : ρ[j]? = some (.val m)) : fSame i j (ρ, G) = some (.bool true, ρ, G) := by
  unfold fSame; simp only; rw [h, h']; rfl
set_option maxHeartbeats 1000000 in
theorem law_f2 (g s : Int) (few : Nat) (hf : few ≤ 5) : Fine lwF (LS 2 few) g s := by
  obtain ⟨ci, x, g1, s1, oi, hb, ho, h1, hx, e1⟩ := inner_ok false false [.d avd, .d []] g s
  obtain ⟨c, g2, s2, oc, hA, hO, e2⟩ := outer_ok false false [.d avd, .d []] (ci.enc (.obj 0 [.str x])) few hf g1 s1
  obtain ⟨k, g3, s3, hk, e3⟩ := next_ok false false g2 s2 [.d avd, .d []] 3 ⟨by decide, by decide⟩
  have e3 : S_law_next [.glo 2, .int 3] (Pn false false g2 s2 [.d avd, .d []]) = some (.int k, Pn false false g3 s3 [.d avd, .d []]) := e3
  obtain ⟨m, hm, e4⟩ : ∃ m : Int, 0 ≤ m ∧ ∀ G, fIdx G (.lst [.int 0, .int 9, .int 90]) (.int k) = some (.int m, G) := by
    match k, hk with
    | 0, _ => exact ⟨0, by lia, fun G => fIdx_l (k := 0) rfl (by decide)⟩
    | 1, _ => exact ⟨9, by lia, fun G => fIdx_l (k := 1) rfl (by decide)⟩
    | 2, _ => exact ⟨90, by lia, fun G => fIdx_l (k := 2) rfl (by decide)⟩
  obtain ⟨told, b0, b1, nums', g', s', own, alts, oth, kk, e5, hL, hk1, e6, e7⟩ := form2_ok g3 s3 c ci x m hm oc ⟨hA, hO⟩ oi hb ho h1 hx
  have e8 := fun G => within_ok hL (by lia) (by decide) (by decide) G
  have q1 : ∀ G, opLen [.lst (c.alts.map Al.enc)] G = some (.int c.alts.length, G) := fun G => by rw [opLen_ok (by rw [List.length_map]; have hr : room = 100000 := rfl; have := oc.len; lia), List.length_map]
  have q2 : ∀ G a b, pureOp (binMV .Mult) G (.int 4) (.int ((a : Int) + b)) = some (.int (4 * (a + b)), G) := fun G a b => po_mul _ _ _ (.inl (by decide +kernel))
  have q3 := fun G => notin_ab hx G
  have q4 : ∀ G (n : Int), pureOp (cmpMV .Gt) G (.int (2 + 4 * (n + 1))) (.int m) = some (.bool (decide (m < 2 + 4 * (n + 1))), G) := fun G n => po_gt _ _ _ _ rfl
  have q5 : ∀ G b, pureOp (cmpMV .NotEq) G (.bool b) (.bool b) = some (.bool false, G) := fun G b => po_ne _ _ _ false (eqb b)
  unfold Fine
  unfold Sg fr at *
  apply Exists.intro
  refine ⟨b0, b1, g', s', nums', ?_⟩
  unfold lwF LS fr
  unfold Cs.enc at e1 e2 e5 e7
  exact qs9 (r_if (qb9 (q29 (qv9 rfl) qc9 (po_eq _ _ _ false i20))) (ic_f qn9)) (kn9 (qs9 (r_if (qb9 (q29 (qv9 rfl) qc9 (po_eq _ _ _ false i21))) (ic_f qn9)) (kn9 (qs9 (r_set (qa9 (ql9 (qv9 rfl) (ql9 (qa9 (ql9 (qv9 rfl) q09) e1) (ql9 (qv9 rfl) q09))) e2) (st6 ..)) (kn9 (qs9 (r_set (q29 (r_lst (ql9 qc9 (ql9 qc9 (ql9 qc9 q09))) (nle9 rfl)) (qa9 (ql9 (qv9 rfl) (ql9 qc9 q09)) e3) (e4 ..)) (st9 ..)) (kn9 (qs9 (r_set (qa9 (ql9 (qv9 rfl) (ql9 (qv9 rfl) (ql9 (qv9 rfl) q09))) e5) (st7 ..)) (kn9 (qs9 (r_set (qa9 (ql9 (qv9 rfl) q09) (e8 ..)) (st10 ..)) (kn9 (qs9 (r_if (qb9 (q29 (q19 (qv9 rfl) (e6 ..)) (q29 (q29 qc9 (q29 qc9 (q29 (qa9 (ql9 (q19 (qv9 rfl) (at6_2 ..)) q09) (q1 ..)) qc9 (po_add ..)) (q2 ..)) (po_add ..)) (qv9 rfl) (q4 ..)) (q5 ..))) (ic_f qn9)) (kn9 (qs9 (r_if (r_or (r_not (qb9 (q19 (qv9 rfl) (isi_t _ _ _ (by decide)))) not_tf) (oc_f (r_or (r_not (qb9 (q19 (q19 (qv9 rfl) (at6_0 ..)) (isi_t _ _ _ (by decide)))) not_tf) (oc_f (r_or (qb9 (q29 (q19 (q19 (qv9 rfl) (at6_0 ..)) (at0_0 ..)) (r_lst (ql9 qc9 (ql9 qc9 q09)) (nle9 rfl)) (q3 ..))) (oc_f r_tlit)))))) (ic_f qn9)) (kn9 (qs9 (r_ret (r_fand (qa9 (ql9 (qv9 rfl) (ql9 (qv9 rfl) (ql9 (qv9 rfl) q09))) e7) (fc_t (r_same rfl rfl)))) k_ret))))))))))))))))
end Mine
end

section
namespace Mine
open PySem
theorem po_subI (G : Gst) (a b : Int) : pureOp (binMV .Sub) G (.int a) (.int b) = some (.int (a - b), G) := rfl
theorem po_ge (G : Gst) (a b : Int) (c : Bool) (h : decide (b ≤ a) = c) : pureOp (cmpMV .GtE) G (.int a) (.int b) = some (.bool c, G) := by
  subst h; rfl
theorem po_pow (G : Gst) : pureOp (binMV .Pow) G (.int 10) (.int 15) = some (.int 1000000000000000, G) := by kernel_rfl
theorem r_fd2 {k₁ k₂ : Str} {f g : Ab → Option (MV × Ab)} {v w : MV} {s s₁ : Ab} {ρ : List Slot} {G : Gst} (h : f s = some (v, s₁)) (h' : g s₁ = some (w, ρ, G)) : fD2 k₁ k₂ f g s = some (.glo G.length, ρ, G ++ [.d [(k₁, v), (k₂, w)]]) := by
  unfold fD2; rw [h]; simp only; rw [h']
theorem pen_ok (cell : Int) : ∃ g s : Int, finish (F_law_pen ([.un, .val (.int cell), .un], [.t false, .t false])) = some (.glo 2, Pn false false g s []) := by
  have q1 : ∀ G (a : Int), pureOp (binMV .Mult) G (.int 2) (.int a) = some (.int (2 * a), G) := fun G a => po_mul _ _ _ (.inl (by decide +kernel))
  have q2 : ∀ G (a : Int), pureOp (binMV .Mod) G (.int a) (.int 999983) = some (.int (a.fmod 999983), G) := fun G a => po_mod _ _ _ _ (by decide) rfl
  have main : ∀ great : Int, (∃ ρ : List Slot, sSet 2 ((fIf (asBool (f2 (gv9 1) (fK9 (.int 0)) (pureOp (cmpMV .GtE)))) (f2 (fK9 (.int 2)) (gv9 1) (pureOp (binMV .Mult))) (f2 (f1 (fK9 (.int 1)) fNeg) (f2 (fK9 (.int 2)) (gv9 1) (pureOp (binMV .Mult))) (pureOp (binMV .Sub))))) ([.un, .val (.int cell), .un], [.t false, .t false]) = some (.nxt, [.un, .val (.int cell), .val (.int great)], [.t false, .t false])) →
      ∃ g s : Int, finish (F_law_pen ([.un, .val (.int cell), .un], [.t false, .t false])) = some (.glo 2, Pn false false g s []) := by
    rintro great ⟨_, e⟩
    by_cases h : (1000000000000000 : Int) < great
    · refine ⟨great, great.fmod 999983 + 3, r_fin (ρ := [.un, .val (.int cell), .val (.int great)]) ?_⟩
      have p : decide ((1000000000000000 : Int) < great) = true := decide_eq_true h
      show F_law_pen _ = some (.ret (.glo 2), _, [.t false, .t false] ++ [.d [("great", .int great), ("small", .int (great.fmod 999983 + 3))]])
      unfold F_law_pen
      exact qs9 e (kn9 (qs9 (r_ret (r_fd2 (r_fif (qb9 (q29 (qv9 rfl) (q29 qc9 qc9 (po_pow ..)) (po_gt _ _ _ true p))) (ic_t (qv9 rfl))) (q29 (q29 (qv9 rfl) qc9 (q2 ..)) qc9 (po_add ..)))) rfl))
    · refine ⟨0, great.fmod 999983 + 3, r_fin (ρ := [.un, .val (.int cell), .val (.int great)]) ?_⟩
      have p : decide ((1000000000000000 : Int) < great) = false := decide_eq_false h
      show F_law_pen _ = some (.ret (.glo 2), _, [.t false, .t false] ++ [.d [("great", .int 0), ("small", .int (great.fmod 999983 + 3))]])
      unfold F_law_pen
      exact qs9 e (kn9 (qs9 (r_ret (r_fd2 (r_fif (qb9 (q29 (qv9 rfl) (q29 qc9 qc9 (po_pow ..)) (po_gt _ _ _ false p))) (ic_f qc9)) (q29 (q29 (qv9 rfl) qc9 (q2 ..)) qc9 (po_add ..)))) rfl))
  by_cases h : 0 ≤ cell
  · have p : decide (0 ≤ cell) = true := decide_eq_true h
    refine main (2 * cell) ⟨[], ?_⟩
    exact r_set (r_fif (qb9 (q29 (qv9 rfl) qc9 (po_ge _ _ _ true p))) (ic_t (q29 qc9 (qv9 rfl) (q1 ..)))) (st2 ..)
  · have p : decide (0 ≤ cell) = false := decide_eq_false h
    refine main (-1 - 2 * cell) ⟨[], ?_⟩
    exact r_set (r_fif (qb9 (q29 (qv9 rfl) qc9 (po_ge _ _ _ false p))) (ic_f (q29 (q19 qc9 (fNeg1 ..)) (q29 qc9 (qv9 rfl) (q1 ..)) (po_subI ..)))) (st2 ..)
theorem fresh_made (g s : Int) : S_Fresh [.lst [.str "p", .str "q", .str "r", .str "s", .str "m", .str "a", .str "b"]] (Pn false false g s []) = some (.obj 9 [.glo 3, .glo 4], Sg false false g s []) := by kernel_rfl
theorem law_of {cell : Int} {g s : Int} {few : Nat} {form : Int} {G₁ : Gst} (h1 : finish (F_law_pen ([.un, .val (.int cell), .un], [.t false, .t false])) = some (.glo 2, G₁)) (hf : Fine lwF (LS form few) g s)
    (hu : sUnp ((fTup (lC9 (f2 (fLst (lC9 (fK9 (.int 0)) (lC9 (fK9 (.int 0)) (lC9 (fK9 (.int 0)) (lC9 (fK9 (.int 1)) (lC9 (fK9 (.int 2)) l09)))))) (fA9 S_law_next (lC9 (gv9 1) (lC9 (fK9 (.int 5)) l09))) fIdx) (lC9 (f2 (fK9 (.int 1)) (fA9 S_law_next (lC9 (gv9 1) (lC9 (fK9 (.int 5)) l09))) (pureOp (binMV .Add))) (lC9 (fA9 S_Fresh (lC9 (fLst (lC9 (fK9 (.str "p")) (lC9 (fK9 (.str "q")) (lC9 (fK9 (.str "r")) (lC9 (fK9 (.str "s")) (lC9 (fK9 (.str "m")) (lC9 (fK9 (.str "a")) (lC9 (fK9 (.str "b")) l09)))))))) l09)) l09))))) (tRev [4, 3, 2]) ([.un, .val (.glo 2), .un, .un, .un, .un, .un, .un, .un, .un, .un], G₁) = some (.nxt, LS form few, Sg false false g s [])) :
    ∃ (G₁ G' : Gst) (ρ : List Slot) (b0 b1 : Bool), finish (F_law_pen ([.un, .val (.int cell), .un], [.t false, .t false])) = some (.glo 2, G₁) ∧
      F_law ([.un, .val (.glo 2), .un, .un, .un, .un, .un, .un, .un, .un, .un], G₁) = some (.ret (.bool true), ρ, G') ∧ G'[0]? = some (.t b0) ∧ G'[1]? = some (.t b1) := by
  obtain ⟨ρ', b0, b1, g', s', nums', e⟩ := hf
  refine ⟨G₁, Sg b0 b1 g' s' nums', ρ', b0, b1, h1, ?_, rfl, rfl⟩
  unfold F_law
  exact qs9 hu e
theorem plain : Plain := fun cell => by
  obtain ⟨g, s, e0⟩ := pen_ok cell
  obtain ⟨k, g1, s1, hk, e1⟩ := next_ok false false g s [] 5 ⟨by decide, by decide⟩
  have e1 : S_law_next [.glo 2, .int 5] (Pn false false g s []) = some (.int k, Pn false false g1 s1 []) := e1
  obtain ⟨k2, g2, s2, hk2, e2⟩ := next_ok false false g1 s1 [] 5 ⟨by decide, by decide⟩
  have e2 : S_law_next [.glo 2, .int 5] (Pn false false g1 s1 []) = some (.int k2, Pn false false g2 s2 []) := e2
  have e3 := fresh_made g2 s2
  have e4 : (1 : Int) + (k2 : Int) = ((1 + k2 : Nat) : Int) := by lia
  obtain ⟨form, hf, e5⟩ : ∃ form : Int, Fine lwF (LS form (1 + k2 : Nat)) g2 s2 ∧ ∀ G, fIdx G (.lst [.int 0, .int 0, .int 0, .int 1, .int 2]) (.int k) = some (.int form, G) := by
    match k, hk with
    | 0, _ => exact ⟨0, law_f0 g2 s2 (1 + k2) (by lia), fun G => fIdx_l (k := 0) rfl (by decide)⟩
    | 1, _ => exact ⟨0, law_f0 g2 s2 (1 + k2) (by lia), fun G => fIdx_l (k := 1) rfl (by decide)⟩
    | 2, _ => exact ⟨0, law_f0 g2 s2 (1 + k2) (by lia), fun G => fIdx_l (k := 2) rfl (by decide)⟩
    | 3, _ => exact ⟨1, law_f1 g2 s2 (1 + k2) (by lia), fun G => fIdx_l (k := 3) rfl (by decide)⟩
    | 4, _ => exact ⟨2, law_f2 g2 s2 (1 + k2) (by lia), fun G => fIdx_l (k := 4) rfl (by decide)⟩
  refine law_of (few := 1 + k2) (form := form) e0 hf ?_
  unfold LS
  rw [← e4]
  have e6 : ∀ (f w : MV), tRev [4, 3, 2] (.tup [f, w, fr]) [.un, .val (.glo 2), .un, .un, .un, .un, .un, .un, .un, .un, .un] = some [.un, .val (.glo 2), .val f, .val w, .val fr, .un, .un, .un, .un, .un, .un] := fun f w => rfl
  unfold fr at e6 ⊢
  exact r_unp (r_tup (ql9 (q29 (r_lst (ql9 qc9 (ql9 qc9 (ql9 qc9 (ql9 qc9 (ql9 qc9 q09))))) (nle9 rfl)) (qa9 (ql9 (qv9 rfl) (ql9 qc9 q09)) e1) (e5 ..)) (ql9 (q29 qc9 (qa9 (ql9 (qv9 rfl) (ql9 qc9 q09)) e2) (po_add ..)) (ql9 (qa9 (ql9 (r_lst (ql9 qc9 (ql9 qc9 (ql9 qc9 (ql9 qc9 (ql9 qc9 (ql9 qc9 (ql9 qc9 q09))))))) (nle9 rfl)) q09) e3) q09))) (nle9 rfl)) (e6 ..)
end Mine
end

open PySem PySem.W PyProof.Rows PySem.Calls Mine
set_option maxRecDepth 100000 in
set_option maxHeartbeats 8000000 in
theorem PySem.Challenge.cw_og0016_01_holds : PySem.Challenge.rw_og0016_01.Holds := by
  w_on
  refine holds_law said0 fun said => ?_
  refine holds_open (r := OpenLaw.row PySem.Challenge.rw_og0016_01) (q := qV) (loose := loose0) (Xt := Xt0) (XP := XL qV []) (Yf := (kmHook kP kAs kAs_eq [432, 439]).obs) (Ya := (kmHook kP kAs kAs_eq [432, 439]).val) (YP := (kmHook kP kAs kAs_eq [432, 439]).says) (N := 4100) left0 (kmHook kP kAs kAs_eq [432, 439]).of (kmHook kP kAs kAs_eq [432, 439]).keeps (fun s e => xl_of s (Bool.and_eq_true_iff.mp e).1) XL.keeps (by rfl) (by rfl) (by rfl) (fun s e => recFacts_of (Bool.and_eq_true_iff.mp e).2) (by rfl) said (by decide +kernel) ⟨rfl, rfl, rfl, rfl, rfl, by decide +kernel⟩ ?hw ?hc
  case hw => exact ⟨[.list []], by decide +kernel, by decide +kernel⟩
  intro w s₀ s₁ mg mb G Y fa o pm cd doc dV kV ho hd hcd hD hmg hg args vals as hpre hlay hrd hwl hlo
  have KX := km_in_of Y
  km_tabs Y
  have X := (Ground.X G).1
  have V := (Ground.X G).2
  refine Ground.open G ?_
  intro T B D TE TW
  try (refine guard_noD D (by decide +kernel) ?_; clear D)
  have hT9 : TabsAt ([(436, 432), (441, 439)] : List (Addr × Addr)) _ := List.forall_mem_cons.mpr ⟨⟨codeHd_of_K (c := 436) (P := 432) KX (by kernel_rfl), hT8 432 (by k_mem)⟩, List.forall_mem_cons.mpr ⟨⟨codeHd_of_K (c := 441) (P := 439) KX (by kernel_rfl), hT8 439 (by k_mem)⟩, fun _ h => nomatch h⟩⟩
  clear hmg
  wrow_args hpre hlay hrd hwl hlo
  all_goals (
    first | refine callC_kw (enter_call ?_) | refine enter_call ?_
    w_top on
    kn_posts
    w_call any ho hd hcd hD T F
    clear hd
    kn_ghosts F T
    k_drop
    skip)
  have T0 := ‹Top Mine.qV _ _ _ _ _›
  obtain ⟨oS, hS⟩ := Mine.top_sys T0 (by decide +kernel)
  have X := ‹Frag.In (Mine.kP _) (ghostOf _ _)›
  have T' := ‹Top topProg _ _ _ _ (ghostOf _ _)›
  have F' := ‹Fr (ghostOf _ _) _ _ _›
  have N' := ‹News (ghostOf _ _) _ _ _›
  have hL := ‹Heap.IsList (ghostOf _ _) _ _›
  have hI := ‹IntsAre _ _›
  have cd0 := ‹CodeHd (ghostOf _ _) (436, 432).1 (436, 432).2›
  have cd1 := ‹CodeHd (ghostOf _ _) (441, 439).1 (441, 439).2›
  have hg := ‹Shared.gens _ = #[]›
  have sys := ghost_ne (tabs := [(436, 432), (441, 439)]) hS (by decide)
  have G := T'.g
  have B := T'.builtins
  have P0 := (N' (432, tabObj #[]) (.head _)).2.2
  have P1 := (N' (439, tabObj #[]) (.tail _ (.head _))).2.2
  refine Mine.law_entry (K := Mine.kP _) (Mine.mk_ok X T' ⟨oS, sys⟩ (by kernel_rfl) (by kernel_rfl) (by kernel_rfl) (by kernel_rfl)) ?x9 Mine.plain F' rfl hL hI N' rfl rfl rfl rfl ?r9 rfl ?k9
  case r9 => exact Mine.room0 _
  case x9 =>
    exact
      { no_len := mg_none_of X G (by kernel_rfl),
        b_len := (B _ (by decide)).trans (by boot_by_name),
        no_int := mg_none_of X G (by kernel_rfl),
        b_int := (B _ (by decide)).trans (by boot_by_name),
        no_str := mg_none_of X G (by kernel_rfl),
        b_str := (B _ (by decide)).trans (by boot_by_name),
        no_isinstance := mg_none_of X G (by kernel_rfl),
        b_isinstance := (B _ (by decide)).trans (by boot_by_name),
        no_range := mg_none_of X G (by kernel_rfl),
        b_range := (B _ (by decide)).trans (by boot_by_name),
        no_reversed := mg_none_of X G (by kernel_rfl),
        b_reversed := (B _ (by decide)).trans (by boot_by_name),
        no_dict := mg_none_of X G (by kernel_rfl),
        b_dict := (B _ (by decide)).trans (by boot_by_name),
        mg_Var := mg_of X G (by kernel_rfl),
        kp_Var := by kernel_rfl,
        cls_Var := ⟨by decide, by kernel_rfl, by kernel_rfl, by kernel_rfl, by kernel_rfl, by kernel_rfl, all_of (by kernel_rfl), by kernel_rfl, fnAt_of X (by kernel_rfl) (by kernel_rfl) bt_Var_init, ⟨rfl, rfl, rfl, by decide +kernel, by decide +kernel, by decide⟩, (.cons .nil), by decide⟩,
        mg_Lit := mg_of X G (by kernel_rfl),
        kp_Lit := by kernel_rfl,
        cls_Lit := ⟨by decide, by kernel_rfl, by kernel_rfl, by kernel_rfl, by kernel_rfl, by kernel_rfl, all_of (by kernel_rfl), by kernel_rfl, fnAt_of X (by kernel_rfl) (by kernel_rfl) bt_Lit_init, ⟨rfl, rfl, rfl, by decide +kernel, by decide +kernel, by decide⟩, (.cons (.cons .nil)), by decide⟩,
        mg_App := mg_of X G (by kernel_rfl),
        kp_App := by kernel_rfl,
        cls_App := ⟨by decide, by kernel_rfl, by kernel_rfl, by kernel_rfl, by kernel_rfl, by kernel_rfl, all_of (by kernel_rfl), by kernel_rfl, fnAt_of X (by kernel_rfl) (by kernel_rfl) bt_App_init, ⟨rfl, rfl, rfl, by decide +kernel, by decide +kernel, by decide⟩, (.cons (.cons .nil)), by decide⟩,
        mg_Lam := mg_of X G (by kernel_rfl),
        kp_Lam := by kernel_rfl,
        cls_Lam := ⟨by decide, by kernel_rfl, by kernel_rfl, by kernel_rfl, by kernel_rfl, by kernel_rfl, all_of (by kernel_rfl), by kernel_rfl, fnAt_of X (by kernel_rfl) (by kernel_rfl) bt_Lam_init, ⟨rfl, rfl, rfl, by decide +kernel, by decide +kernel, by decide⟩, (.cons (.cons .nil)), by decide⟩,
        mg_Let := mg_of X G (by kernel_rfl),
        kp_Let := by kernel_rfl,
        cls_Let := ⟨by decide, by kernel_rfl, by kernel_rfl, by kernel_rfl, by kernel_rfl, by kernel_rfl, all_of (by kernel_rfl), by kernel_rfl, fnAt_of X (by kernel_rfl) (by kernel_rfl) bt_Let_init, ⟨rfl, rfl, rfl, by decide +kernel, by decide +kernel, by decide⟩, (.cons (.cons (.cons .nil))), by decide⟩,
        mg_Alt := mg_of X G (by kernel_rfl),
        kp_Alt := by kernel_rfl,
        cls_Alt := ⟨by decide, by kernel_rfl, by kernel_rfl, by kernel_rfl, by kernel_rfl, by kernel_rfl, all_of (by kernel_rfl), by kernel_rfl, fnAt_of X (by kernel_rfl) (by kernel_rfl) bt_Alt_init, ⟨rfl, rfl, rfl, by decide +kernel, by decide +kernel, by decide⟩, (.cons (.cons (.cons .nil))), by decide⟩,
        mg_Case := mg_of X G (by kernel_rfl),
        kp_Case := by kernel_rfl,
        cls_Case := ⟨by decide, by kernel_rfl, by kernel_rfl, by kernel_rfl, by kernel_rfl, by kernel_rfl, all_of (by kernel_rfl), by kernel_rfl, fnAt_of X (by kernel_rfl) (by kernel_rfl) bt_Case_init, ⟨rfl, rfl, rfl, by decide +kernel, by decide +kernel, by decide⟩, (.cons (.cons (.cons (.cons .nil)))), by decide⟩,
        mg_Con := mg_of X G (by kernel_rfl),
        kp_Con := by kernel_rfl,
        cls_Con := ⟨by decide, by kernel_rfl, by kernel_rfl, by kernel_rfl, by kernel_rfl, by kernel_rfl, all_of (by kernel_rfl), by kernel_rfl, fnAt_of X (by kernel_rfl) (by kernel_rfl) bt_Con_init, ⟨rfl, rfl, rfl, by decide +kernel, by decide +kernel, by decide⟩, (.cons (.cons .nil)), by decide⟩,
        mg_Renamer := mg_of X G (by kernel_rfl),
        kp_Renamer := by kernel_rfl,
        cls_Renamer := ⟨by decide, by kernel_rfl, by kernel_rfl, by kernel_rfl, by kernel_rfl, by kernel_rfl, all_of (by kernel_rfl), by kernel_rfl, fnAt_of X (by kernel_rfl) (by kernel_rfl) bt_Renamer_init, ⟨rfl, rfl, rfl, by decide +kernel, by decide +kernel, by decide⟩, (.cons (.cons .nil)), by decide⟩,
        mg_Fresh := mg_of X G (by kernel_rfl),
        kp_Fresh := by kernel_rfl,
        fn_Var_groups := fnAt_of X (by kernel_rfl) (by kernel_rfl) bt_Var_groups,
        m_Var_groups := ⟨by kernel_rfl, by kernel_rfl, by kernel_rfl, by kernel_rfl⟩,
        fn_Var_parts := fnAt_of X (by kernel_rfl) (by kernel_rfl) bt_Var_parts,
        m_Var_parts := ⟨by kernel_rfl, by kernel_rfl, by kernel_rfl, by kernel_rfl⟩,
        fn_Lit_groups := fnAt_of X (by kernel_rfl) (by kernel_rfl) bt_Lit_groups,
        m_Lit_groups := ⟨by kernel_rfl, by kernel_rfl, by kernel_rfl, by kernel_rfl⟩,
        fn_Lit_parts := fnAt_of X (by kernel_rfl) (by kernel_rfl) bt_Lit_parts,
        m_Lit_parts := ⟨by kernel_rfl, by kernel_rfl, by kernel_rfl, by kernel_rfl⟩,
        fn_Let_groups := fnAt_of X (by kernel_rfl) (by kernel_rfl) bt_Let_groups,
        m_Let_groups := ⟨by kernel_rfl, by kernel_rfl, by kernel_rfl, by kernel_rfl⟩,
        fn_Let_parts := fnAt_of X (by kernel_rfl) (by kernel_rfl) bt_Let_parts,
        m_Let_parts := ⟨by kernel_rfl, by kernel_rfl, by kernel_rfl, by kernel_rfl⟩,
        fn_Let_rebuilt := fnAt_of X (by kernel_rfl) (by kernel_rfl) bt_Let_rebuilt,
        m_Let_rebuilt := ⟨by kernel_rfl, by kernel_rfl, by kernel_rfl, by kernel_rfl⟩,
        fn_Case_groups := fnAt_of X (by kernel_rfl) (by kernel_rfl) bt_Case_groups,
        m_Case_groups := ⟨by kernel_rfl, by kernel_rfl, by kernel_rfl, by kernel_rfl⟩,
        fn_Case_parts := fnAt_of X (by kernel_rfl) (by kernel_rfl) bt_Case_parts,
        m_Case_parts := ⟨by kernel_rfl, by kernel_rfl, by kernel_rfl, by kernel_rfl⟩,
        fn_Case_rebuilt := fnAt_of X (by kernel_rfl) (by kernel_rfl) bt_Case_rebuilt,
        m_Case_rebuilt := ⟨by kernel_rfl, by kernel_rfl, by kernel_rfl, by kernel_rfl⟩,
        fn_Con_groups := fnAt_of X (by kernel_rfl) (by kernel_rfl) bt_Con_groups,
        m_Con_groups := ⟨by kernel_rfl, by kernel_rfl, by kernel_rfl, by kernel_rfl⟩,
        fn_Con_parts := fnAt_of X (by kernel_rfl) (by kernel_rfl) bt_Con_parts,
        m_Con_parts := ⟨by kernel_rfl, by kernel_rfl, by kernel_rfl, by kernel_rfl⟩,
        fn_Con_rebuilt := fnAt_of X (by kernel_rfl) (by kernel_rfl) bt_Con_rebuilt,
        m_Con_rebuilt := ⟨by kernel_rfl, by kernel_rfl, by kernel_rfl, by kernel_rfl⟩,
        fn_Renamer_new_groups := fnAt_of X (by kernel_rfl) (by kernel_rfl) bt_Renamer_new_groups,
        m_Renamer_new_groups := ⟨by kernel_rfl, by kernel_rfl, by kernel_rfl, by kernel_rfl⟩,
        fn_Renamer_inner := fnAt_of X (by kernel_rfl) (by kernel_rfl) bt_Renamer_inner,
        m_Renamer_inner := ⟨by kernel_rfl, by kernel_rfl, by kernel_rfl, by kernel_rfl⟩,
        fn_Renamer_leaf := fnAt_of X (by kernel_rfl) (by kernel_rfl) bt_Renamer_leaf,
        m_Renamer_leaf := ⟨by kernel_rfl, by kernel_rfl, by kernel_rfl, by kernel_rfl⟩,
        fn_Renamer_run := fnAt_of X (by kernel_rfl) (by kernel_rfl) bt_Renamer_run,
        m_Renamer_run := ⟨by kernel_rfl, by kernel_rfl, by kernel_rfl, by kernel_rfl⟩,
        fn_renamed := fnAt_of X (by kernel_rfl) (by kernel_rfl) bt_renamed,
        mg_renamed := mg_of X G (by kernel_rfl),
        kp_renamed := by kernel_rfl,
        fn_size_of := fnAt_of X (by kernel_rfl) (by kernel_rfl) bt_size_of,
        mg_size_of := mg_of X G (by kernel_rfl),
        kp_size_of := by kernel_rfl,
        fn_fields_bound := fnAt_of X (by kernel_rfl) (by kernel_rfl) bt_fields_bound,
        mg_fields_bound := mg_of X G (by kernel_rfl),
        kp_fields_bound := by kernel_rfl,
        fn_with_lets := fnAt_of X (by kernel_rfl) (by kernel_rfl) bt_with_lets,
        mg_with_lets := mg_of X G (by kernel_rfl),
        kp_with_lets := by kernel_rfl,
        fn_way_of_con := fnAt_of X (by kernel_rfl) (by kernel_rfl) bt_way_of_con,
        mg_way_of_con := mg_of X G (by kernel_rfl),
        kp_way_of_con := by kernel_rfl,
        fn_known_con := fnAt_of X (by kernel_rfl) (by kernel_rfl) bt_known_con,
        mg_known_con := mg_of X G (by kernel_rfl),
        kp_known_con := by kernel_rfl,
        fn_known_lit := fnAt_of X (by kernel_rfl) (by kernel_rfl) bt_known_lit,
        mg_known_lit := mg_of X G (by kernel_rfl),
        kp_known_lit := by kernel_rfl,
        fn_known_case := fnAt_of X (by kernel_rfl) (by kernel_rfl) bt_known_case,
        mg_known_case := mg_of X G (by kernel_rfl),
        kp_known_case := by kernel_rfl,
        fn_case_of_let := fnAt_of X (by kernel_rfl) (by kernel_rfl) bt_case_of_let,
        mg_case_of_let := mg_of X G (by kernel_rfl),
        kp_case_of_let := by kernel_rfl,
        fn_outer_case := fnAt_of X (by kernel_rfl) (by kernel_rfl) bt_outer_case,
        mg_outer_case := mg_of X G (by kernel_rfl),
        kp_outer_case := by kernel_rfl,
        fn_joined := fnAt_ofC X (by kernel_rfl) (by kernel_rfl) (by kernel_rfl) bt_joined,
        mg_joined := mg_of X G (by kernel_rfl),
        kp_joined := by kernel_rfl,
        fn_case_of_case := fnAt_ofC X (by kernel_rfl) (by kernel_rfl) (by kernel_rfl) bt_case_of_case,
        mg_case_of_case := mg_of X G (by kernel_rfl),
        kp_case_of_case := by kernel_rfl,
        fn_base_of := fnAt_of X (by kernel_rfl) (by kernel_rfl) bt_base_of,
        mg_base_of := mg_of X G (by kernel_rfl),
        kp_base_of := by kernel_rfl,
        fn_Fresh_avoid := fnAt_of X (by kernel_rfl) (by kernel_rfl) bt_Fresh_avoid,
        m_Fresh_avoid := ⟨by kernel_rfl, by kernel_rfl, by kernel_rfl, by kernel_rfl⟩,
        fn_Fresh_next := fnAt_of X (by kernel_rfl) (by kernel_rfl) bt_Fresh_next,
        m_Fresh_next := ⟨by kernel_rfl, by kernel_rfl, by kernel_rfl, by kernel_rfl⟩,
        fn_law_next := fnAt_of X (by kernel_rfl) (by kernel_rfl) bt_law_next,
        mg_law_next := mg_of X G (by kernel_rfl),
        kp_law_next := by kernel_rfl,
        fn_law_pen := fnAt_of X (by kernel_rfl) (by kernel_rfl) bt_law_pen,
        mg_law_pen := mg_of X G (by kernel_rfl),
        kp_law_pen := by kernel_rfl,
        fn_law_atom := fnAt_of X (by kernel_rfl) (by kernel_rfl) bt_law_atom,
        mg_law_atom := mg_of X G (by kernel_rfl),
        kp_law_atom := by kernel_rfl,
        fn_law_cell := fnAt_of X (by kernel_rfl) (by kernel_rfl) bt_law_cell,
        mg_law_cell := mg_of X G (by kernel_rfl),
        kp_law_cell := by kernel_rfl,
        fn_law_end := fnAt_of X (by kernel_rfl) (by kernel_rfl) bt_law_end,
        mg_law_end := mg_of X G (by kernel_rfl),
        kp_law_end := by kernel_rfl,
        fn_law_outer := fnAt_of X (by kernel_rfl) (by kernel_rfl) bt_law_outer,
        mg_law_outer := mg_of X G (by kernel_rfl),
        kp_law_outer := by kernel_rfl,
        fn_law_inner := fnAt_of X (by kernel_rfl) (by kernel_rfl) bt_law_inner,
        mg_law_inner := mg_of X G (by kernel_rfl),
        kp_law_inner := by kernel_rfl,
        fn_law_run := fnAt_of X (by kernel_rfl) (by kernel_rfl) bt_law_run,
        mg_law_run := mg_of X G (by kernel_rfl),
        kp_law_run := by kernel_rfl,
        fn_law_within_lets := fnAt_of X (by kernel_rfl) (by kernel_rfl) bt_law_within_lets,
        mg_law_within_lets := mg_of X G (by kernel_rfl),
        kp_law_within_lets := by kernel_rfl,
        fn_law_alike := fnAt_of X (by kernel_rfl) (by kernel_rfl) bt_law_alike,
        mg_law_alike := mg_of X G (by kernel_rfl),
        kp_law_alike := by kernel_rfl,
        mg_law_sizes := mg_of X G (by kernel_rfl),
        sizes := sizes_of X (by kernel_rfl),
        isClo0 := fun _ _ _ _ => Iff.rfl,
        isClo1 := fun _ _ _ _ => Iff.rfl,
        isFn := isFn_of,
        nest0 := Mine.mk_nest T' cd0 (by decide) P0,
        nest1 := Mine.mk_nest T' cd1 (by decide) P1,
        fn_Fresh_init := fnAt_ofD X (T := 458) (by kernel_rfl) (by kernel_rfl) (by kernel_rfl),
        mk_Fresh := ⟨by kernel_rfl, by kernel_rfl, by kernel_rfl, by kernel_rfl, by kernel_rfl, all_of (by kernel_rfl), by kernel_rfl⟩ }
  case k9 =>
    intro h' t' keep gr
    refine ⟨⟨.inl ⟨_, _, [], rfl, fun _ => rfl, .bool true, by first | wrow_post | rfl | kernel_rfl | decide +kernel, fun _ => ⟨.nil, fun a ha => nomatch ha⟩⟩, keep, rfl, hg⟩, gr⟩
