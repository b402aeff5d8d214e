import PyProof.Rows.All
import Wide.All
import OpenK.AllK
import Wide.FinOn
import Lean
import PySem.Challenge.RW_no0414_01
set_option Elab.async false
set_option maxRecDepth 100000
set_option maxHeartbeats 8000000
section
open PySem PySem.W PyProof.Rows PySem.Calls PySem.Spec
set_option maxRecDepth 100000
set_option autoImplicit false
namespace Lw

noncomputable abbrev Led := List (Addr × Obj)

inductive V where
  | none
  | bool (b : Bool)
  | int (i : Int)
  | text (n : Nat)
  | bytes (b : List UInt8)
  | tup (vs : List V)
  | lst (vs : List V)
  | obj (C : Addr) (fs : List (Str × V))
  | rng (a b c : Int)
  | ref (a : Addr)
  | raw (v : Value)

noncomputable def rngObj (a b c : Int) (t u v : Tok) : Obj := { cls := .type "range", data := .fields #[.int a t, .int b u, .int c v] }
mutual
inductive Rep (fz : Led) : V → Value → Prop where
  | none : Rep fz .none .none
  | bool (b : Bool) : Rep fz (.bool b) (.bool b)
  | int (i : Int) (t : Tok) : Rep fz (.int i) (.int i t)
  | text {n : Nat} (s : Str) (t : Tok) : s.length ≤ n → Rep fz (.text n) (.str s t)
  | bytes (b : List UInt8) (t : Tok) : Rep fz (.bytes b) (.bytes b.toArray t)
  | tup {vs : List V} {ws : List Value} {a : Addr} : (a, ({ cls := .type "tuple", data := .seq ws.toArray } : Obj)) ∈ fz → Reps fz vs ws → Rep fz (.tup vs) (.ref a)
  | lst {vs : List V} {ws : List Value} {a : Addr} {n : Nat} : (a, listOf ws.toArray n) ∈ fz → Reps fz vs ws → Rep fz (.lst vs) (.ref a)
  | obj {C a d : Addr} {fs : List (Str × V)} {es : List DictEntry} {n : Nat} : (a, instObj C d) ∈ fz → (d, dictOf es n) ∈ fz → RepFs fz fs es → Rep fz (.obj C fs) (.ref a)
  | rng {a b c : Int} {t u v : Tok} {r : Addr} : (r, rngObj a b c t u v) ∈ fz → Rep fz (.rng a b c) (.ref r)
  | ref (a : Addr) : Rep fz (.ref a) (.ref a)
  | raw (v : Value) : Rep fz (.raw v) v
inductive Reps (fz : Led) : List V → List Value → Prop where
  | nil : Reps fz [] []
  | cons {v : V} {w : Value} {vs : List V} {ws : List Value} : Rep fz v w → Reps fz vs ws → Reps fz (v :: vs) (w :: ws)
inductive RepFs (fz : Led) : List (Str × V) → List DictEntry → Prop where
  | nil : RepFs fz [] []
  | cons {x : Str} {v : V} {w : Value} {hs : Int} {t : Tok} {fs : List (Str × V)} {es : List DictEntry} : Rep fz v w → RepFs fz fs es → RepFs fz ((x, v) :: fs) (⟨hs, .str x t, w⟩ :: es)
end

theorem Rep.mono {fz fz' : Led} (hs : ∀ p ∈ fz, p ∈ fz') {v : V} {w : Value} (h : Rep fz v w) : Rep fz' v w :=
  Rep.rec (motive_1 := fun v w _ => Rep fz' v w) (motive_2 := fun v w _ => Reps fz' v w) (motive_3 := fun v w _ => RepFs fz' v w) .none .bool .int .text .bytes (fun m _ r => .tup (hs _ m) r) (fun m _ r => .lst (hs _ m) r)
    (fun m m2 _ r => .obj (hs _ m) (hs _ m2) r) (fun m => .rng (hs _ m)) .ref .raw .nil (fun _ _ => .cons) .nil (fun _ _ => .cons) h
theorem Reps.ind {fz : Led} {P : List V → List Value → Prop} (n : P [] []) (c : ∀ {v w vs ws}, Rep fz v w → Reps fz vs ws → P vs ws → P (v :: vs) (w :: ws)) {vs : List V} {ws : List Value} (h : Reps fz vs ws) : P vs ws :=
  Reps.rec (motive_1 := fun _ _ _ => True) (motive_2 := fun v w _ => P v w) (motive_3 := fun _ _ _ => True) trivial (fun _ => trivial) (fun _ _ => trivial) (fun _ _ _ => trivial) (fun _ _ => trivial) (fun _ _ _ => trivial) (fun _ _ _ => trivial)
    (fun _ _ _ _ => trivial) (fun _ => trivial) (fun _ => trivial) (fun _ => trivial) n (fun a b _ => c a b) trivial (fun _ _ _ _ => trivial) h
theorem RepFs.ind {fz : Led} {P : List (Str × V) → List DictEntry → Prop} (n : P [] []) (c : ∀ {x v w hs t fs es}, Rep fz v w → RepFs fz fs es → P fs es → P ((x, v) :: fs) (⟨hs, .str x t, w⟩ :: es)) {fs : List (Str × V)} {es : List DictEntry} (h : RepFs fz fs es) : P fs es :=
  RepFs.rec (motive_1 := fun _ _ _ => True) (motive_2 := fun _ _ _ => True) (motive_3 := fun v w _ => P v w) trivial (fun _ => trivial) (fun _ _ => trivial) (fun _ _ _ => trivial) (fun _ _ => trivial) (fun _ _ _ => trivial) (fun _ _ _ => trivial)
    (fun _ _ _ _ => trivial) (fun _ => trivial) (fun _ => trivial) (fun _ => trivial) trivial (fun _ _ _ _ => trivial) n (fun a b _ => c a b) h
theorem Reps.mono {fz fz' : Led} (hs : ∀ p ∈ fz, p ∈ fz') {v : List V} {w : List Value} (h : Reps fz v w) : Reps fz' v w := h.ind .nil fun a _ => .cons (a.mono hs)
theorem RepFs.mono {fz fz' : Led} (hs : ∀ p ∈ fz, p ∈ fz') {v : List (Str × V)} {w : List DictEntry} (h : RepFs fz v w) : RepFs fz' v w := h.ind .nil fun a _ => .cons (a.mono hs)

/-- what a value is, told by what stands for it -/
noncomputable def RepI (fz : Led) (w : Value) : V → Prop
  | .none => w = .none
  | .bool b => w = .bool b
  | .int i => ∃ t, w = .int i t
  | .text n => ∃ s t, s.length ≤ n ∧ w = .str s t
  | .bytes b => ∃ t, w = .bytes b.toArray t
  | .tup vs => ∃ ws a, (a, ({ cls := .type "tuple", data := .seq ws.toArray } : Obj)) ∈ fz ∧ Reps fz vs ws ∧ w = .ref a
  | .lst vs => ∃ ws a n, (a, listOf ws.toArray n) ∈ fz ∧ Reps fz vs ws ∧ w = .ref a
  | .obj C fs => ∃ a d es n, (a, instObj C d) ∈ fz ∧ (d, dictOf es n) ∈ fz ∧ RepFs fz fs es ∧ w = .ref a
  | .rng a b c => ∃ t u v r, (r, rngObj a b c t u v) ∈ fz ∧ w = .ref r
  | .ref a => w = .ref a
  | .raw v => w = v
theorem Rep.inv {fz : Led} {v : V} {w : Value} (h : Rep fz v w) : RepI fz w v :=
  Rep.casesOn (motive_1 := fun v w _ => RepI fz w v) h rfl (fun _ => rfl) (fun _ t => ⟨t, rfl⟩) (fun s t l => ⟨s, t, l, rfl⟩) (fun _ t => ⟨t, rfl⟩) (fun m r => ⟨_, _, m, r, rfl⟩) (fun m r => ⟨_, _, _, m, r, rfl⟩)
    (fun m m2 r => ⟨_, _, _, _, m, m2, r, rfl⟩) (fun m => ⟨_, _, _, _, m, rfl⟩) (fun _ => rfl) (fun _ => rfl)
noncomputable def RepsI (fz : Led) (ws : List Value) : List V → Prop
  | [] => ws = []
  | v :: vs => ∃ w us, Rep fz v w ∧ Reps fz vs us ∧ ws = w :: us
theorem Reps.inv {fz : Led} {vs : List V} {ws : List Value} (h : Reps fz vs ws) : RepsI fz ws vs := Reps.casesOn (motive_2 := fun vs ws _ => RepsI fz ws vs) h rfl fun a b => ⟨_, _, a, b, rfl⟩
section
variable {fz : Led} {w : Value} {ws : List Value} {P : Value → Prop} {Pl : List Value → Prop}
@[elab_as_elim] theorem Rep.none_e (h : Rep fz .none w) (k : P .none) : P w := have e : w = .none := h.inv; e ▸ k
@[elab_as_elim] theorem Rep.bool_e {b : Bool} (h : Rep fz (.bool b) w) (k : P (.bool b)) : P w := have e : w = .bool b := h.inv; e ▸ k
@[elab_as_elim] theorem Rep.int_e {i : Int} (h : Rep fz (.int i) w) (k : ∀ t, P (.int i t)) : P w := Exists.elim h.inv fun t e => e ▸ k t
@[elab_as_elim] theorem Rep.text_e {n : Nat} (h : Rep fz (.text n) w) (k : ∀ s t, s.length ≤ n → P (.str s t)) : P w := Exists.elim h.inv fun s h => h.elim fun t h => h.2 ▸ k s t h.1
@[elab_as_elim] theorem Rep.bytes_e {b : List UInt8} (h : Rep fz (.bytes b) w) (k : ∀ t, P (.bytes b.toArray t)) : P w := Exists.elim h.inv fun t e => e ▸ k t
@[elab_as_elim] theorem Rep.tup_e {vs : List V} (h : Rep fz (.tup vs) w) (k : ∀ ws a, (a, ({ cls := .type "tuple", data := .seq ws.toArray } : Obj)) ∈ fz → Reps fz vs ws → P (.ref a)) : P w :=
  Exists.elim h.inv fun ws h => h.elim fun a h => h.2.2 ▸ k ws a h.1 h.2.1
@[elab_as_elim] theorem Rep.lst_e {vs : List V} (h : Rep fz (.lst vs) w) (k : ∀ ws a n, (a, listOf ws.toArray n) ∈ fz → Reps fz vs ws → P (.ref a)) : P w :=
  Exists.elim h.inv fun ws h => h.elim fun a h => h.elim fun n h => h.2.2 ▸ k ws a n h.1 h.2.1
@[elab_as_elim] theorem Rep.obj_e {C : Addr} {fs : List (Str × V)} (h : Rep fz (.obj C fs) w) (k : ∀ a d es n, (a, instObj C d) ∈ fz → (d, dictOf es n) ∈ fz → RepFs fz fs es → P (.ref a)) : P w :=
  Exists.elim h.inv fun a h => h.elim fun d h => h.elim fun es h => h.elim fun n h => h.2.2.2 ▸ k a d es n h.1 h.2.1 h.2.2.1
@[elab_as_elim] theorem Rep.rng_e {a b c : Int} (h : Rep fz (.rng a b c) w) (k : ∀ t u v r, (r, rngObj a b c t u v) ∈ fz → P (.ref r)) : P w :=
  Exists.elim h.inv fun t h => h.elim fun u h => h.elim fun v h => h.elim fun r h => h.2 ▸ k t u v r h.1
@[elab_as_elim] theorem Rep.ref_e {a : Addr} (h : Rep fz (.ref a) w) (k : P (.ref a)) : P w := have e : w = .ref a := h.inv; e ▸ k
@[elab_as_elim] theorem Rep.raw_e {v : Value} (h : Rep fz (.raw v) w) (k : P v) : P w := have e : w = v := h.inv; e ▸ k
@[elab_as_elim] theorem Reps.nil_e (h : Reps fz [] ws) (k : Pl []) : Pl ws := have e : ws = [] := h.inv; e ▸ k
@[elab_as_elim] theorem Reps.cons_e {v : V} {vs : List V} (h : Reps fz (v :: vs) ws) (k : ∀ w ws, Rep fz v w → Reps fz vs ws → Pl (w :: ws)) : Pl ws :=
  Exists.elim h.inv fun w h => h.elim fun us h => h.2.2 ▸ k w us h.1 h.2.1
@[elab_as_elim] theorem Reps.one_e {v : V} (h : Reps fz [v] ws) (k : ∀ w, Rep fz v w → Pl [w]) : Pl ws := h.cons_e fun w _ a b => b.nil_e (Pl := fun l => Pl (w :: l)) (k w a)
end
section
variable {a b c d e f g h i G : Prop}
theorem An2 (x : a ∧ b) (k : a → b → G) : G := k x.1 x.2
theorem An3 (x : a ∧ b ∧ c) (k : a → b → c → G) : G := k x.1 x.2.1 x.2.2
theorem An4 (x : a ∧ b ∧ c ∧ d) (k : a → b → c → d → G) : G := k x.1 x.2.1 x.2.2.1 x.2.2.2
theorem An5 (x : a ∧ b ∧ c ∧ d ∧ e) (k : a → b → c → d → e → G) : G := k x.1 x.2.1 x.2.2.1 x.2.2.2.1 x.2.2.2.2
theorem An6 (x : a ∧ b ∧ c ∧ d ∧ e ∧ f) (k : a → b → c → d → e → f → G) : G := k x.1 x.2.1 x.2.2.1 x.2.2.2.1 x.2.2.2.2.1 x.2.2.2.2.2
theorem An7 (x : a ∧ b ∧ c ∧ d ∧ e ∧ f ∧ g) (k : a → b → c → d → e → f → g → G) : G := k x.1 x.2.1 x.2.2.1 x.2.2.2.1 x.2.2.2.2.1 x.2.2.2.2.2.1 x.2.2.2.2.2.2
end
section
universe u1 u2 u3 u4 u5
variable {α : Sort u1} {β : Sort u2} {γ : Sort u3} {δ : Sort u4} {ε : Sort u5} {G : Prop}
theorem Ex2 {p : α → β → Prop} (x : ∃ a b, p a b) (k : ∀ a b, p a b → G) : G := x.elim fun a x => x.elim fun b h => k a b h
theorem Ex3 {p : α → β → γ → Prop} (x : ∃ a b c, p a b c) (k : ∀ a b c, p a b c → G) : G := x.elim fun a x => Ex2 x (k a)
theorem Ex4 {p : α → β → γ → δ → Prop} (x : ∃ a b c d, p a b c d) (k : ∀ a b c d, p a b c d → G) : G := x.elim fun a x => Ex3 x (k a)
theorem Ex5 {p : α → β → γ → δ → ε → Prop} (x : ∃ a b c d e, p a b c d e) (k : ∀ a b c d e, p a b c d e → G) : G := x.elim fun a x => Ex4 x (k a)
end
theorem Reps.length {fz : Led} {vs : List V} {ws : List Value} (h : Reps fz vs ws) : ws.length = vs.length := h.ind (P := fun vs ws => ws.length = vs.length) rfl fun _ _ ih => congrArg (· + 1) ih
theorem Reps.append {fz : Led} {vs vs' : List V} {ws ws' : List Value} (h : Reps fz vs ws) (k : Reps fz vs' ws') : Reps fz (vs ++ vs') (ws ++ ws') := h.ind (P := fun vs ws => Reps fz (vs ++ vs') (ws ++ ws')) k fun a _ => .cons a
theorem Reps.get {fz : Led} {vs : List V} {ws : List Value} (h : Reps fz vs ws) : ∀ {i : Nat} {v : V}, vs[i]? = some v → ∃ w, ws[i]? = some w ∧ Rep fz v w :=
  h.ind (P := fun vs ws => ∀ {i : Nat} {v : V}, vs[i]? = some v → ∃ w, ws[i]? = some w ∧ Rep fz v w) (fun h => nomatch h) fun {v w vs ws} a _ ih {i} {u} => by
    cases i with
    | zero => exact fun h => ⟨w, rfl, Option.some.inj h ▸ a⟩
    | succ n => exact fun h => ih (i := n) h
theorem Reps.take {fz : Led} {vs : List V} {ws : List Value} (n : Nat) (h : Reps fz vs ws) : Reps fz (vs.take n) (ws.take n) :=
  h.ind (P := fun vs ws => ∀ n : Nat, Reps fz (vs.take n) (ws.take n)) (fun n => by rw [List.take_nil, List.take_nil]; exact .nil) (fun a b ih n => by
    cases n with
    | zero => exact .nil
    | succ n => exact .cons a (ih n)) n

/-- the fields of a made thing -/
noncomputable abbrev Flds := List (Str × V)
noncomputable def fget (x : Str) : Flds → Option V
  | [] => none
  | (y, v) :: r => if y == x then some v else fget x r
noncomputable def fput (x : Str) (v : V) : Flds → Flds
  | [] => [(x, v)]
  | (y, u) :: r => if y == x then (y, v) :: r else (y, u) :: fput x v r

theorem isStr_key (x y : Str) (t : Tok) : (Value.str y t).isStr x = (y == x) := by
  rfl

theorem noRefKey {fz : Led} {fs : Flds} {es : List DictEntry} (h : RepFs fz fs es) : es.any (·.refKey) = false := h.ind (P := fun _ es => es.any (·.refKey) = false) rfl fun _ _ ih => ih
theorem find_none {fz : Led} {x : Str} {fs : Flds} {es : List DictEntry} (h : RepFs fz fs es) : fget x fs = none → es.find? (·.key.isStr x) = none :=
  h.ind (P := fun fs es => fget x fs = none → es.find? (·.key.isStr x) = none) (fun _ => rfl) fun {y v w hs t fs es} a _ ih h => by
    unfold fget at h
    rw [List.find?_cons]
    show (match (y == x) with | true => _ | false => _) = _
    cases hy : (y == x) with
    | true => rw [hy] at h; cases h
    | false => rw [hy] at h; exact ih h
theorem find_some {fz : Led} {x : Str} {fs : Flds} {es : List DictEntry} (h : RepFs fz fs es) : ∀ {v : V}, fget x fs = some v → ∃ e, es.find? (·.key.isStr x) = some e ∧ Rep fz v e.val :=
  h.ind (P := fun fs es => ∀ {v : V}, fget x fs = some v → ∃ e, es.find? (·.key.isStr x) = some e ∧ Rep fz v e.val) (fun h => nomatch h) fun {y v w hs t fs es} a _ ih {u} h => by
    unfold fget at h
    rw [List.find?_cons]
    have k : (Value.str y t).isStr x = (y == x) := rfl
    rw [k]
    cases hy : (y == x) with
    | true => rw [hy] at h; exact ⟨_, rfl, Option.some.inj h ▸ a⟩
    | false => rw [hy] at h; exact ih h
theorem getL_of {fz : Led} {fs : Flds} {es : List DictEntry} (h : RepFs fz fs es) {x : Str} {v : V} (hx : fget x fs = some v) : ∃ w, getL x es = some (some w) ∧ Rep fz v w := by
  obtain ⟨e, h1, h2⟩ := find_some h hx
  exact ⟨e.val, by unfold getL; rw [h1], h2⟩
theorem getL_none {fz : Led} {fs : Flds} {es : List DictEntry} (h : RepFs fz fs es) {x : Str} (hx : fget x fs = none) : getL x es = some none := by
  unfold getL
  rw [find_none h hx, noRefKey h]
  rfl
theorem getL_isSome {fz : Led} {fs : Flds} {es : List DictEntry} (h : RepFs fz fs es) (x : Str) : (getL x es).isSome = true := by
  cases q : fget x fs with
  | none => rw [getL_none h q]; rfl
  | some v => obtain ⟨w, h1, _⟩ := getL_of h q; rw [h1]; rfl
theorem putL_rep {fz : Led} {x : Str} {v : V} {w : Value} (hw : Rep fz v w) (hs : Int) (t : Tok) {fs : Flds} {es : List DictEntry} (h : RepFs fz fs es) : RepFs fz (fput x v fs) (putL x hs (.str x t) w es) :=
  h.ind (P := fun fs es => RepFs fz (fput x v fs) (putL x hs (.str x t) w es)) (.cons hw .nil) fun {y u w' hs' t' fs es} a r ih => by
    unfold fput putL
    simp only [isStr_key]
    cases (y == x) with
    | true => exact .cons hw r
    | false => exact .cons a ih
theorem RepFs.length {fz : Led} {fs : Flds} {es : List DictEntry} (h : RepFs fz fs es) : es.length = fs.length := h.ind (P := fun fs es => es.length = fs.length) rfl fun _ _ ih => congrArg (· + 1) ih

/-- mutable things -/
inductive AObj where
  | inst (C d : Addr) (fs : Flds)
  | list (vs : List V)
  | barr (b : List UInt8)
noncomputable def AObj.dict : AObj → Option Addr
  | .inst _ d _ => some d
  | _ => none
noncomputable abbrev Store := Addr → Option AObj
noncomputable def Store.set (σ : Store) (a : Addr) (o : AObj) : Store := fun b => if b = a then some o else σ b
noncomputable def Store.del (σ : Store) (a : Addr) : Store := fun b => if b = a then none else σ b
@[reducible] noncomputable def Store.emp : Store := fun _ => none
noncomputable def Store.Le (σ τ : Store) : Prop := ∀ a o, σ a = some o → τ a = some o
theorem Store.Le.trans {σ τ υ : Store} (h : Store.Le σ τ) (k : Store.Le τ υ) : Store.Le σ υ := fun a o e => k a o (h a o e)
theorem Store.set_self (σ : Store) (a : Addr) (o : AObj) : (σ.set a o) a = some o := by unfold Store.set; rw [if_pos rfl]
theorem Store.set_ne (σ : Store) {a b : Addr} (o : AObj) (h : b ≠ a) : (σ.set a o) b = σ b := by unfold Store.set; rw [if_neg h]
theorem Store.set_set (σ : Store) (a : Addr) (o o' : AObj) : (σ.set a o).set a o' = σ.set a o' := by
  funext b; unfold Store.set; by_cases h : b = a <;> simp [h]
theorem Store.le_set {σ : Store} {a : Addr} (h : σ a = none) (o : AObj) : Store.Le σ (σ.set a o) := fun b x e => by
  unfold Store.set; rw [if_neg]; exact e; intro q; rw [q, h] at e; cases e

noncomputable def barrObj (b : List UInt8) : Obj := { cls := .type "bytearray", data := .bytearray b.toArray }

noncomputable def ObjIn (fz news : Led) (a : Addr) : AObj → Prop
  | .inst C d fs => (a, instObj C d) ∈ news ∧ ∃ es n, (d, dictOf es n) ∈ news ∧ RepFs fz fs es
  | .list vs => ∃ ws n, (a, listOf ws.toArray n) ∈ news ∧ Reps fz vs ws
  | .barr b => (a, barrObj b) ∈ news

structure Own (σ : Store) (fz hid news : Led) : Prop where
  nd : (news.map (·.1)).Nodup
  inF : ∀ p ∈ fz, p ∈ news
  inH : ∀ p ∈ hid, p ∈ news
  sto : ∀ a o, σ a = some o → ObjIn fz news a o
  ap : ∀ a o, σ a = some o → ∀ p, p ∈ fz ∨ p ∈ hid → p.1 ≠ a ∧ ∀ d, o.dict = some d → p.1 ≠ d
  own : ∀ a o d, σ a = some o → o.dict = some d → σ d = none ∧ ∀ a' o', σ a' = some o' → o'.dict = some d → a' = a
  fh : ∀ p ∈ fz, ∀ q ∈ hid, p.1 ≠ q.1
  hn : (hid.map (·.1)).Nodup

noncomputable abbrev Loc := List (Str × V)
noncomputable def LocRel (ρ : Loc) (fz : Led) (m : Str → Option Value) : Prop := ∀ x v, fget x ρ = some v → ∃ w, m x = some w ∧ Rep fz v w
theorem LocRel.mono {ρ : Loc} {fz fz' : Led} {m : Str → Option Value} (h : LocRel ρ fz m) (hs : ∀ p ∈ fz, p ∈ fz') : LocRel ρ fz' m :=
  fun x v e => let ⟨w, a, b⟩ := h x v e; ⟨w, a, b.mono hs⟩
theorem fget_fput_self (x : Str) (v : V) : ∀ ρ : Loc, fget x (fput x v ρ) = some v
  | [] => by simp [fput, fget]
  | (y, u) :: r => by
    unfold fput
    split
    · rename_i h; simp [fget, h]
    · rename_i h; simp only [fget, h, Bool.false_eq_true, if_false]; exact fget_fput_self x v r
theorem fget_fput_ne {x y : Str} (v : V) (hxy : y ≠ x) : ∀ ρ : Loc, fget y (fput x v ρ) = fget y ρ
  | [] => by
    have : (x == y) = false := by simpa using Ne.symm hxy
    simp [fput, fget, this]
  | (z, u) :: r => by
    unfold fput
    split
    · rename_i h
      have hz : z = x := by simpa using h
      subst hz
      have : (z == y) = false := by simpa using Ne.symm hxy
      simp [fget, this]
    · rename_i h
      simp only [fget]
      split
      · rfl
      · exact fget_fput_ne v hxy r
theorem LocRel.put {ρ : Loc} {fz : Led} {m : Str → Option Value} (h : LocRel ρ fz m) {x : Str} {v : V} {w : Value} (hw : Rep fz v w) :
    LocRel (fput x v ρ) fz (fun y => if y = x then some w else m y) := fun y u e => by
  by_cases hy : y = x
  · subst hy
    rw [fget_fput_self] at e; cases e
    exact ⟨w, by simp, hw⟩
  · rw [fget_fput_ne v hy] at e
    obtain ⟨w', a, b⟩ := h y u e
    exact ⟨w', by simp [hy, a], b⟩
noncomputable def Loc.Le (ρ τ : Loc) : Prop := ∀ x v, fget x ρ = some v → fget x τ = some v
theorem LocRel.le {ρ τ : Loc} {fz : Led} {m : Str → Option Value} (h : LocRel τ fz m) (k : Loc.Le ρ τ) : LocRel ρ fz m := fun x v e => h x v (k x v e)

/-- the ledger with one object turned -/
noncomputable def repl (x : Addr) (o' : Obj) (news : Led) : Led := news.map fun p => if p.1 = x then (x, o') else p
theorem repl_fst (x : Addr) (o' : Obj) : ∀ news : Led, (repl x o' news).map (·.1) = news.map (·.1)
  | [] => rfl
  | p :: r => by
    have ih := repl_fst x o' r
    unfold repl at ih ⊢
    simp only [List.map_cons]
    rw [ih]
    by_cases h : p.1 = x <;> simp [h]
theorem repl_ne {x : Addr} {o' : Obj} {news : Led} {p : Addr × Obj} (hp : p ∈ news) (h : p.1 ≠ x) : p ∈ repl x o' news :=
  List.mem_map.mpr ⟨p, hp, by rw [if_neg h]⟩
theorem repl_self {x : Addr} {o o' : Obj} {news : Led} (hp : (x, o) ∈ news) : (x, o') ∈ repl x o' news :=
  List.mem_map.mpr ⟨(x, o), hp, by rw [if_pos rfl]⟩
theorem repl_none {x : Addr} {o' : Obj} : ∀ {news : Led}, (∀ p ∈ news, p.1 ≠ x) → repl x o' news = news
  | [], _ => rfl
  | p :: r, h => by
    have h1 := h p (.head _)
    have h2 := repl_none (o' := o') (fun q hq => h q (.tail _ hq))
    unfold repl at h2 ⊢
    rw [List.map_cons, if_neg h1, h2]
theorem upd_repl {x : Addr} {o o' : Obj} : ∀ {news : Led}, (news.map (·.1)).Nodup → (x, o) ∈ news → Upd x o o' news (repl x o' news)
  | [], _, h => nomatch h
  | p :: r, nd, h => by
    rw [List.map_cons, List.nodup_cons] at nd
    by_cases hp : p.1 = x
    · have hr : ∀ q ∈ r, q.1 ≠ x := fun q hq e => nd.1 (List.mem_map.mpr ⟨q, hq, e.trans hp.symm⟩)
      rcases List.mem_cons.mp h with e | e
      · subst e
        have := repl_none (o' := o') hr
        show Upd x o o' _ (repl x o' ((x, o) :: r))
        unfold repl at this ⊢
        rw [List.map_cons, if_pos rfl, this]
        exact .head hr
      · exact absurd rfl (hr _ e)
    · rcases List.mem_cons.mp h with e | e
      · exact absurd (by rw [← e]) hp
      · have := upd_repl (o' := o') nd.2 e
        unfold repl at this ⊢
        rw [List.map_cons, if_neg hp]
        exact .tail hp this

theorem objIn_repl {fz news : Led} {x : Addr} {o' : Obj} {a : Addr} {ob : AObj} (h : ObjIn fz news a ob) (h1 : a ≠ x) (h2 : ∀ d, ob.dict = some d → d ≠ x) : ObjIn fz (repl x o' news) a ob := by
  cases ob with
  | inst C d fs => obtain ⟨m1, es, n, m2, r⟩ := h; exact ⟨repl_ne m1 h1, es, n, repl_ne m2 (h2 d rfl), r⟩
  | list vs => obtain ⟨ws, n, m, r⟩ := h; exact ⟨ws, n, repl_ne m h1, r⟩
  | barr b => exact repl_ne h h1
theorem objIn_mono {fz fz' news news' : Led} {a : Addr} {ob : AObj} (h : ObjIn fz news a ob) (h1 : ∀ p ∈ fz, p ∈ fz') (h2 : ∀ p ∈ news, p ∈ news') : ObjIn fz' news' a ob := by
  cases ob with
  | inst C d fs => obtain ⟨m1, es, n, m2, r⟩ := h; exact ⟨h2 _ m1, es, n, h2 _ m2, r.mono h1⟩
  | list vs => obtain ⟨ws, n, m, r⟩ := h; exact ⟨ws, n, h2 _ m, r.mono h1⟩
  | barr b => exact h2 _ h
theorem objIn_addr {fz news : Led} {a : Addr} {ob : AObj} (h : ObjIn fz news a ob) : ∃ o, (a, o) ∈ news := by
  cases ob with
  | inst C d fs => exact ⟨_, h.1⟩
  | list vs => obtain ⟨ws, n, m, r⟩ := h; exact ⟨_, m⟩
  | barr b => exact ⟨_, h⟩
theorem objIn_dict {fz news : Led} {a d : Addr} {ob : AObj} (h : ObjIn fz news a ob) (hd : ob.dict = some d) : ∃ o, (d, o) ∈ news := by
  cases ob with
  | inst C d' fs => cases hd; obtain ⟨m1, es, n, m2, r⟩ := h; exact ⟨_, m2⟩
  | list vs => cases hd
  | barr b => cases hd

theorem Own.le {σ τ : Store} {fz hid news : Led} (h : Own τ fz hid news) (k : Store.Le σ τ) : Own σ fz hid news := by
  refine ⟨h.nd, h.inF, h.inH, fun a o e => h.sto a o (k a o e), fun a o e => h.ap a o (k a o e), fun a o d e q => ?_, h.fh, h.hn⟩
  · skip
    obtain ⟨h1, h2⟩ := h.own a o d (k a o e) q
    refine ⟨?_, fun a' o' e' => h2 a' o' (k a' o' e')⟩
    cases z : σ d with
    | none => rfl
    | some o' => have := k d o' z; rw [h1] at this; cases this

/-- an object of the store turned, at its own address -/
theorem Own.setAt {σ : Store} {fz hid news : Led} {a : Addr} {ob ob' : AObj} {o o' : Obj} (h : Own σ fz hid news) (ha : σ a = some ob) (hm : (a, o) ∈ news) (hd : ob.dict = none) (hd' : ob'.dict = none)
    (hin : ObjIn fz (repl a o' news) a ob') : Own (σ.set a ob') fz hid (repl a o' news) := by
  refine ⟨by rw [repl_fst]; exact h.nd, fun p hp => repl_ne (h.inF p hp) (h.ap a ob ha p (.inl hp)).1, fun p hp => repl_ne (h.inH p hp) (h.ap a ob ha p (.inr hp)).1, fun b x e => ?_, fun b x e p hp => ?_, fun b x d e q => ?_, h.fh, h.hn⟩
  · by_cases hb : b = a
    · subst hb; rw [Store.set_self] at e; cases e; exact hin
    · rw [Store.set_ne _ _ hb] at e
      refine objIn_repl (h.sto b x e) hb fun d hdd hda => ?_
      subst hda
      have := (h.own b x d e hdd).1
      rw [ha] at this; cases this
  · by_cases hb : b = a
    · subst hb; rw [Store.set_self] at e; cases e
      exact ⟨(h.ap b ob ha p hp).1, fun d q => by rw [hd'] at q; cases q⟩
    · rw [Store.set_ne _ _ hb] at e; exact h.ap b x e p hp
  · by_cases hb : b = a
    · subst hb; rw [Store.set_self] at e; cases e; rw [hd'] at q; cases q
    · rw [Store.set_ne _ _ hb] at e
      obtain ⟨h1, h2⟩ := h.own b x d e q
      refine ⟨?_, fun a' o2 e' q' => ?_⟩
      · by_cases hda : d = a
        · subst hda; rw [ha] at h1; cases h1
        · rw [Store.set_ne _ _ hda]; exact h1
      · by_cases hb' : a' = a
        · subst hb'; rw [Store.set_self] at e'; cases e'; rw [hd'] at q'; cases q'
        · rw [Store.set_ne _ _ hb'] at e'; exact h2 a' o2 e' q'

/-- a field turned -/
theorem Own.setFld {σ : Store} {fz hid news : Led} {a C d : Addr} {fs fs' : Flds} {es' : List DictEntry} {n' : Nat} {o : Obj} (h : Own σ fz hid news) (ha : σ a = some (.inst C d fs)) (hm : (d, o) ∈ news)
    (hr : RepFs fz fs' es') : Own (σ.set a (.inst C d fs')) fz hid (repl d (dictOf es' n') news) := by
  have hda := h.own a _ d ha rfl
  have hne : a ≠ d := fun q => by subst q; rw [hda.1] at ha; cases ha
  have hI := h.sto a _ ha
  refine ⟨by rw [repl_fst]; exact h.nd, fun p hp => repl_ne (h.inF p hp) ((h.ap a _ ha p (.inl hp)).2 d rfl), fun p hp => repl_ne (h.inH p hp) ((h.ap a _ ha p (.inr hp)).2 d rfl), fun b x e => ?_, fun b x e p hp => ?_, fun b x d' e q => ?_, h.fh, h.hn⟩
  · by_cases hb : b = a
    · subst hb; rw [Store.set_self] at e; cases e
      exact ⟨repl_ne hI.1 hne, es', n', repl_self hm, hr⟩
    · rw [Store.set_ne _ _ hb] at e
      refine objIn_repl (h.sto b x e) (fun q => by subst q; rw [hda.1] at e; cases e) fun d2 hdd q => ?_
      subst q
      exact hb (hda.2 b x e hdd)
  · by_cases hb : b = a
    · subst hb; rw [Store.set_self] at e; cases e
      exact ⟨(h.ap b _ ha p hp).1, fun d2 q => (h.ap b _ ha p hp).2 d2 q⟩
    · rw [Store.set_ne _ _ hb] at e; exact h.ap b x e p hp
  · by_cases hb : b = a
    · subst hb; rw [Store.set_self] at e; cases e; cases q
      refine ⟨by rw [Store.set_ne _ _ (Ne.symm hne)]; exact hda.1, fun a' o2 e' q' => ?_⟩
      by_cases hb' : a' = b
      · exact hb'
      · rw [Store.set_ne _ _ hb'] at e'; exact hda.2 a' o2 e' q'
    · rw [Store.set_ne _ _ hb] at e
      obtain ⟨h1, h2⟩ := h.own b x d' e q
      refine ⟨?_, fun a' o2 e' q' => ?_⟩
      · by_cases hda' : d' = a
        · subst hda'; rw [ha] at h1; cases h1
        · rw [Store.set_ne _ _ hda']; exact h1
      · by_cases hb' : a' = a
        · subst hb'; rw [Store.set_self] at e'; cases e'
          cases q'
          exact absurd (hda.2 b x e q) hb
        · rw [Store.set_ne _ _ hb'] at e'; exact h2 a' o2 e' q'

/-- a new thing without a dict -/
theorem Own.add {σ : Store} {fz hid news : Led} {a : Addr} {ob : AObj} {o : Obj} (h : Own σ fz hid news) (hn : ∀ p ∈ news, p.1 ≠ a) (hd : ob.dict = none) (hin : ObjIn fz ((a, o) :: news) a ob) :
    Own (σ.set a ob) fz hid ((a, o) :: news) := by
  have nσ : σ a = none := by
    cases q : σ a with
    | none => rfl
    | some x => obtain ⟨o2, hm⟩ := objIn_addr (h.sto a x q); exact absurd rfl (hn _ hm)
  refine ⟨by rw [List.map_cons, List.nodup_cons]; exact ⟨fun q => by obtain ⟨p, hp, e⟩ := List.mem_map.mp q; exact hn p hp e, h.nd⟩, fun p hp => .tail _ (h.inF p hp), fun p hp => .tail _ (h.inH p hp), fun b x e => ?_, fun b x e p hp => ?_, fun b x d e q => ?_, h.fh, h.hn⟩
  · by_cases hb : b = a
    · subst hb; rw [Store.set_self] at e; cases e; exact hin
    · rw [Store.set_ne _ _ hb] at e; exact objIn_mono (h.sto b x e) (fun _ q => q) fun _ q => .tail _ q
  · by_cases hb : b = a
    · subst hb; rw [Store.set_self] at e; cases e
      exact ⟨hn p (hp.elim (h.inF p) (h.inH p)), fun d q => by rw [hd] at q; cases q⟩
    · rw [Store.set_ne _ _ hb] at e; exact h.ap b x e p hp
  · by_cases hb : b = a
    · subst hb; rw [Store.set_self] at e; cases e; rw [hd] at q; cases q
    · rw [Store.set_ne _ _ hb] at e
      obtain ⟨h1, h2⟩ := h.own b x d e q
      refine ⟨?_, fun a' o2 e' q' => ?_⟩
      · by_cases hda : d = a
        · subst hda
          obtain ⟨o3, hm⟩ := objIn_dict (h.sto b x e) q
          exact absurd rfl (hn _ hm)
        · rw [Store.set_ne _ _ hda]; exact h1
      · by_cases hb' : a' = a
        · subst hb'; rw [Store.set_self] at e'; cases e'; rw [hd] at q'; cases q'
        · rw [Store.set_ne _ _ hb'] at e'; exact h2 a' o2 e' q'

/-- a new thing -/
theorem Own.addInst {σ : Store} {fz hid news : Led} {a C d : Addr} (h : Own σ fz hid news) (hn : ∀ p ∈ news, p.1 < d) (hda : d < a) :
    Own (σ.set a (.inst C d [])) fz hid ((a, instObj C d) :: (d, dictOf [] 0) :: news) := by
  have hnd : ∀ p ∈ news, p.1 ≠ d := fun p hp => Nat.ne_of_lt (hn p hp)
  have hna : ∀ p ∈ news, p.1 ≠ a := fun p hp => Nat.ne_of_lt (Nat.lt_trans (hn p hp) hda)
  have hne : a ≠ d := Nat.ne_of_gt hda
  have nσ : ∀ b, (∀ p ∈ news, p.1 ≠ b) → σ b = none := fun b hb => by
    cases q : σ b with
    | none => rfl
    | some x => obtain ⟨o2, hm⟩ := objIn_addr (h.sto b x q); exact absurd rfl (hb _ hm)
  refine ⟨?_, fun p hp => .tail _ (.tail _ (h.inF p hp)), fun p hp => .tail _ (.tail _ (h.inH p hp)), fun b x e => ?_, fun b x e p hp => ?_, fun b x d' e q => ?_, h.fh, h.hn⟩
  · rw [List.map_cons, List.nodup_cons, List.map_cons, List.nodup_cons]
    refine ⟨fun q => ?_, fun q => ?_, h.nd⟩
    · rcases List.mem_cons.mp q with e | e
      · exact hne e
      · obtain ⟨p, hp, e⟩ := List.mem_map.mp e; exact hna p hp e
    · obtain ⟨p, hp, e⟩ := List.mem_map.mp q; exact hnd p hp e
  · by_cases hb : b = a
    · subst hb; rw [Store.set_self] at e; cases e
      exact ⟨.head _, [], 0, .tail _ (.head _), .nil⟩
    · rw [Store.set_ne _ _ hb] at e; exact objIn_mono (h.sto b x e) (fun _ q => q) fun _ q => .tail _ (.tail _ q)
  · by_cases hb : b = a
    · subst hb; rw [Store.set_self] at e; cases e
      exact ⟨hna p (hp.elim (h.inF p) (h.inH p)), fun d' q => by cases q; exact hnd p (hp.elim (h.inF p) (h.inH p))⟩
    · rw [Store.set_ne _ _ hb] at e; exact h.ap b x e p hp
  · by_cases hb : b = a
    · subst hb; rw [Store.set_self] at e; cases e; cases q
      refine ⟨by rw [Store.set_ne _ _ (Ne.symm hne)]; exact nσ d hnd, fun a' o2 e' q' => ?_⟩
      by_cases hb' : a' = b
      · exact hb'
      · rw [Store.set_ne _ _ hb'] at e'
        obtain ⟨o3, hm⟩ := objIn_dict (h.sto a' o2 e') q'
        exact absurd rfl (hnd _ hm)
    · rw [Store.set_ne _ _ hb] at e
      obtain ⟨h1, h2⟩ := h.own b x d' e q
      refine ⟨?_, fun a' o2 e' q' => ?_⟩
      · by_cases hda' : d' = a
        · subst hda'
          obtain ⟨o3, hm⟩ := objIn_dict (h.sto b x e) q
          exact absurd rfl (hna _ hm)
        · rw [Store.set_ne _ _ hda']; exact h1
      · by_cases hb' : a' = a
        · subst hb'; rw [Store.set_self] at e'; cases e'
          cases q'
          obtain ⟨o3, hm⟩ := objIn_dict (h.sto b x e) q
          exact absurd rfl (hnd _ hm)
        · rw [Store.set_ne _ _ hb'] at e'; exact h2 a' o2 e' q'

/-- a new frozen thing -/
theorem Own.addFz {σ : Store} {fz hid news : Led} {a : Addr} {o : Obj} (h : Own σ fz hid news) (hn : ∀ p ∈ news, p.1 ≠ a) : Own σ ((a, o) :: fz) hid ((a, o) :: news) := by
  have na : ∀ b x, σ b = some x → b ≠ a := fun b x e q => by
    subst q; obtain ⟨o2, hm⟩ := objIn_addr (h.sto b x e); exact hn _ hm rfl
  have nd : ∀ b x d, σ b = some x → x.dict = some d → d ≠ a := fun b x d e z q => by
    subst q; obtain ⟨o2, hm⟩ := objIn_dict (h.sto b x e) z; exact hn _ hm rfl
  refine ⟨by rw [List.map_cons, List.nodup_cons]; exact ⟨fun q => by obtain ⟨p, hp, e⟩ := List.mem_map.mp q; exact hn p hp e, h.nd⟩, fun p hp => ?_, fun p hp => .tail _ (h.inH p hp),
    fun b x e => objIn_mono (h.sto b x e) (fun _ q => .tail _ q) fun _ q => .tail _ q, fun b x e p hp => ?_, h.own, fun p hp q hq => ?_, h.hn⟩
  · rcases List.mem_cons.mp hp with rfl | hp
    · exact .head _
    · exact .tail _ (h.inF p hp)
  · rcases hp with hp | hp
    · rcases List.mem_cons.mp hp with rfl | hp
      · exact ⟨Ne.symm (na b x e), fun d q => Ne.symm (nd b x d e q)⟩
      · exact h.ap b x e p (.inl hp)
    · exact h.ap b x e p (.inr hp)
  · rcases List.mem_cons.mp hp with rfl | hp
    · exact fun z => hn q (h.inH q hq) z.symm
    · exact h.fh p hp q hq

/-- a thing of the store frozen -/
theorem Own.freezeList {σ : Store} {fz hid news : Led} {a : Addr} {vs : List V} (h : Own σ fz hid news) (ha : σ a = some (.list vs)) :
    ∃ fz', (∀ p ∈ fz, p ∈ fz') ∧ Rep fz' (.lst vs) (.ref a) ∧ Own (σ.del a) fz' hid news := by
  obtain ⟨ws, n, hm, hr⟩ := h.sto a _ ha
  refine ⟨(a, listOf ws.toArray n) :: fz, fun p hp => .tail _ hp, .lst (.head _) (hr.mono fun p hp => .tail _ hp), ?_⟩
  have hdel : ∀ b x, (σ.del a) b = some x → b ≠ a ∧ σ b = some x := fun b x e => by
    unfold Store.del at e
    by_cases hb : b = a
    · rw [if_pos hb] at e; cases e
    · rw [if_neg hb] at e; exact ⟨hb, e⟩
  refine ⟨h.nd, fun p hp => ?_, h.inH, fun b x e => objIn_mono (h.sto b x (hdel b x e).2) (fun _ q => .tail _ q) fun _ q => q, fun b x e p hp => ?_, fun b x d e q => ?_, fun p hp q hq => ?_, h.hn⟩
  · rcases List.mem_cons.mp hp with rfl | hp
    · exact hm
    · exact h.inF p hp
  · obtain ⟨hb, e⟩ := hdel b x e
    rcases hp with hp | hp
    · rcases List.mem_cons.mp hp with rfl | hp
      · refine ⟨Ne.symm hb, fun d q z => ?_⟩
        have := (h.own b x d e q).1
        rw [show d = a from z.symm, ha] at this; cases this
      · exact h.ap b x e p (.inl hp)
    · exact h.ap b x e p (.inr hp)
  · obtain ⟨hb, e⟩ := hdel b x e
    obtain ⟨h1, h2⟩ := h.own b x d e q
    refine ⟨?_, fun a' o2 e' q' => h2 a' o2 (hdel a' o2 e').2 q'⟩
    unfold Store.del; split; rfl; exact h1
  · rcases List.mem_cons.mp hp with rfl | hp
    · exact fun z => (h.ap a _ ha q (.inr hq)).1 z.symm
    · exact h.fh p hp q hq
theorem Own.freezeInst {σ : Store} {fz hid news : Led} {a C d : Addr} {fs : Flds} (h : Own σ fz hid news) (ha : σ a = some (.inst C d fs)) :
    ∃ fz', (∀ p ∈ fz, p ∈ fz') ∧ Rep fz' (.obj C fs) (.ref a) ∧ Own (σ.del a) fz' hid news := by
  obtain ⟨hm, es, n, hm2, hr⟩ := h.sto a _ ha
  have hda := h.own a _ d ha rfl
  have sub : ∀ p ∈ fz, p ∈ (a, instObj C d) :: (d, dictOf es n) :: fz := fun p hp => .tail _ (.tail _ hp)
  refine ⟨_, sub, .obj (.head _) (.tail _ (.head _)) (hr.mono sub), ?_⟩
  have hdel : ∀ b x, (σ.del a) b = some x → b ≠ a ∧ σ b = some x := fun b x e => by
    unfold Store.del at e
    by_cases hb : b = a
    · rw [if_pos hb] at e; cases e
    · rw [if_neg hb] at e; exact ⟨hb, e⟩
  refine ⟨h.nd, fun p hp => ?_, h.inH, fun b x e => objIn_mono (h.sto b x (hdel b x e).2) sub fun _ q => q, fun b x e p hp => ?_, fun b x d e q => ?_, fun p hp q hq => ?_, h.hn⟩
  · rcases List.mem_cons.mp hp with rfl | hp
    · exact hm
    rcases List.mem_cons.mp hp with rfl | hp
    · exact hm2
    · exact h.inF p hp
  · obtain ⟨hb, e⟩ := hdel b x e
    rcases hp with hp | hp
    · rcases List.mem_cons.mp hp with rfl | hp
      · refine ⟨Ne.symm hb, fun d' q z => ?_⟩
        have := (h.own b x d' e q).1
        rw [show d' = a from z.symm, ha] at this; cases this
      rcases List.mem_cons.mp hp with rfl | hp
      · refine ⟨fun z => ?_, fun d' q z => ?_⟩
        · rw [← show d = b from z, hda.1] at e; cases e
        · exact hb (hda.2 b x e (by rw [q, show d = d' from z]))
      · exact h.ap b x e p (.inl hp)
    · exact h.ap b x e p (.inr hp)
  · obtain ⟨hb, e⟩ := hdel b x e
    obtain ⟨h1, h2⟩ := h.own b x d e q
    refine ⟨?_, fun a' o2 e' q' => h2 a' o2 (hdel a' o2 e').2 q'⟩
    unfold Store.del; split; rfl; exact h1
  · rcases List.mem_cons.mp hp with rfl | hp
    · exact fun z => (h.ap a _ ha q (.inr hq)).1 z.symm
    rcases List.mem_cons.mp hp with rfl | hp
    · exact fun z => (h.ap a _ ha q (.inr hq)).2 d rfl z.symm
    · exact h.fh p hp q hq

/-- a hidden thing laid by -/
theorem Own.addHid {σ : Store} {fz hid news : Led} {a : Addr} {o : Obj} (h : Own σ fz hid news) (hn : ∀ p ∈ news, p.1 ≠ a) : Own σ fz ((a, o) :: hid) ((a, o) :: news) := by
  have na : ∀ b x, σ b = some x → b ≠ a := fun b x e q => by
    subst q; obtain ⟨o2, hm⟩ := objIn_addr (h.sto b x e); exact hn _ hm rfl
  have nd : ∀ b x d, σ b = some x → x.dict = some d → d ≠ a := fun b x d e z q => by
    subst q; obtain ⟨o2, hm⟩ := objIn_dict (h.sto b x e) z; exact hn _ hm rfl
  refine ⟨by rw [List.map_cons, List.nodup_cons]; exact ⟨fun q => by obtain ⟨p, hp, e⟩ := List.mem_map.mp q; exact hn p hp e, h.nd⟩, fun p hp => .tail _ (h.inF p hp), fun p hp => ?_,
    fun b x e => objIn_mono (h.sto b x e) (fun _ q => q) fun _ q => .tail _ q, fun b x e p hp => ?_, h.own, fun p hp q hq => ?_, ?_⟩
  · rcases List.mem_cons.mp hp with rfl | hp
    · exact .head _
    · exact .tail _ (h.inH p hp)
  · rcases hp with hp | hp
    · exact h.ap b x e p (.inl hp)
    · rcases List.mem_cons.mp hp with rfl | hp
      · exact ⟨Ne.symm (na b x e), fun d q => Ne.symm (nd b x d e q)⟩
      · exact h.ap b x e p (.inr hp)
  · rcases List.mem_cons.mp hq with rfl | hq
    · exact hn p (h.inF p hp)
    · exact h.fh p hp q hq
  · rw [List.map_cons, List.nodup_cons]
    exact ⟨fun q => by obtain ⟨p, hp, e⟩ := List.mem_map.mp q; exact hn p (h.inH p hp) e, h.hn⟩
/-- a hidden thing turned -/
theorem Own.setHid {σ : Store} {fz hid news : Led} {a : Addr} {o o' : Obj} (h : Own σ fz ((a, o) :: hid) news) : Own σ fz ((a, o') :: hid) (repl a o' news) := by
  have hm := h.inH _ (.head _)
  have nh : ∀ p ∈ hid, p.1 ≠ a := fun p hp e => by
    have := h.hn
    rw [List.map_cons, List.nodup_cons] at this
    exact this.1 (List.mem_map.mpr ⟨p, hp, e⟩)
  refine ⟨by rw [repl_fst]; exact h.nd, fun p hp => repl_ne (h.inF p hp) (h.fh p hp _ (.head _)), fun p hp => ?_, fun b x e => objIn_repl (h.sto b x e) (Ne.symm (h.ap b x e _ (.inr (.head _))).1) fun d q => Ne.symm ((h.ap b x e _ (.inr (.head _))).2 d q), fun b x e p hp => ?_, h.own, fun p hp q hq => ?_, h.hn⟩
  · rcases List.mem_cons.mp hp with rfl | hp
    · exact repl_self hm
    · exact repl_ne (h.inH p (.tail _ hp)) (nh p hp)
  · rcases hp with hp | hp
    · exact h.ap b x e p (.inl hp)
    · rcases List.mem_cons.mp hp with rfl | hp
      · exact h.ap b x e (a, o) (.inr (.head _))
      · exact h.ap b x e p (.inr (.tail _ hp))
  · rcases List.mem_cons.mp hq with rfl | hq
    · exact h.fh p hp (a, o) (.head _)
    · exact h.fh p hp q (.tail _ hq)
/-- a hidden thing forgotten -/
theorem Own.dropHid {σ : Store} {fz hid news : Led} {p : Addr × Obj} (h : Own σ fz (p :: hid) news) : Own σ fz hid news :=
  ⟨h.nd, h.inF, fun q hq => h.inH q (.tail _ hq), h.sto, fun b x e q hq => h.ap b x e q (hq.imp id fun z => .tail _ z), h.own, fun q hq r hr => h.fh q hq r (.tail _ hr), by
    have := h.hn
    rw [List.map_cons, List.nodup_cons] at this
    exact this.2⟩
/-- forgotten in the ledger too -/
theorem Own.loseHid {σ : Store} {fz hid news : Led} {a : Addr} {o : Obj} (h : Own σ fz ((a, o) :: hid) news) : Own σ fz hid (news.filter fun p => decide (p.1 ≠ a)) := by
  have nh : ∀ p ∈ hid, p.1 ≠ a := fun p hp e => by
    have := h.hn
    rw [List.map_cons, List.nodup_cons] at this
    exact this.1 (List.mem_map.mpr ⟨p, hp, e⟩)
  have keep : ∀ p ∈ news, p.1 ≠ a → p ∈ news.filter fun p => decide (p.1 ≠ a) := fun p hp hne => List.mem_filter.mpr ⟨hp, by simpa using hne⟩
  have k := h.dropHid
  refine ⟨List.Sublist.nodup (List.Sublist.map _ List.filter_sublist) h.nd, fun p hp => keep p (h.inF p hp) (h.fh p hp _ (.head _)), fun p hp => keep p (k.inH p hp) (nh p hp), fun b x e => ?_, k.ap, k.own, k.fh, k.hn⟩
  have h1 := h.ap b x e _ (.inr (.head _))
  have h2 := h.sto b x e
  cases x with
  | inst C d fs => obtain ⟨m1, es, n, m2, r⟩ := h2; exact ⟨keep _ m1 (Ne.symm h1.1), es, n, keep _ m2 (Ne.symm (h1.2 d rfl)), r⟩
  | list vs => obtain ⟨ws, n, m, r⟩ := h2; exact ⟨ws, n, keep _ m (Ne.symm h1.1), r⟩
  | barr b => exact keep _ h2 (Ne.symm h1.1)

end Lw

end
section
open PySem PySem.W PyProof.Rows PySem.Calls PySem.Spec
set_option maxRecDepth 100000
set_option autoImplicit false
set_option linter.unusedVariables false
namespace Lw

/-! The judgement over the contexts whose stack holds no decoder (nd = true), or over all of them (nd = false). -/
noncomputable def isDec : Code → Bool
  | .builtin id _ => Builtin.Bytes.decodersThatHold.contains id
  | _ => false
noncomputable def NoDec (Γ : PySem.Ctx) : Prop := isDec Γ.code = false ∧ ∀ x ∈ Γ.below, isDec x.1 = false
noncomputable def wpN {α : Type} (nd : Bool) (M : Model) (A : Around) (t : Sem α) (Q : α → Shared → Prop) (E : Value → Shared → Prop) (s : Shared) : Prop :=
  ∀ (Γ : PySem.Ctx) (p : Pos), Γ.In A → (nd = true → NoDec Γ) → Sem.wp M Γ t (fun a _ s' => Q a s') (fun e _ s' => E e s') p s
noncomputable def codeN (nd : Bool) (M : Model) (A : Around) (c : Code) (R : Result → Shared → Prop) (s : Shared) : Prop :=
  ∀ (Γ : PySem.Ctx) (p : Pos), Γ.code = c → Γ.Below A → (nd = true → ∀ x ∈ Γ.below, isDec x.1 = false) → wpCode M Γ R p s

section
variable {α β : Type} {nd : Bool} {M : Model} {A : Around} {E : Value → Shared → Prop} {s : Shared} {env : Env}

theorem wpN.any {t : Sem α} {Q : α → Shared → Prop} (h : wpAny M A t Q E s) : wpN nd M A t Q E s := fun Γ p hΓ _ => h Γ p hΓ
theorem wpN.toAny {t : Sem α} {Q : α → Shared → Prop} (h : wpN false M A t Q E s) : wpAny M A t Q E s := fun Γ p hΓ => h Γ p hΓ (fun x => by cases x)
theorem codeN.any {c : Code} {R : Result → Shared → Prop} (h : codeAny M A c R s) : codeN nd M A c R s := fun Γ p hc hΓ _ => h Γ p hc hΓ
theorem nPure {a : α} {Q : α → Shared → Prop} (h : Q a s) : wpN nd M A (pure a) Q E s := fun _ _ _ _ => h
theorem nMono {t : Sem α} {Q Q' : α → Shared → Prop} {E' : Value → Shared → Prop} (h : wpN nd M A t Q E s) (hQ : ∀ a s, Q a s → Q' a s) (hE : ∀ e s, E e s → E' e s) : wpN nd M A t Q' E' s :=
  fun Γ p hΓ hn => Sem.wp_mono M Γ t (fun a _ s => hQ a s) (fun e _ s => hE e s) p s (h Γ p hΓ hn)
theorem nMonoQ {t : Sem α} {Q Q' : α → Shared → Prop} (h : wpN nd M A t Q E s) (hQ : ∀ a s, Q a s → Q' a s) : wpN nd M A t Q' E s := nMono h hQ fun _ _ x => x
theorem nBind {m : Sem α} {f : α → Sem β} {Q : β → Shared → Prop} (h : wpN nd M A m (fun a s' => wpN nd M A (f a) Q E s') E s) : wpN nd M A (m >>= f) Q E s := fun Γ p hΓ hn => by
  rw [Sem.wp_bind']
  exact Sem.wp_mono M Γ m (fun a p' s' h' => h' Γ p' hΓ hn) (fun _ _ _ h' => h') p s (h Γ p hΓ hn)
theorem nHold {vs : List Value} {m : Sem α} {Q : α → Shared → Prop} (h : wpN nd M A m Q E s) : wpN nd M A (holding vs m) Q E s := fun Γ p hΓ hn => by rw [Sem.wp_holding]; exact h Γ p hΓ hn
theorem nOp {vs : List Value} {m : Sem Value} {Q : Value → Shared → Prop} (h : wpN nd M A m Q E s) : wpN nd M A (operate vs m) Q E s := fun Γ p hΓ hn => by rw [Sem.wp_operate]; exact h Γ p hΓ hn
theorem nStand {pos : Pos} {Q : Unit → Shared → Prop} (h : Q () s) : wpN nd M A (standAt pos) Q E s := fun _ _ _ _ => h
theorem nPoint {Q : Unit → Shared → Prop} (h : Q () s) : wpN nd M A point Q E s := fun _ _ _ _ => h
theorem nRelease {vs ks : List Value} {Q : Unit → Shared → Prop} (h : Q () s) : wpN nd M A (release vs ks) Q E s := fun Γ p hΓ hn => by rw [Sem.wp_release]; exact h
theorem nOnRaise {m : Sem α} {k : Value → Sem Unit} {Q : α → Shared → Prop} (h : wpN nd M A m Q (fun e s' => wpN nd M A (k e) (fun _ s'' => E e s'') E s') s) : wpN nd M A (m.onRaise k) Q E s := fun Γ p hΓ hn => by
  rw [Sem.wp_onRaise]
  exact Sem.wp_mono M Γ m (fun _ _ _ h' => h') (fun e p' s' h' => h' Γ p' hΓ hn) p s (h Γ p hΓ hn)
theorem nAttempt {m : Sem α} {Q : Except Value α → Shared → Prop} (h : wpN nd M A m (fun a => Q (.ok a)) (fun e => Q (.error e)) s) : wpN nd M A m.attempt Q E s := fun Γ p hΓ hn => by rw [Sem.wp_attempt]; exact h Γ p hΓ hn
theorem nBindName {x : Str} {v : Value} {Q : Unit → Shared → Prop} (h : wpN nd M A (storeName env x v) Q E s) : wpN nd M A (bindName env x v) Q E s := fun Γ p hΓ hn => by rw [Sem.wp_bindName]; exact h Γ p hΓ hn

theorem enterN {Γ : PySem.Ctx} {c : Code} {h : Option Value} {p : Pos} (hn : nd = true → NoDec Γ) : nd = true → ∀ x ∈ (Γ.enter c h p).below, isDec x.1 = false := fun e x hx => by
  rcases List.mem_cons.mp hx with rfl | hx
  · exact (hn e).1
  · exact (hn e).2 x hx
theorem nRun {c : Code} {h : Option Value} {Q : Flow → Shared → Prop} (hc : codeN nd M (A.mark h) c (fun r s' => match r with | .ok f => Q f s' | .error e => E e s') s) (hnb : h ≠ some byPass := by intro x; cases x) : wpN nd M A (run c h) Q E s :=
  fun Γ p hΓ hn => by rw [Sem.wp_run]; exact hc _ p rfl (hΓ.enter c h p hnb) (enterN hn)
theorem nRunValue {c : Code} {Q : Value → Shared → Prop} (hc : codeN nd M A c (fun r s' => match r with | .ok (.ret v) => Q v s' | .ok _ => False | .error e => E e s') s) : wpN nd M A (runValue c) Q E s :=
  fun Γ p hΓ hn => by rw [Sem.wp_runValue]; exact hc _ p rfl (hΓ.enter c none p (by intro x; cases x)) (enterN hn)
theorem nCall {f : Value} {pos : List Value} {kw : List (Str × Value)} {Q : Value → Shared → Prop} (hc : codeN nd M A (.call f ⟨pos, kw⟩) (fun r s' => match r with | .ok (.ret v) => Q v s' | .ok _ => False | .error e => E e s') s) :
    wpN nd M A (call f pos kw) Q E s := nRunValue hc
theorem codeN_mono {c : Code} {R R' : Result → Shared → Prop} (h : codeN nd M A c R s) (hR : ∀ r s, R r s → R' r s) : codeN nd M A c R' s := fun Γ p hc hΓ hn => wpCode_mono hR (h Γ p hc hΓ hn)
theorem codeN_tree {c : Code} {R : Result → Shared → Prop} (hd : isDec c = false)
    (h : wpN nd M (A.under c) (M.den c) (fun fin s' => match fin with | .done f => R (.ok f) s' | .again c' => c'.quiet = true ∧ codeN nd M A c' R s') (fun e s' => R (.error e) s') s) : codeN nd M A c R s := fun Γ p hc hΓ hn => by
  rw [wpCode_iff_wp, hc]
  refine Sem.wp_mono M Γ _ (fun fin p' s' h' => ?_) (fun _ _ _ h' => h') p s (h Γ p (hc ▸ hΓ.in) fun e => ⟨hc ▸ hd, hn e⟩)
  cases fin with
  | done f => exact h'
  | again c' => exact ⟨h'.1, h'.2 (Γ.goto c') p' rfl (hΓ.goto c') hn⟩
theorem codeN_loop {c : Code} {R : Result → Shared → Prop} (hd : isDec c = false) (hq : c.quiet = true) (I : Nat → Shared → Prop)
    (turn : ∀ n s, I n s → wpN nd M (A.under c) (M.den c)
      (fun fin s' => match fin with
        | .done f => R (.ok f) s'
        | .again c' => (c' = c ∧ ∃ m, m < n ∧ I m s') ∨ (c'.quiet = true ∧ codeN nd M A c' R s')) (fun e s' => R (.error e) s') s)
    (n : Nat) (h : I n s) : codeN nd M A c R s := by
  induction n using Nat.strongRecOn generalizing s with
  | ind n ih =>
    refine codeN_tree hd (nMonoQ (turn n s h) fun fin s' hf => ?_)
    cases fin with
    | done f => exact hf
    | again c' =>
      rcases hf with ⟨rfl, m, hm, hI⟩ | hf
      · exact ⟨hq, ih m hm hI⟩
      · exact hf

/-- an exception noted on its way -/
noncomputable def notedN (nd : Bool) (M : Model) (A : Around) (env : Env) (E : Value → Shared → Prop) : Value → Shared → Prop := fun x s' => wpN nd M A (noteFrame x env) (fun _ s'' => E x s'') E s'
noncomputable def backN (nd : Bool) (M : Model) (A : Around) (env : Env) (E : Value → Shared → Prop) : Value → Shared → Prop :=
  fun x s' => wpN nd M A (do
    if (← field x 1) == .none then unsupported "frame.own-activation:exception-without-traceback"
    setFlight x env.frame) (fun _ s'' => E x s'') E s'
theorem nNoted {m : Sem α} {Q : α → Shared → Prop} (h : wpN nd M A m Q (notedN nd M A env E) s) : wpN nd M A (m.onRaise fun x => do noteFrame x env; theTreesLotGoes x) Q E s :=
  nOnRaise (nMono h (fun _ _ q => q) fun _ _ hx => nBind (nMonoQ hx fun _ _ e => .any (wpAny_theTreesLotGoes e)))
theorem nRunOwn {c : Code} {h : Option Value} {Q : Flow → Shared → Prop} (hc : codeN nd M (A.mark h) c (fun r s' => match r with | .ok f => Q f s' | .error e => backN nd M A env E e s') s) (hnb : h ≠ some byPass := by intro x; cases x) :
    wpN nd M A (runOwn c env h) Q E s := by
  unfold runOwn
  exact nOnRaise (nRun hc hnb)

/-! nodes -/
theorem nBinOp {l op r pos} {Q : Value → Shared → Prop} (h : wpN nd M A (eval l env) (fun a s₁ => wpN nd M A (eval r env) (fun b s₂ => wpN nd M A (binaryOp op a b) Q E s₂) E s₁) E s) : wpN nd M A (eval (.BinOp l op r pos) env) Q E s := by
  rw [eval_BinOp]
  exact nBind (nMonoQ h fun a s₁ h₁ => nBind (nHold (nMonoQ h₁ fun b s₂ h₂ => nBind (nStand (nOp h₂)))))
theorem nCompare {l op r pos} {Q : Value → Shared → Prop} (h : wpN nd M A (eval l env) (fun a s₁ => wpN nd M A (eval r env) (fun b s₂ => wpN nd M A (compareOp op a b) Q E s₂) E s₁) E s) (hm : behindInMarks op r = false) :
    wpN nd M A (eval (.Compare l [op] [r] pos) env) Q E s := by
  rw [eval_Compare1, markedBehindIn_of_false hm]
  exact nBind (nMonoQ h fun a s₁ h₁ => nBind (nHold (nMonoQ h₁ fun b s₂ h₂ => nBind (nStand (nOp h₂)))))
theorem nSubscript {value slice pos} {Q : Value → Shared → Prop} (h : wpN nd M A (eval value env) (fun o s₁ => wpN nd M A (eval slice env) (fun i s₂ => wpN nd M A (subscriptTail value slice o i) Q E s₂) E s₁) E s) :
    wpN nd M A (eval (.Subscript value slice pos) env) Q E s := by
  rw [eval_Subscript]
  exact nBind (nMonoQ h fun o s₁ h₁ => nBind (nHold (nMonoQ h₁ fun i s₂ h₂ => nBind (nStand h₂))))
theorem nItems {pos : Pos} {e : Expr} {rest : List Expr} {Q : List Value → Shared → Prop} (h : wpN nd M A (eval e env) (fun v s₁ => wpN nd M A (spliced (backTo pos (starEach rest env))) (fun vs s₂ => Q (v :: vs) s₂) E s₁) E s)
    (he : starEach (e :: rest) env = (false, eval e env) :: starEach rest env) : wpN nd M A (spliced (backTo pos (starEach (e :: rest) env))) Q E s := by
  rw [he]
  show wpN nd M A (do
    let v ← eval e env
    let here ← (pure [v] : Sem (List Value))
    return here ++ (← holding here (spliced (backTo pos (starEach rest env))))) Q E s
  exact nBind (nMonoQ h fun v s₁ h₁ => nBind (nPure (nBind (nHold (nMonoQ h₁ fun vs s₂ h₂ => nPure h₂)))))
theorem nTuple {elts : List Expr} {k : Nat} {pos : Pos} {Q : Value → Shared → Prop} (h : wpN nd M A (spliced (backTo pos (starEach elts env)))
      (fun vs s₁ => vs.length ≤ sizeLine ∧ Q (.ref s₁.heap.objs.size) { s₁ with heap := s₁.heap.push { cls := .type "tuple", data := .seq vs.toArray } }) E s) : wpN nd M A (eval (.Tuple elts k pos) env) Q E s := by
  rw [arm_eval_Tuple]
  exact nBind (nStand (nBind (nMonoQ h fun vs s₁ h₁ => .any (wpAny_newObj_type h₁.2 (by show vs.toArray.size ≤ sizeLine; rw [List.size_toArray]; exact h₁.1)))))
theorem nList {elts : List Expr} {pos : Pos} {Q : Value → Shared → Prop} (h : wpN nd M A (spliced (backTo pos (starEach elts env)))
      (fun vs s₁ => vs.length ≤ sizeLine ∧ Q (.ref s₁.heap.objs.size) { s₁ with heap := s₁.heap.push { cls := .type "list", data := .seq vs.toArray } }) E s) : wpN nd M A (eval (.List elts pos) env) Q E s := by
  rw [arm_eval_List]
  exact nBind (nStand (nBind (nMonoQ h fun vs s₁ h₁ => .any (wpAny_newObj_type h₁.2 (by show vs.toArray.size ≤ sizeLine; rw [List.size_toArray]; exact h₁.1)))))
theorem nSlice {lower upper : Option Expr} {p : Pos} {Q : Value → Shared → Prop}
    (h : wpN nd M A (evalPart lower env) (fun l s₁ => wpN nd M A (evalPart upper env) (fun u s₂ => Q (.ref s₂.heap.objs.size) { s₂ with heap := s₂.heap.push { cls := .type "slice", data := .fields #[l, u, .none] } }) E s₁) E s) :
    wpN nd M A (eval (.Slice lower upper none p) env) Q E s := by
  rw [arm_eval_Slice]
  exact nBind (nMonoQ h fun l s₁ h₁ => nBind (nHold (nMonoQ h₁ fun u s₂ h₂ => nBind (nHold (nPure (.any (wpAny_newObj_type h₂)))))))
theorem nTrueValue {e : Expr} {whole : Sem Value} {Q : Bool → Shared → Prop} (h : wpN nd M A whole (fun v s₁ => wpN nd M A (truthy v) Q E s₁) E s) (he : isTrue e env whole = (do let v ← whole; standAt e.pos; holding [v] (truthy v))) : wpN nd M A (isTrue e env whole) Q E s := by
  rw [he]
  exact nBind (nMonoQ h fun v s₁ h₁ => nBind (nStand (nHold h₁)))
theorem nTrueCompare {l op r pos whole} {Q : Bool → Shared → Prop} (h : wpN nd M A (eval l env) (fun a s₁ => wpN nd M A (eval r env) (fun b s₂ => wpN nd M A (compareOp op a b) (fun c s₃ => wpN nd M A (truthy c) Q E s₃) E s₂) E s₁) E s) (hm : behindInMarks op r = false) :
    wpN nd M A (isTrue (.Compare l [op] [r] pos) env whole) Q E s := by
  rw [isTrue_Compare1, markedBehindIn_of_false hm]
  exact nBind (nMonoQ h fun a s₁ h₁ => nBind (nHold (nMonoQ h₁ fun b s₂ h₂ => nBind (nStand (nBind (nOp (nMonoQ h₂ fun c s₃ h₃ => nHold h₃)))))))
theorem nTrueNot {x : Expr} {pos : Pos} {whole : Sem Value} {Q : Bool → Shared → Prop} (h : wpN nd M A (isTrue x env (eval x env)) (fun b s₁ => Q (!b) s₁) E s) : wpN nd M A (isTrue (.UnaryOp .Not x pos) env whole) Q E s := by
  show wpN nd M A (do return !(← isTrue x env (eval x env))) Q E s
  exact nBind (nMonoQ h fun b s₁ h₁ => nPure h₁)
theorem nAllAnd {x : Expr} {rest : List Expr} {Q : Bool → Shared → Prop} (h : wpN nd M A (isTrue x env (eval x env)) (fun b s₁ => if b then wpN nd M A (allTrue .And rest env) Q E s₁ else Q false s₁) E s) : wpN nd M A (allTrue .And (x :: rest) env) Q E s := by
  show wpN nd M A (do match BoolOp.And, ← isTrue x env (eval x env) with | .And, false => pure false | .Or, true => pure true | _, _ => allTrue .And rest env) Q E s
  refine nBind (nMonoQ h fun b s₁ h₁ => ?_)
  cases b
  · exact nPure h₁
  · exact h₁
theorem nAllOr {x : Expr} {rest : List Expr} {Q : Bool → Shared → Prop} (h : wpN nd M A (isTrue x env (eval x env)) (fun b s₁ => if b then Q true s₁ else wpN nd M A (allTrue .Or rest env) Q E s₁) E s) : wpN nd M A (allTrue .Or (x :: rest) env) Q E s := by
  show wpN nd M A (do match BoolOp.Or, ← isTrue x env (eval x env) with | .And, false => pure false | .Or, true => pure true | _, _ => allTrue .Or rest env) Q E s
  refine nBind (nMonoQ h fun b s₁ h₁ => ?_)
  cases b
  · exact h₁
  · exact nPure h₁
/-! statements -/
theorem nCons {st rest} {Q : Flow → Shared → Prop} (h : wpN nd M A (exec st env) (fun f s' => match f with | .next => wpN nd M A (execs rest env) Q E s' | f => Q f s') E s) : wpN nd M A (execs (st :: rest) env) Q E s := by
  rw [execs_cons]
  refine nBind (nMonoQ h fun f s' h' => ?_)
  cases f <;> first | exact h' | exact nPure h'
theorem nAssign {x pos' value pos} {Q : Flow → Shared → Prop} (h : wpN nd M A (eval value env) (fun v s₁ => wpN nd M A (storeName env x v) (fun _ => Q .next) E s₁) E s) (hs : swapsWith value (some (.Name x pos')) pos.line env = pure false) :
    wpN nd M A (exec (.Assign [.Name x pos'] value pos) env) Q E s := by
  rw [exec_Assign_Name env x pos' value pos hs]
  exact nBind (nStand (nBind (nMonoQ h fun v s₁ h₁ => nBind (nStand (nBind (nBindName (nMonoQ h₁ fun _ _ z => nPure z)))))))
theorem nAug {x pos' op value pos} {Q : Flow → Shared → Prop} (h : wpN nd M A (loadName env x) (fun old s₁ => wpN nd M A (eval value env) (fun v s₂ => wpN nd M A (inplaceOp op old v)
      (fun r s₃ => wpN nd M A (storeName env x r) (fun _ => Q .next) E s₃) E s₂) E s₁) E s) : wpN nd M A (exec (.AugAssign (.Name x pos') op value pos) env) Q E s := by
  rw [exec_AugAssign_Name]
  exact nBind (nStand (nBind (nMonoQ h fun old s₁ h₁ => nBind (nHold (nMonoQ h₁ fun v s₂ h₂ => nBind (nStand (nBind (nOp (nMonoQ h₂ fun r s₃ h₃ => nBind (nStand (nBind (nBindName (nMonoQ h₃ fun _ _ z => nPure z)))))))))))))
theorem nAssignAttr {o attr pos' value pos} {Q : Flow → Shared → Prop} (h : wpN nd M A (eval value env) (fun v s₁ => wpN nd M A (eval o env) (fun ov s₂ => wpN nd M A (setAttr ov attr v) (fun _ => Q .next) E s₂) E s₁) E s)
    (hs : swapsWith value (some (.Attribute o attr pos')) pos.line env = pure false) : wpN nd M A (exec (.Assign [.Attribute o attr pos'] value pos) env) Q E s := by
  rw [plainObj_exec_Assign_Attribute o attr pos' value pos hs]
  refine nBind (nStand (nBind (nMonoQ h fun v s₁ h₁ => ?_)))
  rw [assign_Attribute]
  exact nBind (nBind (nHold (nMonoQ h₁ fun ov s₂ h₂ => nBind (nStand (nBind (nHold (nMonoQ h₂ fun _ s₃ h₃ => nRelease (nPure h₃))))))))
theorem nAugAttr {o value : Expr} {attr : Str} {tpos pos : Pos} {op : Operator} {Q : Flow → Shared → Prop}
    (h : wpN nd M A (eval o env) (fun ov s₁ => wpN nd M A (getAttr ov attr true) (fun old s₂ => wpN nd M A (eval value env) (fun v s₃ => wpN nd M A (inplaceOp op old v) (fun new s₄ => wpN nd M A (setAttr ov attr new) (fun _ => Q .next) E s₄) E s₃) E s₂) E s₁) E s) :
    wpN nd M A (exec (.AugAssign (.Attribute o attr tpos) op value pos) env) Q E s := by
  have e : exec (.AugAssign (.Attribute o attr tpos) op value pos) env = (do
      standAt pos
      let ov ← eval o env
      let new ← holding [ov] (do
        standAt tpos.atName
        let old ← getAttr ov attr true
        let v ← holding [old] (eval value env)
        standAt pos
        operate [old, v] (inplaceOp op old v))
      standAt tpos.atName
      holding [new, ov] (setAttr ov attr new)
      release [new, ov] []
      pure .next) := rfl
  rw [e]
  exact nBind (nStand (nBind (nMonoQ h fun ov s₁ h₁ => nBind (nHold (nBind (nStand (nBind (nMonoQ h₁ fun old s₂ h₂ => nBind (nHold (nMonoQ h₂ fun v s₃ h₃ => nBind (nStand (nOp (nMonoQ h₃ fun new s₄ h₄ =>
    nBind (nStand (nBind (nHold (nMonoQ h₄ fun _ s₅ h₅ => nBind (nRelease (nPure h₅)))))))))))))))))))
theorem nIf {test body orelse pos} {Q : Flow → Shared → Prop} (h : wpN nd M A (isTrue test env (eval test env)) (fun b s₂ => if b then wpN nd M A (execs body env) Q E s₂ else wpN nd M A (execs orelse env) Q E s₂) E s) :
    wpN nd M A (exec (.If test body orelse pos) env) Q E s := by
  rw [exec_If]
  refine nBind (nStand (nBind (nMonoQ h fun b s₂ h₂ => ?_)))
  cases b <;> exact h₂
theorem nReturn {e pos} {Q : Flow → Shared → Prop} (h : wpN nd M A (eval e env) (fun v => Q (.ret v)) E s) : wpN nd M A (exec (.Return (some e) pos) env) Q E s := by
  rw [exec_Return_some]
  exact nBind (nStand (nBind (nMonoQ h fun v s₁ h₁ => nPure h₁)))
theorem nExpr {e pos} {Q : Flow → Shared → Prop} (h : wpN nd M A (eval e env) (fun v s' => match v with | .ref _ => False | _ => Q .next s') E s) (hi : interactive env = false) (hs : swapsWith e none pos.line env = pure false) : wpN nd M A (exec (.Expr e pos) env) Q E s := by
  rw [exec_Expr env e pos hi hs]
  refine nBind (nStand (nBind (nMonoQ h fun v s' h' => ?_)))
  have hv : ∀ a, v ≠ .ref a := fun a hva => by subst hva; exact h'
  rw [dropValue_plain hv]
  refine nPure ?_
  cases v <;> first | exact h' | exact (hv _ rfl).elim
theorem nAssignTuple {elts k tpos value pos} {Q : Flow → Shared → Prop} (h : wpN nd M A (eval value env) (fun v s₁ => wpN nd M A (assign (.Tuple elts k tpos) env v) (fun _ => Q .next) E s₁) E s)
    (hs : swapsWithSole [.Tuple elts k tpos] value pos.line env = pure false) (hw : swappedStores [.Tuple elts k tpos] value env = pure none) : wpN nd M A (exec (.Assign [.Tuple elts k tpos] value pos) env) Q E s := by
  rw [exec_Assign]
  refine nBind (nStand ?_)
  rw [hs]
  refine nBind (nPure (nBind (nMonoQ h fun v s₁ h₁ => ?_)))
  rw [hw]
  refine nBind (nPure ?_)
  show wpN nd M A (do assignAll v [assign (.Tuple elts k tpos) env]; pure Flow.next) Q E s₁
  exact nBind (nMonoQ h₁ fun _ s₂ h₂ => nPure h₂)
end

section
variable {nd : Bool} {prog : Program} {w : World} {A : Around} {E : Value → Shared → Prop} {R : Result → Shared → Prop} {s : Shared} {env : Env}
theorem codeN_while {test body} (I : Nat → Shared → Prop)
    (turn : ∀ n s, I n s → wpN nd (model prog w) A (isTrue test env (eval test env)) (fun b s₂ =>
        if b then wpN nd (model prog w) A (execs body env) (fun f s₃ => match f with
            | .next | .cont => ∃ m, m < n ∧ I m s₃
            | .brk => R (.ok .next) s₃
            | .ret v => R (.ok (.ret v)) s₃) (notedN nd (model prog w) A env fun e s' => R (.error e) s') s₂
        else R (.ok .next) s₂) (notedN nd (model prog w) A env fun e s' => R (.error e) s') s)
    (n : Nat) (h : I n s) : codeN nd (model prog w) A (.whileLoop test body [] env) R s := by
  refine codeN_loop rfl rfl I (fun n s hI => ?_) n h
  show wpN nd _ A ((whileTurn test body [] env).onRaise (fun x => do noteFrame x env; theTreesLotGoes x)) _ _ s
  refine nNoted ?_
  simp only [whileTurn]
  refine nBind (nMonoQ (turn n s hI) fun b s₂ h₂ => ?_)
  cases b with
  | false =>
    simp only [Bool.false_eq_true, if_false] at h₂ ⊢
    exact nBind (.any (wpAny_execs_nil (nPure h₂)))
  | true =>
    simp only [if_true] at h₂ ⊢
    refine nBind (nMonoQ h₂ fun f s₃ h₃ => ?_)
    cases f with
    | next => exact nPure (.inl ⟨rfl, h₃⟩)
    | cont => exact nPure (.inl ⟨rfl, h₃⟩)
    | brk => exact nPure h₃
    | ret v => exact nPure h₃
theorem codeN_for {target it body} (I : Nat → Shared → Prop)
    (turn : ∀ n s, I n s → wpN nd (model prog w) A (pyNext it) (fun r s₁ => match r with
      | none => R (.ok .next) s₁
      | some v => wpN nd (model prog w) A (letOwnedTupleGo target it v) (fun _ s₁' =>
          wpN nd (model prog w) A (assign target env v) (fun _ s₂ => wpN nd (model prog w) A (execs body env) (fun f s₃ => match f with
            | .next | .cont => ∃ m, m < n ∧ I m s₃
            | .brk => R (.ok .next) s₃
            | .ret v => R (.ok (.ret v)) s₃) (notedN nd (model prog w) A env fun e s' => R (.error e) s') s₂) (notedN nd (model prog w) A env fun e s' => R (.error e) s') s₁') (notedN nd (model prog w) A env fun e s' => R (.error e) s') s₁) (notedN nd (model prog w) A env fun e s' => R (.error e) s') s)
    (n : Nat) (h : I n s) : codeN nd (model prog w) A (.forLoop target it body [] env) R s := by
  refine codeN_loop rfl rfl I (fun n s hI => ?_) n h
  show wpN nd _ A ((forTurn target it body [] env).onRaise (fun x => do noteFrame x env; theTreesLotGoes x)) _ _ s
  refine nNoted ?_
  simp only [forTurn]
  refine nBind (nStand (nBind (nOnRaise (nMono (turn n s hI) (fun r s₁ h₁ => ?_) fun _ _ h' => nStand h'))))
  cases r with
  | none => exact nPure (.inr ⟨rfl, .any (codeAny_block (wpAny_execs_nil h₁))⟩)
  | some v =>
    refine nBind (nMonoQ h₁ fun _ s₁' h₁' => ?_)
    refine nBind (nMonoQ h₁' fun _ s₂ h₂ => nBind (nMonoQ h₂ fun f s₃ h₃ => ?_))
    cases f with
    | next => exact nPure (.inl ⟨rfl, h₃⟩)
    | cont => exact nPure (.inl ⟨rfl, h₃⟩)
    | brk => exact nPure h₃
    | ret v => exact nPure h₃
theorem nWhile {test body pos} {Q : Flow → Shared → Prop} (h : codeN nd (model prog w) A (.whileLoop test body [] env) (fun r s' => match r with | .ok f => Q f s' | .error e => backN nd (model prog w) A env E e s') s) :
    wpN nd (model prog w) A (exec (.While test body [] pos) env) Q E s := by
  rw [exec_While]; exact nBind (nStand (nRunOwn (h := none) h))
theorem nFor {target iter body pos} {Q : Flow → Shared → Prop} (h : wpN nd (model prog w) A (eval iter env) (fun x s₁ => wpN nd (model prog w) A (pyIter x) (fun it s₂ =>
      codeN nd (model prog w) A (.forLoop target it body [] env) (fun r s' => match r with | .ok f => Q f s' | .error e => backN nd (model prog w) A env E e s') s₂) E s₁) E s)
    (hs : ∀ x, foldedSetIterable iter env x = pure x) : wpN nd (model prog w) A (exec (.For target iter body [] pos) env) Q E s := by
  rw [exec_For]
  refine nBind (nStand (nBind (nMonoQ h fun x s₁ h₁ => ?_)))
  rw [hs x]
  exact nBind (nPure (nBind (nStand (nBind (nHold (nMonoQ h₁ fun it s₂ h₂ => nRunOwn (h := none) h₂))))))

/-! calls -/
theorem codeN_func {body} (h : wpN nd (model prog w) (A.deeper env) (execs body env) (fun f s' => R (.ok (.ret (match f with | .ret v => v | _ => .none))) s')
      (fun e s' => wpN nd (model prog w) (A.deeper env) (leaving env e) (fun _ s'' => R (.error e) s'') (fun e' s'' => R (.error e') s'') s') s) : codeN nd (model prog w) A (.func body env) R s := by
  refine codeN_tree rfl ?_
  show wpN nd _ (A.deeper env) (do point; match ← (execs body env).onRaise (leaving env) with | .ret v => ret v | _ => ret .none) _ _ s
  refine nBind (nPoint (nBind (nOnRaise (nMonoQ h fun f s' h' => ?_))))
  cases f <;> exact nPure h'
theorem codeN_def {a : Addr} {o : Obj} {fd : FuncData} {body : List Stmt} {args : Args} {binds : List (Str × Value)}
    (hroom : A.depth < recursionLimit) (ho : s.heap.get? a = some o) (hdata : o.data = .func fd) (hlim : s.heap.NoLimit) (hcd : s.heap.CodeRec fd.code fd.qualname) (hbody : fd.body = .stmts body) (hbind : BindsTo s fd args binds)
    (hcell : ∀ x ∈ fd.scope.names, x.2 ≠ .cell) (hloc : ∀ x ∈ binds, fd.scope.names.lookup x.1 = some .local)
    (h : ∀ h₀, h₀.Ns s.heap.objs.size (fun x => binds.reverse.lookup x) → (∀ b o, s.heap.get? b = some o → h₀.get? b = some o) →
      wpN nd (model prog w) (A.deeper (callEnv fd s.heap.objs.size a)) (execs body (callEnv fd s.heap.objs.size a)) (fun f s' => R (.ok (.ret (match f with | .ret v => v | _ => .none))) s')
        (fun e s' => wpN nd (model prog w) (A.deeper (callEnv fd s.heap.objs.size a)) (leaving (callEnv fd s.heap.objs.size a) e) (fun _ s'' => R (.error e) s'') (fun e' s'' => R (.error e') s'') s')
        { s with heap := h₀, toks := s.toks + binds.length })
    (hco : fd.scope.isCoroutine = false) (hgen : fd.scope.isGenerator = false) (hk : fd.scope.kind = .function) : codeN nd (model prog w) A (.call (.ref a) args) R s := by
  refine codeN_tree rfl ?_
  show wpN nd _ A.in1 (callAny (.ref a) args) _ _ s
  simp only [callAny]
  refine nBind (.any (wpAny_load ho ?_))
  obtain ⟨c, oc, vs, tq, hc, hoc, hdc, hq⟩ := hcd
  simp only [hdata, callFunction, hco, hgen, hbody, hc]
  refine nBind (m := field (.ref c) 1) (.any (wpAny_field hoc hdc hq (nBind (nPure ?_))))
  refine nBind (.any (hbind _ _ _ _ (nBind (.any (wpAny_newFunctionEnv hcell hloc (fun h₀ hns₀ hsb₀ => ?_) hk)))))
  refine nBind (.any (wpAny_enterFrame (hlim.fresh _ hsb₀) hroom (nPure (And.intro rfl ?_))))
  have := codeN_func (nd := nd) (h h₀ hns₀ fun b o e => hsb₀.extBut b o (Nat.ne_of_lt (Heap.lt_size e)) (Heap.get?_push_of_some _ e))
  rw [← hc]
  exact this
/-! callees -/
theorem nCallName {x : Str} {p pos : Pos} {args : List Expr} {Q : Value → Shared → Prop} (h : wpN nd (model prog w) A (eval (.Name x p) env) (fun f s₁ => wpN nd (model prog w) A (callWith pos f [] (backTo pos (starEach args env)) []) Q E s₁) E s) :
    wpN nd (model prog w) A (eval (.Call (.Name x p) args [] pos) env) Q E s := nBind h
theorem nEvalArgs {f : Value} {x : Sem Value} {rest : List (Bool × Sem Value)} {Q : Args → Shared → Prop} (h : wpN nd (model prog w) A (spliced ((false, x) :: rest)) (fun vs s₁ => Q ⟨vs, []⟩ s₁) E s) : wpN nd (model prog w) A (evalArgs f true ((false, x) :: rest) []) Q E s := by
  unfold evalArgs
  show wpN nd _ A (spliced ((false, x) :: rest) >>= _) Q E s
  refine nBind (nMonoQ h fun vs s' h' => nHold ?_)
  exact nBind (nPure (nBind (nPure (nPure h'))))
theorem nKeep {α : Type} {vs : List Value} {m : Sem α} {Q : α → Shared → Prop} (h : wpN nd (model prog w) A m Q E s) : wpN nd (model prog w) A (m.keep vs) Q E s := fun Γ p hΓ hn => by rw [Sem.wp_keep]; exact h Γ p hΓ hn
/-- a callee whose keeper is known -/
noncomputable def Kept (M : Model) (h : Heap) (f : Value) : Prop := ∃ k, (k = Keeper.frame ∨ k = Keeper.machine ∨ k = Keeper.boundFrame) ∧ Looks M h (keeperOf f) k
theorem kept_builtin {M : Model} {h : Heap} {id : String} : Kept M h (.builtin id) := ⟨.machine, .inr (.inl rfl), Looks.of_pure rfl⟩
theorem kept_type {M : Model} {h : Heap} {T : String} : Kept M h (.type T) := ⟨.machine, .inr (.inl rfl), Looks.of_pure rfl⟩
theorem nCallWith {pos : Pos} {f : Value} {first : List Value} {args : List (Bool × Sem Value)} {Q : Value → Shared → Prop} (hplain : args.any (·.1) = false)
    (h : wpN nd (model prog w) A (evalArgs f true args []) (fun a s₁ => Kept (model prog w) s₁.heap f ∧ wpN nd (model prog w) A (call f (first ++ a.pos) a.kw) Q E s₁) E s) : wpN nd (model prog w) A (callWith pos f first args []) Q E s := by
  unfold callWith
  refine nBind (nHold (nMonoQ h fun a s₁ h₁ => nBind (nStand ?_)))
  obtain ⟨⟨k, hk, L⟩, h₁⟩ := h₁
  simp only [hplain, List.any_nil, Bool.or_false]
  refine nBind (.any (L.here ?_))
  have tail : ∀ {t : Sem Value}, wpN nd (model prog w) A t Q E s₁ → wpN nd (model prog w) A (t >>= fun r => holding [r] point >>= fun _ => pure r) Q E s₁ := fun ht => nBind (nMonoQ ht fun r s₂ hr => nBind (nHold (nPoint (nPure hr))))
  have marked (mk : Value) : wpN nd (model prog w) A (callMarked mk f (first ++ a.pos) a.kw) Q E s₁ := by unfold callMarked; exact nKeep h₁
  rcases hk with rfl | rfl | rfl <;> dsimp only <;> first | exact tail h₁ | (split <;> first | exact tail h₁ | exact tail (marked _))
theorem nEvalArgs0 {f : Value} {Q : Args → Shared → Prop} (h : Q ⟨[], []⟩ s) : wpN nd (model prog w) A (evalArgs f true [] []) Q E s := .any (evalArgs_nil3 h)
end
end Lw

end
section
open PySem PySem.W PyProof.Rows PySem.Calls PySem.Spec
set_option maxRecDepth 100000
set_option autoImplicit false
set_option linter.unusedVariables false
namespace Lw

structure Gl where
  prog : Program
  w : World
  K : Frag
  p : Program
  loose : List Str
  mean : ExcName → Option Value
  mg : Str → Option Value
  mb : Str → Option Value
  exc : List Addr
noncomputable abbrev Gl.M (g : Gl) : Model := model g.prog g.w

structure Ctx (g : Gl) where
  nd : Bool
  cn : Str
  cs : Scope
  L : Addr
  a : Addr
  ccd : Value
  cl : List (Str × Addr)
  outer : List Env
  A₀ : Around
  A : Around
  base : Heap
  h₀ : Heap
  gens : Array GenState
  drawn : Drawn
  os : OsState
noncomputable abbrev Ctx.env {g : Gl} (C : Ctx g) : Env := envX C.cn C.cs C.L C.a C.ccd C.cl

structure Ctx.Ok {g : Gl} (C : Ctx g) : Prop where
  B : Below C.A₀ C.base C.outer C.h₀
  X : g.K.In C.h₀
  T : Top g.p g.loose g.mean g.mg g.mb C.h₀
  hA : C.A.frames = some (C.env :: C.outer)
  hh : C.A.handled = none
  hk : C.cs.kind = .function
  hg : C.A.guards = some []
/-- room for n more calls -/
noncomputable def Ctx.Room {g : Gl} (C : Ctx g) (n : Nat) : Prop := C.A.depth + 4 * n + 4 < recursionLimit ∧ C.A.units + 16 * n + 16 < cLine
theorem Ctx.Room.le {g : Gl} {C : Ctx g} {n m : Nat} (h : C.Room n) (k : m ≤ n) : C.Room m := by
  obtain ⟨a, b⟩ := h
  exact ⟨by lia, by lia⟩

structure St {g : Gl} (C : Ctx g) (ρ : Loc) (σ : Store) (fz hid : Led) (s : Shared) : Prop where
  ex : ∃ m news, Fr C.h₀ C.L s.heap m ∧ News C.h₀ C.L s.heap news ∧ LocRel ρ fz m ∧ Own σ fz hid news
  gens : s.gens = C.gens
  drawn : s.drawn = C.drawn
  os : s.os = C.os
theorem St.op {g : Gl} {C : Ctx g} {ρ : Loc} {σ : Store} {fz hid : Led} {s : Shared} {P : Prop} (st : St C ρ σ fz hid s) (k : ∀ m news, Fr C.h₀ C.L s.heap m → News C.h₀ C.L s.heap news → LocRel ρ fz m → Own σ fz hid news → P) : P :=
  Ex2 st.ex fun m news h => An4 h (k m news)
theorem St.op7 {g : Gl} {C : Ctx g} {ρ : Loc} {σ : Store} {fz hid : Led} {s : Shared} {P : Prop} (st : St C ρ σ fz hid s)
    (k : ∀ m news, Fr C.h₀ C.L s.heap m → News C.h₀ C.L s.heap news → LocRel ρ fz m → Own σ fz hid news → s.gens = C.gens → s.drawn = C.drawn → s.os = C.os → P) : P :=
  Ex2 st.ex fun m news h => An4 h fun a b c d => k m news a b c d st.gens st.drawn st.os
theorem St.le {g : Gl} {C : Ctx g} {ρ ρ' : Loc} {σ σ' : Store} {fz hid : Led} {s : Shared} (h : St C ρ σ fz hid s) (k : Loc.Le ρ' ρ) (k' : Store.Le σ' σ) : St C ρ' σ' fz hid s := by
  refine h.op7 fun m news F N l o a b c => ?_
  exact ⟨⟨m, news, F, N, l.le k, o.le k'⟩, a, b, c⟩
theorem St.toks {g : Gl} {C : Ctx g} {ρ : Loc} {σ : Store} {fz hid : Led} {s : Shared} (h : St C ρ σ fz hid s) (n : Nat) : St C ρ σ fz hid { s with toks := n } := ⟨h.ex, h.gens, h.drawn, h.os⟩

/-- what is known where an exception flies -/
noncomputable def ExcCls (g : Gl) (cls : Value) : Prop := ∃ c, cls = .ref c ∧ c ∈ g.exc
inductive XS {g : Gl} (C : Ctx g) (ρ : Loc) : Value → Shared → Prop where
  | made {a : Addr} {cls : Value} {s' : Shared} {gh : Heap} {m : Str → Option Value} {fz : Led} {vs : List Value} : ExcCls g cls → s'.gens = C.gens → s'.drawn = C.drawn → s'.os = C.os → Fr C.h₀ C.L gh m → LocRel ρ fz m →
      Heap.MadeExcOf gh s'.heap a cls vs → XS C ρ (.ref a) s'
  | fly {a : Addr} {cls a0 : Value} {s' : Shared} {gh : Heap} {m : Str → Option Value} {fz : Led} : ExcCls g cls → s'.gens = C.gens → s'.drawn = C.drawn → s'.os = C.os → Fr C.h₀ C.L gh m → LocRel ρ fz m → gh.UpToSlots s'.heap →
      Heap.FlyingW C.base (C.env :: C.outer) a cls a0 s'.heap → XS C ρ (.ref a) s'
  | held {a : Addr} {cls a0 : Value} {s' : Shared} {gh : Heap} {m : Str → Option Value} {fz : Led} : ExcCls g cls → s'.gens = C.gens → s'.drawn = C.drawn → s'.os = C.os → Fr C.h₀ C.L gh m → LocRel ρ fz m → gh.UpToSlots s'.heap →
      Heap.HeldW C.base (C.env :: C.outer) a cls a0 C.L s'.heap → XS C ρ (.ref a) s'
/-- a handler of exceptions that takes all these -/
noncomputable def ECl {g : Gl} (C : Ctx g) (E : Value → Shared → Prop) : Prop := ∀ ρ e s', XS C ρ e s' → E e s'
noncomputable def EClAt {g : Gl} (C : Ctx g) (ρ : Loc) (E : Value → Shared → Prop) : Prop := ∀ e s', XS C ρ e s' → E e s'
theorem ECl.at {g : Gl} {C : Ctx g} {E : Value → Shared → Prop} (h : ECl C E) (ρ : Loc) : EClAt C ρ E := h ρ

theorem UpToSlots.made {h h' : Heap} {a : Addr} {cls : Value} {vs : List Value} (x : Heap.MadeExcOf h h' a cls vs) : h.UpToSlots h' := Heap.UpToSlots.of_keeps x.keeps

theorem note_first {M : Model} {A : Around} {E : Value → Shared → Prop} {s : Shared} {base h : Heap} {env : Env} {outer : List Env} {L e : Addr} {cls : Value} {args : List Value} {Q : Unit → Shared → Prop}
    (hfr : A.frames = some (env :: outer)) (hf : env.frame = some L) (hkb : base.StaysIn h) (hl : h.FunFrames base (env :: outer)) (hx : Heap.MadeExcOf h s.heap e cls args)
    (hQ : ∀ h' a0, Heap.HeldW base (env :: outer) e cls a0 L h' → s.heap.UpToSlots h' → Q () { s with heap := h' }) : wpAny M A (noteFrame (.ref e) env) Q E s := by
  obtain ⟨t, he, htn, ht⟩ := hx.there
  have fresh : ∀ b, h.get? b = none → base.get? b = none := fun b hb => by
    cases hq : base.get? b with
    | none => rfl
    | some o' => have := hkb b o' hq; rw [hb] at this; cases this
  unfold noteFrame
  simp only [hf]
  refine wpAny_bind (wpAny_field he rfl (x := .none) rfl ?_)
  rw [if_neg (by decide)]
  refine wpAny_entryW hfr (hl.of_keeps fun b o hb _ => ⟨o, hx.keeps b o hb, rfl⟩) hf he (fun b o hb => hx.keeps b o (hkb b o hb)) (fresh e hx.new) rfl (by simp) (a0 := .ref t) rfl fun h' hN => ?_
  obtain ⟨k1, k2, k3, k4⟩ := hN
  exact hQ h' _ ⟨k1, fresh e hx.new, k2, k3⟩ k4

theorem held_setFlight {M : Model} {A : Around} {E : Value → Shared → Prop} {s : Shared} {base : Heap} {l : List Env} {e L : Addr} {cls a0 : Value} {Q : Unit → Shared → Prop} (hh : Heap.HeldW base l e cls a0 L s.heap)
    (hQ : ∀ h', Heap.HeldW base l e cls a0 L h' → s.heap.UpToSlots h' → Q () { s with heap := h' }) : wpAny M A (setFlight (.ref e) (some L)) Q E s := by
  obtain ⟨hkb, hen, hl, ht⟩ := hh
  obtain ⟨oe, vs, T, oT, ts, he, hcls, hd, h1, hnT, hTe, hT, hdT, h3⟩ := ht
  have hsz3 : 3 < ts.size := (Array.getElem?_eq_some_iff.mp h3).1
  have other : ∀ b, b ≠ T → (s.heap.update T (Obj.mapFields (·.setIfInBounds 3 (rawInt L)))).get? b = s.heap.get? b :=
    fun b hb => Heap.get?_update_other _ _ (Ne.symm hb)
  have noRecord : ∀ b o, s.heap.get? b = some o → (∀ vs, o.data ≠ .fields vs) → b ≠ T := fun b o hb hnf q => by
    rw [q, hT] at hb; injection hb with hb; subst hb; exact hnf ts hdT
  unfold setFlight
  refine wpAny_bind (wpAny_field he hd h1 ?_)
  rw [if_pos (show (Value.ref T != Value.none) = true from by simp)]
  refine wpAny_setField hT hdT hsz3 (hQ _ ⟨fun b o hbo => (other b fun q => by rw [q, hnT] at hbo; cases hbo).trans (hkb b o hbo), hen, hl.of_keeps fun b o hb hnf => ⟨o, (other b (noRecord b o hb hnf)).trans hb, rfl⟩, ?_⟩
    fun b o hb hnf => ⟨o.slots, (other b (noRecord b o hb hnf)).trans hb⟩)
  exact ⟨oe, vs, T, _, _, (other e (Ne.symm hTe)).trans he, hcls, hd, h1, hnT, hTe, Heap.get?_update_self _ hT (Obj.isFreed_of_fields (Obj.data_mapFields hdT _)), Obj.data_mapFields hdT _, by simp [hsz3]⟩

theorem held_field1 {M : Model} {A : Around} {E : Value → Shared → Prop} {s : Shared} {base : Heap} {l : List Env} {e L : Addr} {cls a0 : Value} {Q : Value → Shared → Prop} (hh : Heap.HeldW base l e cls a0 L s.heap)
    (hQ : ∀ T : Addr, Q (.ref T) s) : wpAny M A (field (.ref e) 1) Q E s := by
  obtain ⟨hkb, hen, hl, ht⟩ := hh
  obtain ⟨oe, vs, T, oT, ts, he, hcls, hd, h1, hnT, hTe, hT, hdT, h3⟩ := ht
  exact wpAny_field he hd h1 (hQ T)

theorem funFrames_of {g : Gl} {C : Ctx g} (ok : C.Ok) {h : Heap} {m : Str → Option Value} (F : Fr C.h₀ C.L h m) : h.FunFrames C.base (C.env :: C.outer) ∧ C.base.StaysIn h :=
  let K := pushX ok.B F (env := C.env) rfl ok.hk
  ⟨K.frames, K.stays⟩

theorem XS.noted {g : Gl} {C : Ctx g} (ok : C.Ok) {ρ : Loc} {e : Value} {s' : Shared} {E : Value → Shared → Prop} {Q : Unit → Shared → Prop} (x : XS C ρ e s')
    (hQ : ∀ a cls a0 gh m fz h', e = .ref a → ExcCls g cls → Fr C.h₀ C.L gh m → LocRel ρ fz m → gh.UpToSlots h' → Heap.HeldW C.base (C.env :: C.outer) a cls a0 C.L h' → s'.gens = C.gens → s'.drawn = C.drawn → s'.os = C.os → Q () { s' with heap := h' }) :
    wpAny g.M C.A (noteFrame e C.env) Q E s' := by
  cases x with
  | made hc hg hd ho F l hx =>
    obtain ⟨ff, kb⟩ := funFrames_of ok F
    exact note_first ok.hA rfl kb ff hx fun h' a0 hh hu => hQ _ _ _ _ _ _ _ rfl hc F l ((UpToSlots.made hx).trans hu) hh hg hd ho
  | fly hc hg hd ho F l hu hf =>
    exact wpAny_looks_onW ok.hA rfl hf fun h' hh hu' => hQ _ _ _ _ _ _ _ rfl hc F l (hu.trans hu') hh hg hd ho
  | held hc hg hd ho F l hu hh =>
    exact wpAny_noteFrame_againW rfl hh.2.2.2 (hQ _ _ _ _ _ _ _ rfl hc F l hu hh hg hd ho)

theorem ECl.back {g : Gl} {C : Ctx g} (ok : C.Ok) {E : Value → Shared → Prop} (h : ECl C E) : ECl C (notedN C.nd g.M C.A C.env (backN C.nd g.M C.A C.env E)) := fun ρ e s' x => by
  unfold notedN
  refine .any (x.noted ok fun a cls a0 gh m fz h' he hc F l hu hh hg hd ho => ?_)
  subst he
  unfold backN
  refine nBind (.any (held_field1 (s := { s' with heap := h' }) hh fun T => ?_))
  rw [if_neg (by simp)]
  refine .any (held_setFlight (s := { s' with heap := h' }) hh fun h'' hh' hu' => h ρ _ _ (.held hc hg hd ho F l (hu.trans hu') hh'))

/-- the judgements -/
noncomputable def WTr {g : Gl} (C : Ctx g) (t : Sem Value) (ρ : Loc) (σ : Store) (fz hid : Led) (Q : V → Store → Prop) (X : Prop) : Prop :=
  ∀ s Qc Ec, St C ρ σ fz hid s → (∀ v u σ' fz' s', (∀ p ∈ fz, p ∈ fz') → Rep fz' u v → Q u σ' → St C ρ σ' fz' hid s' → Qc v s') → (X → EClAt C ρ Ec) → wpN C.nd g.M C.A t Qc Ec s
noncomputable def WE {g : Gl} (C : Ctx g) (e : Expr) (ρ : Loc) (σ : Store) (Q : V → Store → Prop) (X : Prop) : Prop := C.Ok → ∀ fz hid, WTr C (eval e C.env) ρ σ fz hid Q X
noncomputable def WCall {g : Gl} (C : Ctx g) (f : V) (as : List V) (ρ : Loc) (σ : Store) (Q : V → Store → Prop) (X : Prop) : Prop := C.Ok → ∀ fz hid v vs, Rep fz f v → Reps fz as vs → WTr C (call v vs) ρ σ fz hid Q X
noncomputable def WBin {g : Gl} (C : Ctx g) (op : Operator) (a b : V) (ρ : Loc) (σ : Store) (Q : V → Store → Prop) (X : Prop) : Prop := C.Ok → ∀ fz hid v w, Rep fz a v → Rep fz b w → WTr C (binaryOp op v w) ρ σ fz hid Q X
noncomputable def WInp {g : Gl} (C : Ctx g) (op : Operator) (a b : V) (ρ : Loc) (σ : Store) (Q : V → Store → Prop) (X : Prop) : Prop := C.Ok → ∀ fz hid v w, Rep fz a v → Rep fz b w → WTr C (inplaceOp op v w) ρ σ fz hid Q X
noncomputable def WCmp {g : Gl} (C : Ctx g) (op : CmpOp) (a b : V) (ρ : Loc) (σ : Store) (Q : V → Store → Prop) (X : Prop) : Prop := C.Ok → ∀ fz hid v w, Rep fz a v → Rep fz b w → WTr C (compareOp op v w) ρ σ fz hid Q X
noncomputable def WSub {g : Gl} (C : Ctx g) (value slice : Expr) (a b : V) (ρ : Loc) (σ : Store) (Q : V → Store → Prop) (X : Prop) : Prop := C.Ok → ∀ fz hid v w, Rep fz a v → Rep fz b w → WTr C (subscriptTail value slice v w) ρ σ fz hid Q X
noncomputable def WGet {g : Gl} (C : Ctx g) (a : V) (x : Str) (ρ : Loc) (σ : Store) (Q : V → Store → Prop) (X : Prop) : Prop := C.Ok → ∀ fz hid v, Rep fz a v → WTr C (getAttr v x true) ρ σ fz hid Q X
noncomputable def WSet {g : Gl} (C : Ctx g) (a : V) (x : Str) (b : V) (ρ : Loc) (σ : Store) (Q : Store → Prop) (X : Prop) : Prop := C.Ok → ∀ fz hid v w, Rep fz a v → Rep fz b w →
  ∀ s Qc Ec, St C ρ σ fz hid s → (∀ σ' s', Q σ' → St C ρ σ' fz hid s' → Qc () s') → (X → EClAt C ρ Ec) → wpN C.nd g.M C.A (setAttr v x w) Qc Ec s
/-- truth of a value -/
noncomputable def WTru {g : Gl} (C : Ctx g) (a : V) (ρ : Loc) (σ : Store) (Q : Bool → Store → Prop) : Prop := C.Ok → ∀ fz hid v, Rep fz a v →
  ∀ s Qc Ec, St C ρ σ fz hid s → (∀ b σ' fz' s', (∀ p ∈ fz, p ∈ fz') → Q b σ' → St C ρ σ' fz' hid s' → Qc b s') → wpN C.nd g.M C.A (truthy v) Qc Ec s
noncomputable def WTest {g : Gl} (C : Ctx g) (e : Expr) (ρ : Loc) (σ : Store) (Q : Bool → Store → Prop) (X : Prop) : Prop := C.Ok → ∀ fz hid s Qc Ec, St C ρ σ fz hid s →
  (∀ b σ' fz' s', (∀ p ∈ fz, p ∈ fz') → Q b σ' → St C ρ σ' fz' hid s' → Qc b s') → (X → EClAt C ρ Ec) → wpN C.nd g.M C.A (isTrue e C.env (eval e C.env)) Qc Ec s
/-- arguments, in order -/
noncomputable def WArgs {g : Gl} (C : Ctx g) (es : List Expr) (ρ : Loc) (σ : Store) (Q : List V → Store → Prop) (X : Prop) : Prop := C.Ok → ∀ (pos : Pos) fz hid s Qc Ec, St C ρ σ fz hid s →
  (∀ vs us σ' fz' s', (∀ p ∈ fz, p ∈ fz') → Reps fz' us vs → Q us σ' → St C ρ σ' fz' hid s' → Qc vs s') → (X → EClAt C ρ Ec) → wpN C.nd g.M C.A (spliced (backTo pos (starEach es C.env))) Qc Ec s
/-- statements: Qn where it goes on, Qr where it returns -/
noncomputable def WS {g : Gl} (C : Ctx g) (t : Sem Flow) (ρ : Loc) (σ : Store) (Qn : Loc → Store → Prop) (Qr : V → Store → Prop) (X : Prop) : Prop := C.Ok → ∀ fz hid s Qc Ec, St C ρ σ fz hid s →
  (∀ ρ' σ' fz' s', (∀ p ∈ fz, p ∈ fz') → Qn ρ' σ' → St C ρ' σ' fz' hid s' → Qc .next s') →
  (∀ v u ρ' σ' fz' s', (∀ p ∈ fz, p ∈ fz') → Rep fz' u v → Qr u σ' → St C ρ' σ' fz' hid s' → Qc (.ret v) s') → (X → ECl C Ec) → wpN C.nd g.M C.A t Qc Ec s

end Lw

end
section
open PySem PySem.W PyProof.Rows PySem.Calls PySem.Spec
set_option maxRecDepth 100000
set_option autoImplicit false
set_option linter.unusedVariables false
namespace Lw

theorem subRefl (fz : Led) : ∀ p ∈ fz, p ∈ fz := fun _ h => h
theorem subTrans {a b c : Led} (h : ∀ p ∈ a, p ∈ b) (k : ∀ p ∈ b, p ∈ c) : ∀ p ∈ a, p ∈ c := fun p q => k p (h p q)

section
variable {g : Gl} {C : Ctx g} {ρ : Loc} {σ : Store} {Q Qr : V → Store → Prop} {Qn : Loc → Store → Prop} {X : Prop}

theorem we_int {i : Int} {k : _} {pos : Pos} (h : Q (.int i) σ) : WE C (.Constant (.int i) k pos) ρ σ Q X := fun ok fz hid s Qc Ec st hQ hX =>
  .any (wpAny_Constant_int (hQ _ _ _ _ _ (subRefl fz) (.int i _) h (st.toks _)))
theorem we_none {k : _} {pos : Pos} (h : Q .none σ) : WE C (.Constant .none k pos) ρ σ Q X := fun ok fz hid s Qc Ec st hQ hX =>
  .any (wpAny_Constant_none (hQ _ _ _ _ _ (subRefl fz) .none h st))
theorem we_bool {b : Bool} {k : _} {pos : Pos} (h : Q (.bool b) σ) : WE C (.Constant (.bool b) k pos) ρ σ Q X := fun ok fz hid s Qc Ec st hQ hX =>
  .any (wpAny_Constant_bool (hQ _ _ _ _ _ (subRefl fz) (.bool b) h st))
theorem we_str {x : Str} {n : Nat} {k : _} {pos : Pos} (hx : x.length ≤ n) (h : Q (.text n) σ) : WE C (.Constant (.str x) k pos) ρ σ Q X := fun ok fz hid s Qc Ec st hQ hX =>
  .any (wpAny_Constant_str (hQ _ _ _ _ _ (subRefl fz) (.text x _ hx) h (st.toks _)))
theorem we_bytes {b : List UInt8} {k : _} {pos : Pos} (h : Q (.bytes b) σ) : WE C (.Constant (.bytes b) k pos) ρ σ Q X := fun ok fz hid s Qc Ec st hQ hX => by
  show wpN C.nd g.M C.A (mkTextBytes b.toArray) Qc Ec s
  exact fun _ _ _ _ => hQ _ _ _ _ _ (subRefl fz) (.bytes b _) h (st.toks _)

theorem we_local {x : Str} {v : V} {pos : Pos} (hv : fget x ρ = some v) (h : Q v σ) (hx : C.env.kindOf x = some .local := by rfl) (hd : (x == ("__debug__" : Str)) = false := by decide) :
    WE C (.Name x pos) ρ σ Q X := fun ok fz hid s Qc Ec st hQ hX => by
  refine st.op fun m news F N l o => ?_
  obtain ⟨w, hw, hr⟩ := l x v hv
  exact .any (nameX_L F hw (hQ _ _ _ _ _ (subRefl fz) hr h st) ok.hk hx hd)
theorem we_global {x : Str} {v : V} {w : Value} {pos : Pos} (hw : nsIn g.K mainGlobals x = some (some w)) (hr : Rep [] v w) (h : Q v σ) (hx : C.env.kindOf x = some .globalImplicit := by rfl) (hd : (x == ("__debug__" : Str)) = false := by decide) :
    WE C (.Name x pos) ρ σ Q X := fun ok fz hid s Qc Ec st hQ hX => by
  refine st.op fun m news F N l o => ?_
  exact .any (nameX_K F ok.X (topRead_of ok.T) hw (hQ _ _ _ _ _ (subRefl fz) (hr.mono fun _ h => by cases h) h st) ok.hk hx hd)
theorem we_builtin {x : Str} {w : Value} {pos : Pos} (hw : nsIn g.K mainGlobals x = some none) (hb : bootBuiltins x = some w) (h : Q (.raw w) σ) (hn : x ≠ "__name__" := by decide) (hx : C.env.kindOf x = some .globalImplicit := by rfl) (hd : (x == ("__debug__" : Str)) = false := by decide) :
    WE C (.Name x pos) ρ σ Q X := fun ok fz hid s Qc Ec st hQ hX => by
  refine st.op fun m news F N l o => ?_
  exact .any (nameX_B F ok.X (topRead_of ok.T) hw hb hn (hQ _ _ _ _ _ (subRefl fz) (.raw w) h st) ok.hk hx hd)

theorem WTr.mono {t : Sem Value} {fz hid : Led} {Q' : V → Store → Prop} {X' : Prop} (h : WTr C t ρ σ fz hid Q X) (k : ∀ v σ', Q v σ' → Q' v σ') (kx : X → X') : WTr C t ρ σ fz hid Q' X' :=
  fun s Qc Ec st hQ hX => h s Qc Ec st (fun v u σ' fz' s' a b c d => hQ v u σ' fz' s' a b (k _ _ c) d) fun x => hX (kx x)
theorem WE.mono {e : Expr} {Q' : V → Store → Prop} {X' : Prop} (h : WE C e ρ σ Q X) (k : ∀ v σ', Q v σ' → Q' v σ') (kx : X → X') : WE C e ρ σ Q' X' :=
  fun ok fz hid => (h ok fz hid).mono k kx
theorem we_bin {l r : Expr} {op : Operator} {pos : Pos} (h : WE C l ρ σ (fun a σ₁ => WE C r ρ σ₁ (fun b σ₂ => WBin C op a b ρ σ₂ Q X) X) X) : WE C (.BinOp l op r pos) ρ σ Q X := fun ok fz hid s Qc Ec st hQ hX =>
  nBinOp (h ok fz hid s _ Ec st (fun v u σ₁ fz₁ s₁ f1 r1 h1 st1 => h1 ok fz₁ hid s₁ _ Ec st1 (fun v2 u2 σ₂ fz₂ s₂ f2 r2 h2 st2 =>
    h2 ok fz₂ hid v v2 (r1.mono f2) r2 s₂ _ Ec st2 (fun v3 u3 σ₃ fz₃ s₃ f3 r3 h3 st3 => hQ _ _ _ _ _ (subTrans f1 (subTrans f2 f3)) r3 h3 st3) hX) hX) hX)
theorem we_cmp {l r : Expr} {op : CmpOp} {pos : Pos} (h : WE C l ρ σ (fun a σ₁ => WE C r ρ σ₁ (fun b σ₂ => WCmp C op a b ρ σ₂ Q X) X) X) (hm : behindInMarks op r = false := by with_unfolding_all rfl) :
    WE C (.Compare l [op] [r] pos) ρ σ Q X := fun ok fz hid s Qc Ec st hQ hX =>
  nCompare (h ok fz hid s _ Ec st (fun v u σ₁ fz₁ s₁ f1 r1 h1 st1 => h1 ok fz₁ hid s₁ _ Ec st1 (fun v2 u2 σ₂ fz₂ s₂ f2 r2 h2 st2 =>
    h2 ok fz₂ hid v v2 (r1.mono f2) r2 s₂ _ Ec st2 (fun v3 u3 σ₃ fz₃ s₃ f3 r3 h3 st3 => hQ _ _ _ _ _ (subTrans f1 (subTrans f2 f3)) r3 h3 st3) hX) hX) hX) hm
theorem we_sub {value slice : Expr} {pos : Pos} (h : WE C value ρ σ (fun a σ₁ => WE C slice ρ σ₁ (fun b σ₂ => WSub C value slice a b ρ σ₂ Q X) X) X) : WE C (.Subscript value slice pos) ρ σ Q X := fun ok fz hid s Qc Ec st hQ hX =>
  nSubscript (h ok fz hid s _ Ec st (fun v u σ₁ fz₁ s₁ f1 r1 h1 st1 => h1 ok fz₁ hid s₁ _ Ec st1 (fun v2 u2 σ₂ fz₂ s₂ f2 r2 h2 st2 =>
    h2 ok fz₂ hid v v2 (r1.mono f2) r2 s₂ _ Ec st2 (fun v3 u3 σ₃ fz₃ s₃ f3 r3 h3 st3 => hQ _ _ _ _ _ (subTrans f1 (subTrans f2 f3)) r3 h3 st3) hX) hX) hX)
theorem we_attr {value : Expr} {x : Str} {pos : Pos} (h : WE C value ρ σ (fun a σ₁ => WGet C a x ρ σ₁ Q X) X)
    (he : eval (.Attribute value x pos) C.env = (do
      let o ← eval value C.env
      standAt pos.atName
      let r ← holding [o] (getAttr o x true)
      letTemporaryGo value o r
      pure r) := by with_unfolding_all rfl) : WE C (.Attribute value x pos) ρ σ Q X := fun ok fz hid s Qc Ec st hQ hX =>
  he ▸ nBind (h ok fz hid s _ Ec st (fun v u σ₁ fz₁ s₁ f1 r1 h1 st1 => nBind (nStand (nBind (nHold (h1 ok fz₁ hid v r1 s₁ _ Ec st1 (fun v3 u3 σ₃ fz₃ s₃ f3 r3 h3 st3 =>
    nBind (.any (wpAny_letTemporaryGo (nPure (hQ _ _ _ _ _ (subTrans f1 f3) r3 h3 st3))))) hX))))) hX)

theorem wargs_nil {Q : List V → Store → Prop} (h : Q [] σ) : WArgs C [] ρ σ Q X := fun ok pos fz hid s Qc Ec st hQ hX =>
  .any (wpAny_items_nil (hQ _ _ _ _ _ (subRefl fz) .nil h st))
theorem wargs_cons {e : Expr} {es : List Expr} {Q : List V → Store → Prop} (h : WE C e ρ σ (fun a σ₁ => WArgs C es ρ σ₁ (fun as σ₂ => Q (a :: as) σ₂) X) X)
    (he : starEach (e :: es) C.env = (false, eval e C.env) :: starEach es C.env := by rfl) : WArgs C (e :: es) ρ σ Q X := fun ok pos fz hid s Qc Ec st hQ hX =>
  nItems (h ok fz hid s _ Ec st (fun v u σ₁ fz₁ s₁ f1 r1 h1 st1 => h1 ok pos fz₁ hid s₁ _ Ec st1 (fun vs us σ₂ fz₂ s₂ f2 r2 h2 st2 =>
    hQ _ _ _ _ _ (subTrans f1 f2) (.cons (r1.mono f2) r2) h2 st2) hX) hX) he

/-- a new frozen thing -/
theorem St.pushFz {fz hid : Led} {s : Shared} (st : St C ρ σ fz hid s) (o : Obj) (hf : o.isFreed = false := by rfl) :
    St C ρ σ ((s.heap.objs.size, o) :: fz) hid { s with heap := s.heap.push o } := by
  refine st.op7 fun m news F N l ow a b c => ?_
  exact ⟨⟨m, _, F.push o, N.push F o hf, l.mono fun p h => .tail _ h, ow.addFz fun p hp => Nat.ne_of_lt (Heap.lt_size (N p hp).1)⟩, a, b, c⟩
/-- a new list -/
theorem St.pushList {fz hid : Led} {s : Shared} (st : St C ρ σ fz hid s) {vs : List V} {ws : List Value} (hr : Reps fz vs ws) :
    St C ρ (σ.set s.heap.objs.size (.list vs)) fz hid { s with heap := s.heap.push (listOf ws.toArray 0) } ∧ σ s.heap.objs.size = none := by
  refine st.op7 fun m news F N l ow a b c => ?_
  have hn : ∀ p ∈ news, p.1 ≠ s.heap.objs.size := fun p hp => Nat.ne_of_lt (Heap.lt_size (N p hp).1)
  refine ⟨⟨⟨m, _, F.push _, N.push F _ rfl, l, ow.add hn rfl ⟨ws, 0, .head _, hr⟩⟩, a, b, c⟩, ?_⟩
  cases q : σ s.heap.objs.size with
  | none => rfl
  | some x => obtain ⟨o2, hm⟩ := objIn_addr (ow.sto _ x q); exact absurd rfl (hn _ hm)

theorem we_tuple {es : List Expr} {k : Nat} {pos : Pos} (h : WArgs C es ρ σ (fun vs σ₁ => vs.length ≤ 100 ∧ Q (.tup vs) σ₁) X) : WE C (.Tuple es k pos) ρ σ Q X := fun ok fz hid s Qc Ec st hQ hX =>
  nTuple (h ok pos fz hid s _ Ec st (fun vs us σ₁ fz₁ s₁ f1 r1 h1 st1 => ⟨by rw [r1.length, sizeLine_eq]; lia,
    hQ _ _ _ _ _ (subTrans f1 fun p h => .tail _ h) (.tup (.head _) (r1.mono fun p h => .tail _ h)) h1.2 (st1.pushFz _)⟩) hX)
theorem we_list {es : List Expr} {pos : Pos} (h : WArgs C es ρ σ (fun vs σ₁ => vs.length ≤ 100 ∧ ∀ a, σ₁ a = none → Q (.ref a) (σ₁.set a (.list vs))) X) : WE C (.List es pos) ρ σ Q X := fun ok fz hid s Qc Ec st hQ hX =>
  nList (h ok pos fz hid s _ Ec st (fun vs us σ₁ fz₁ s₁ f1 r1 h1 st1 => ⟨by rw [r1.length, sizeLine_eq]; lia,
    let ⟨st2, hn⟩ := st1.pushList r1; hQ _ _ _ _ _ f1 (.ref _) (h1.2 _ hn) st2⟩) hX)

/-- tests -/
theorem wtest_value {Q' : Bool → Store → Prop} {e : Expr} (h : WE C e ρ σ (fun a σ₁ => WTru C a ρ σ₁ Q') X)
    (he : isTrue e C.env (eval e C.env) = (do let v ← eval e C.env; standAt e.pos; holding [v] (truthy v)) := by rfl) : WTest C e ρ σ Q' X := fun ok fz hid s Qc Ec st hQ hX =>
  nTrueValue (h ok fz hid s _ Ec st (fun v u σ₁ fz₁ s₁ f1 r1 h1 st1 => h1 ok fz₁ hid v r1 s₁ _ Ec st1 fun b σ₂ fz₂ s₂ f2 h2 st2 => hQ _ _ _ _ (subTrans f1 f2) h2 st2) hX) he
theorem wtru_bool {Q' : Bool → Store → Prop} {b : Bool} (h : Q' b σ) : WTru C (.bool b) ρ σ Q' := fun ok fz hid v hr s Qc Ec st hQ =>
  hr.bool_e (.any (wpAny_truthy_bool (hQ _ _ _ _ (subRefl fz) h st)))
theorem wtest_cmp {Q' : Bool → Store → Prop} {l r : Expr} {op : CmpOp} {pos : Pos} (h : WE C l ρ σ (fun a σ₁ => WE C r ρ σ₁ (fun b σ₂ => WCmp C op a b ρ σ₂ (fun c σ₃ => WTru C c ρ σ₃ Q') X) X) X) (hm : behindInMarks op r = false := by with_unfolding_all rfl) :
    WTest C (.Compare l [op] [r] pos) ρ σ Q' X := fun ok fz hid s Qc Ec st hQ hX =>
  nTrueCompare (h ok fz hid s _ Ec st (fun v u σ₁ fz₁ s₁ f1 r1 h1 st1 => h1 ok fz₁ hid s₁ _ Ec st1 (fun v2 u2 σ₂ fz₂ s₂ f2 r2 h2 st2 =>
    h2 ok fz₂ hid v v2 (r1.mono f2) r2 s₂ _ Ec st2 (fun v3 u3 σ₃ fz₃ s₃ f3 r3 h3 st3 => h3 ok fz₃ hid v3 r3 s₃ _ Ec st3 fun b σ₄ fz₄ s₄ f4 h4 st4 => hQ _ _ _ _ (subTrans f1 (subTrans f2 (subTrans f3 f4))) h4 st4) hX) hX) hX) hm
theorem wtest_not {Q' : Bool → Store → Prop} {x : Expr} {pos : Pos} (h : WTest C x ρ σ (fun b σ₁ => Q' (!b) σ₁) X) : WTest C (.UnaryOp .Not x pos) ρ σ Q' X := fun ok fz hid s Qc Ec st hQ hX =>
  nTrueNot (h ok fz hid s _ Ec st (fun b σ₁ fz₁ s₁ f1 h1 st1 => hQ _ _ _ _ f1 h1 st1) hX)
/-- all of a chain of ands, ors -/
noncomputable def WAll {g : Gl} (C : Ctx g) (op : BoolOp) (xs : List Expr) (ρ : Loc) (σ : Store) (Q : Bool → Store → Prop) (X : Prop) : Prop := C.Ok → ∀ fz hid s Qc Ec, St C ρ σ fz hid s →
  (∀ b σ' fz' s', (∀ p ∈ fz, p ∈ fz') → Q b σ' → St C ρ σ' fz' hid s' → Qc b s') → (X → EClAt C ρ Ec) → wpN C.nd g.M C.A (allTrue op xs C.env) Qc Ec s
theorem wtest_bool {Q' : Bool → Store → Prop} {op : BoolOp} {xs : List Expr} {pos : Pos} (h : WAll C op xs ρ σ Q' X) : WTest C (.BoolOp op xs pos) ρ σ Q' X := fun ok fz hid s Qc Ec st hQ hX =>
  (arm_isTrue_BoolOp op xs pos C.env _).symm ▸ h ok fz hid s _ Ec st hQ hX
theorem wall_and_nil {Q' : Bool → Store → Prop} (h : Q' true σ) : WAll C .And [] ρ σ Q' X := fun ok fz hid s Qc Ec st hQ hX => .any (wpAny_allTrue_And_nil (hQ _ _ _ _ (subRefl fz) h st))
theorem wall_or_nil {Q' : Bool → Store → Prop} (h : Q' false σ) : WAll C .Or [] ρ σ Q' X := fun ok fz hid s Qc Ec st hQ hX => .any (wpAny_allTrue_Or_nil (hQ _ _ _ _ (subRefl fz) h st))
theorem wall_and {Q' : Bool → Store → Prop} {x : Expr} {xs : List Expr} (h : WTest C x ρ σ (fun b σ₁ => if b then WAll C .And xs ρ σ₁ Q' X else Q' false σ₁) X) : WAll C .And (x :: xs) ρ σ Q' X := fun ok fz hid s Qc Ec st hQ hX =>
  nAllAnd (h ok fz hid s _ Ec st (fun b σ₁ fz₁ s₁ f1 h1 st1 => by
    cases b with
    | true => exact h1 ok fz₁ hid s₁ _ Ec st1 (fun b2 σ₂ fz₂ s₂ f2 h2 st2 => hQ _ _ _ _ (subTrans f1 f2) h2 st2) hX
    | false => exact hQ _ _ _ _ f1 h1 st1) hX)
theorem wall_or {Q' : Bool → Store → Prop} {x : Expr} {xs : List Expr} (h : WTest C x ρ σ (fun b σ₁ => if b then Q' true σ₁ else WAll C .Or xs ρ σ₁ Q' X) X) : WAll C .Or (x :: xs) ρ σ Q' X := fun ok fz hid s Qc Ec st hQ hX =>
  nAllOr (h ok fz hid s _ Ec st (fun b σ₁ fz₁ s₁ f1 h1 st1 => by
    cases b with
    | true => exact hQ _ _ _ _ f1 h1 st1
    | false => exact h1 ok fz₁ hid s₁ _ Ec st1 (fun b2 σ₂ fz₂ s₂ f2 h2 st2 => hQ _ _ _ _ (subTrans f1 f2) h2 st2) hX) hX)

/-- statements -/
noncomputable abbrev WX {g : Gl} (C : Ctx g) (e : Stmt) := WS C (exec e C.env)
noncomputable abbrev WXs {g : Gl} (C : Ctx g) (es : List Stmt) := WS C (execs es C.env)
theorem wxs_nil (h : Qn ρ σ) : WXs C [] ρ σ Qn Qr X := fun ok fz hid s Qc Ec st hn hr hX => .any (wpAny_execs_nil (hn _ _ _ _ (subRefl fz) h st))
theorem wxs_cons {t : Stmt} {ts : List Stmt} (h : WX C t ρ σ (fun ρ₁ σ₁ => WXs C ts ρ₁ σ₁ Qn Qr X) Qr X) : WXs C (t :: ts) ρ σ Qn Qr X := fun ok fz hid s Qc Ec st hn hr hX =>
  nCons (h ok fz hid s _ Ec st (fun ρ₁ σ₁ fz₁ s₁ f1 h1 st1 => h1 ok fz₁ hid s₁ _ Ec st1 (fun ρ₂ σ₂ fz₂ s₂ f2 h2 st2 => hn _ _ _ _ (subTrans f1 f2) h2 st2)
    (fun v u ρ₂ σ₂ fz₂ s₂ f2 r2 h2 st2 => hr _ _ _ _ _ _ (subTrans f1 f2) r2 h2 st2) hX) (fun v u ρ₂ σ₂ fz₂ s₂ f2 r2 h2 st2 => hr _ _ _ _ _ _ f2 r2 h2 st2) hX)
theorem WS.mono {t : Sem Flow} {Qn' : Loc → Store → Prop} {Qr' : V → Store → Prop} {X' : Prop} (h : WS C t ρ σ Qn Qr X) (k : ∀ ρ' σ', Qn ρ' σ' → Qn' ρ' σ') (k' : ∀ v σ', Qr v σ' → Qr' v σ') (kx : X → X') : WS C t ρ σ Qn' Qr' X' :=
  fun ok fz hid s Qc Ec st hn hr hX => h ok fz hid s Qc Ec st (fun a b c d e f g => hn a b c d e (k _ _ f) g) (fun a b c d e f g h i j => hr a b c d e f g h (k' _ _ i) j) fun x => hX (kx x)
/-- what is known may be forgotten -/
theorem WS.le {t : Sem Flow} {ρ' : Loc} {σ' : Store} (h : WS C t ρ' σ' Qn Qr X) (k : Loc.Le ρ' ρ) (k' : Store.Le σ' σ) : WS C t ρ σ Qn Qr X :=
  fun ok fz hid s Qc Ec st hn hr hX => h ok fz hid s Qc Ec (st.le k k') hn hr hX

theorem St.store {fz hid : Led} {s : Shared} (st : St C ρ σ fz hid s) (ok : C.Ok) {x : Str} {u : V} {v : Value} (hr : Rep fz u v) {Q' : Unit → Shared → Prop} {Ec : Value → Shared → Prop}
    (h : ∀ s', St C (fput x u ρ) σ fz hid s' → Q' () s') (hx : C.env.kindOf x = some .local := by rfl) : wpN C.nd g.M C.A (storeName C.env x v) Q' Ec s := by
  refine st.op7 fun m news F N l ow a b c => ?_
  exact .any (storeX_L F N (fun h' F' N' => h _ ⟨⟨_, _, F', N', l.put hr, ow⟩, a, b, c⟩) ok.hk hx)

theorem wx_assign {x : Str} {np pos : Pos} {e : Expr} (h : WE C e ρ σ (fun v σ₁ => Qn (fput x v ρ) σ₁) X) (hx : C.env.kindOf x = some .local := by rfl)
    (hs : swapsWith e (some (.Name x np)) pos.line C.env = pure false := by rfl) : WX C (.Assign [.Name x np] e pos) ρ σ Qn Qr X := fun ok fz hid s Qc Ec st hn hr hX =>
  nAssign (h ok fz hid s _ Ec st (fun v u σ₁ fz₁ s₁ f1 r1 h1 st1 => st1.store ok r1 (fun s₂ st2 => hn _ _ _ _ f1 h1 st2) hx) fun x => (hX x).at ρ) hs
theorem wx_aug {x : Str} {np pos : Pos} {op : Operator} {e : Expr} {old : V} (ho : fget x ρ = some old) (h : WE C e ρ σ (fun v σ₁ => WInp C op old v ρ σ₁ (fun r σ₂ => Qn (fput x r ρ) σ₂) X) X) (hx : C.env.kindOf x = some .local := by rfl) :
    WX C (.AugAssign (.Name x np) op e pos) ρ σ Qn Qr X := fun ok fz hid s Qc Ec st hn hr hX => by
  refine st.op fun m news F N l o => ?_
  obtain ⟨w, hw, hrw⟩ := l x old ho
  refine nAug (.any (wpAny_loadName_local ok.hk hx F.ns hw (h ok fz hid s _ Ec st (fun v u σ₁ fz₁ s₁ f1 r1 h1 st1 => ?_) fun x => (hX x).at ρ)))
  exact h1 ok fz₁ hid _ _ (hrw.mono f1) r1 s₁ _ Ec st1 (fun v2 u2 σ₂ fz₂ s₂ f2 r2 h2 st2 => st2.store ok r2 (fun s₃ st3 => hn _ _ _ _ (subTrans f1 f2) h2 st3) hx) fun x => (hX x).at ρ
theorem wx_setattr {o e : Expr} {x : Str} {ap pos : Pos} (h : WE C e ρ σ (fun v σ₁ => WE C o ρ σ₁ (fun ov σ₂ => WSet C ov x v ρ σ₂ (fun σ₃ => Qn ρ σ₃) X) X) X)
    (hs : swapsWith e (some (.Attribute o x ap)) pos.line C.env = pure false := by rfl) : WX C (.Assign [.Attribute o x ap] e pos) ρ σ Qn Qr X := fun ok fz hid s Qc Ec st hn hr hX =>
  nAssignAttr (h ok fz hid s _ Ec st (fun v u σ₁ fz₁ s₁ f1 r1 h1 st1 => h1 ok fz₁ hid s₁ _ Ec st1 (fun v2 u2 σ₂ fz₂ s₂ f2 r2 h2 st2 =>
    h2 ok fz₂ hid v2 v r2 (r1.mono f2) s₂ _ Ec st2 (fun σ₃ s₃ h3 st3 => hn _ _ _ _ (subTrans f1 f2) h3 st3) fun x => (hX x).at ρ) fun x => (hX x).at ρ) fun x => (hX x).at ρ) hs
theorem wx_augattr {o e : Expr} {x : Str} {op : Operator} {ap pos : Pos} (h : WE C o ρ σ (fun ov σ₁ => WGet C ov x ρ σ₁ (fun old σ₂ => WE C e ρ σ₂ (fun v σ₃ => WInp C op old v ρ σ₃ (fun r σ₄ => WSet C ov x r ρ σ₄ (fun σ₅ => Qn ρ σ₅) X) X) X) X) X) :
    WX C (.AugAssign (.Attribute o x ap) op e pos) ρ σ Qn Qr X := fun ok fz hid s Qc Ec st hn hr hX =>
  nAugAttr (h ok fz hid s _ Ec st (fun v u σ₁ fz₁ s₁ f1 r1 h1 st1 => h1 ok fz₁ hid v r1 s₁ _ Ec st1 (fun v2 u2 σ₂ fz₂ s₂ f2 r2 h2 st2 =>
    h2 ok fz₂ hid s₂ _ Ec st2 (fun v3 u3 σ₃ fz₃ s₃ f3 r3 h3 st3 => h3 ok fz₃ hid _ _ (r2.mono f3) r3 s₃ _ Ec st3 (fun v4 u4 σ₄ fz₄ s₄ f4 r4 h4 st4 =>
      h4 ok fz₄ hid _ _ (r1.mono (subTrans f2 (subTrans f3 f4))) r4 s₄ _ Ec st4 (fun σ₅ s₅ h5 st5 => hn _ _ _ _ (subTrans f1 (subTrans f2 (subTrans f3 f4))) h5 st5)
      fun x => (hX x).at ρ) fun x => (hX x).at ρ) fun x => (hX x).at ρ) fun x => (hX x).at ρ) fun x => (hX x).at ρ)
theorem wx_if {t : Expr} {b o : List Stmt} {pos : Pos} (h : WTest C t ρ σ (fun c σ₁ => if c then WXs C b ρ σ₁ Qn Qr X else WXs C o ρ σ₁ Qn Qr X) X) : WX C (.If t b o pos) ρ σ Qn Qr X := fun ok fz hid s Qc Ec st hn hr hX =>
  nIf (h ok fz hid s _ Ec st (fun c σ₁ fz₁ s₁ f1 h1 st1 => by
    cases c with
    | true => exact h1 ok fz₁ hid s₁ _ Ec st1 (fun ρ₂ σ₂ fz₂ s₂ f2 h2 st2 => hn _ _ _ _ (subTrans f1 f2) h2 st2) (fun v u ρ₂ σ₂ fz₂ s₂ f2 r2 h2 st2 => hr _ _ _ _ _ _ (subTrans f1 f2) r2 h2 st2) hX
    | false => exact h1 ok fz₁ hid s₁ _ Ec st1 (fun ρ₂ σ₂ fz₂ s₂ f2 h2 st2 => hn _ _ _ _ (subTrans f1 f2) h2 st2) (fun v u ρ₂ σ₂ fz₂ s₂ f2 r2 h2 st2 => hr _ _ _ _ _ _ (subTrans f1 f2) r2 h2 st2) hX) fun x => (hX x).at ρ)
theorem wx_return {e : Expr} {pos : Pos} (h : WE C e ρ σ Qr X) : WX C (.Return (some e) pos) ρ σ Qn Qr X := fun ok fz hid s Qc Ec st hn hr hX =>
  nReturn (h ok fz hid s _ Ec st (fun v u σ₁ fz₁ s₁ f1 r1 h1 st1 => hr _ _ _ _ _ _ f1 r1 h1 st1) fun x => (hX x).at ρ)
theorem wx_expr {e : Expr} {pos : Pos} (h : WE C e ρ σ (fun v σ₁ => v = .none ∧ Qn ρ σ₁) X) (hi : interactive C.env = false := by rfl) (hs : swapsWith e none pos.line C.env = pure false := by rfl) :
    WX C (.Expr e pos) ρ σ Qn Qr X := fun ok fz hid s Qc Ec st hn hr hX =>
  nExpr (h ok fz hid s _ Ec st (fun v u σ₁ fz₁ s₁ f1 r1 h1 st1 => by
    obtain ⟨rfl, h1⟩ := h1
    exact r1.none_e (hn _ _ _ _ f1 h1 st1)) fun x => (hX x).at ρ) hi hs
theorem wx_while {t : Expr} {b : List Stmt} {pos : Pos} {ι : Type} (I : ι → Loc → Store → Prop) (μ : ι → Nat) (i₀ : ι) (h0 : I i₀ ρ σ)
    (turn : ∀ i ρ σ, I i ρ σ → WTest C t ρ σ (fun c σ₁ => if c then WXs C b ρ σ₁ (fun ρ' σ' => ∃ j ρ'' σ'', μ j < μ i ∧ I j ρ'' σ'' ∧ Loc.Le ρ'' ρ' ∧ Store.Le σ'' σ') Qr X else Qn ρ σ₁) X) : WX C (.While t b [] pos) ρ σ Qn Qr X := fun ok fz hid s Qc Ec st hn hr hX => by
  refine nWhile (codeN_while (fun n s => ∃ i ρ σ fz', n = μ i ∧ I i ρ σ ∧ (∀ p ∈ fz, p ∈ fz') ∧ St C ρ σ fz' hid s) (fun n s₁ hI => ?_) _ ⟨i₀, ρ, σ, fz, rfl, h0, subRefl fz, st⟩)
  obtain ⟨i, ρ₁, σ₁, fz₁, rfl, hi, f1, st1⟩ := hI
  have hX' : X → ECl C (notedN C.nd g.M C.A C.env (backN C.nd g.M C.A C.env Ec)) := fun x => (hX x).back ok
  refine turn i ρ₁ σ₁ hi ok fz₁ hid s₁ _ _ st1 (fun c σ₂ fz₂ s₂ f2 h2 st2 => ?_) fun x => (hX' x).at ρ₁
  cases c with
  | true =>
    refine h2 ok fz₂ hid s₂ _ _ st2 (fun ρ₃ σ₃ fz₃ s₃ f3 h3 st3 => ?_) (fun v u ρ₃ σ₃ fz₃ s₃ f3 r3 h3 st3 => hr _ _ _ _ _ _ (subTrans f1 (subTrans f2 f3)) r3 h3 st3) hX'
    obtain ⟨j, ρ'', σ'', hm, hj, l1, l2⟩ := h3
    exact ⟨μ j, hm, j, ρ'', σ'', fz₃, rfl, hj, subTrans f1 (subTrans f2 f3), st3.le l1 l2⟩
  | false => exact hn _ _ _ _ (subTrans f1 f2) h2 st2
end
end Lw

end
section
open PySem PySem.W PyProof.Rows PySem.Calls PySem.Spec
set_option maxRecDepth 100000
set_option autoImplicit false
set_option linter.unusedVariables false
namespace Lw

/-- arguments bound -/
inductive RepB (fz : Led) : Loc → List (Str × Value) → Prop where
  | nil : RepB fz [] []
  | cons {x : Str} {v : V} {w : Value} {ρ : Loc} {bs : List (Str × Value)} : Rep fz v w → RepB fz ρ bs → RepB fz ((x, v) :: ρ) ((x, w) :: bs)
theorem RepB.keys {fz : Led} {ρ : Loc} {bs : List (Str × Value)} (h : RepB fz ρ bs) : bs.map (·.1) = ρ.map (·.1) := by
  induction h with
  | nil => rfl
  | cons a _ ih => exact congrArg _ ih
theorem fget_cons (x y : Str) (v : V) (ρ : Loc) : fget x ((y, v) :: ρ) = if y == x then some v else fget x ρ := rfl
theorem RepB.mem {fz : Led} {ρ : Loc} {bs : List (Str × Value)} (h : RepB fz ρ bs) {x : Str} {v : V} (hx : fget x ρ = some v) : ∃ w, (x, w) ∈ bs ∧ Rep fz v w := by
  induction h with
  | nil => cases hx
  | @cons y v' w ρ bs a r ih =>
    rw [fget_cons] at hx
    by_cases hy : (y == x) = true
    · rw [if_pos hy] at hx
      exact ⟨w, eq_of_beq hy ▸ .head _, Option.some.inj hx ▸ a⟩
    · rw [if_neg hy] at hx
      exact (ih hx).elim fun w' h => ⟨w', .tail _ h.1, h.2⟩
theorem lookup_of_mem {x : Str} {w : Value} {bs : List (Str × Value)} : (bs.map (·.1)).Nodup → (x, w) ∈ bs → bs.lookup x = some w := by
  induction bs with
  | nil => exact fun _ h => nomatch h
  | cons p r ih =>
    intro nd h
    rw [List.map_cons, List.nodup_cons] at nd
    rcases List.mem_cons.mp h with e | e
    · subst e; exact List.lookup_cons_self
    · have : (x == p.1) = false := beq_eq_false_iff_ne.mpr fun q => nd.1 (List.mem_map.mpr ⟨_, e, q⟩)
      rw [List.lookup_cons, this]
      exact ih nd.2 e
theorem RepB.loc {fz : Led} {ρ : Loc} {bs : List (Str × Value)} (h : RepB fz ρ bs) (nd : (ρ.map (·.1)).Nodup) : LocRel ρ fz (fun y => bs.reverse.lookup y) := fun x v e => by
  obtain ⟨w, hm, hr⟩ := h.mem e
  refine ⟨w, lookup_of_mem ?_ (List.mem_reverse.mpr hm), hr⟩
  rw [List.map_reverse, h.keys]
  exact List.pairwise_reverse.mpr (nd.imp Ne.symm)

section
variable {g : Gl} {C : Ctx g} {ρ : Loc} {σ : Store} {Q Qr : V → Store → Prop} {Qn : Loc → Store → Prop} {X : Prop}

/-- the frame of a callee -/
noncomputable def Ctx.sub (C : Ctx g) (qual : Str) (scope : Scope) (f : Addr) (cdv : Value) (L' : Addr) (gh : Heap) : Ctx g :=
  { nd := C.nd, cn := qual, cs := scope, L := L', a := f, ccd := cdv, cl := [], outer := C.env :: C.outer, A₀ := C.A, A := C.A.deeper (envX qual scope L' f cdv []), base := C.base, h₀ := gh, gens := C.gens, drawn := C.drawn, os := C.os }

theorem St.news_lt {fz hid : Led} {s : Shared} (st : St C ρ σ fz hid s) : ∀ a o, σ a = some o → a < s.heap.objs.size := fun a o e => by
  refine st.op fun m news F N l ow => ?_
  obtain ⟨o2, hm⟩ := objIn_addr (ow.sto a o e)
  exact Heap.lt_size (N _ hm).1

/-- the same, of the code of a call -/
noncomputable def WCode (C : Ctx g) (f : V) (as : List V) (ρ : Loc) (σ : Store) (Q : V → Store → Prop) (X : Prop) : Prop := C.Ok → ∀ fz hid v vs, Rep fz f v → Reps fz as vs → ∀ s (Qc : Value → Shared → Prop) (Ec : Value → Shared → Prop), St C ρ σ fz hid s →
  (∀ v u σ' fz' s', (∀ p ∈ fz, p ∈ fz') → Rep fz' u v → Q u σ' → St C ρ σ' fz' hid s' → Qc v s') → (X → EClAt C ρ Ec) →
  codeN C.nd g.M C.A (.call v ⟨vs, []⟩) (fun r s' => match r with | .ok (.ret v) => Qc v s' | .ok _ => False | .error e => Ec e s') s
theorem WCode.call {f : V} {as : List V} (h : WCode C f as ρ σ Q X) : WCall C f as ρ σ Q X := fun ok fz hid v vs hf has s Qc Ec st hQ hX => nCall (h ok fz hid v vs hf has s Qc Ec st hQ hX)
theorem wcode_def {n : Nat} {name qual : Str} {params : Arguments} {body : List Stmt} {scope : Scope} {dV kV doc pm cdv ct oc : Value} {an od : Option Addr} {osl : Array (Option Value)} {f : Addr} {as : List V} {ρ' : Loc}
    (ho : g.K.lookup f = some ⟨oc, od, .func (fnOf name qual params body scope dV kV doc pm an cdv ct), osl⟩) (hcd : codeIn g.K cdv qual = true) (room : C.Room (n + 1))
    (hb : ∀ fz s ws, Reps fz as ws → g.K.In s.heap → ∃ bs, BindsTo s (fnOf name qual params body scope dV kV doc pm an cdv ct) ⟨ws, []⟩ bs ∧ RepB fz ρ' bs)
    (hloc : (ρ'.all fun y => scope.names.lookup y.1 == some .local) = true) (hnd : (ρ'.map (·.1)).Nodup)
    (h : ∀ L' gh, (C.sub qual scope f cdv L' gh).Room n → WXs (C.sub qual scope f cdv L' gh) body ρ' σ (fun _ σ' => ∃ σ'', Store.Le σ'' σ' ∧ Q .none σ'') (fun v σ' => ∃ σ'', Store.Le σ'' σ' ∧ Q v σ'') X)
    (hk : scope.kind = .function := by rfl) (hco : scope.isCoroutine = false := by rfl) (hgen : scope.isGenerator = false := by rfl) (hcell : ∀ x ∈ scope.names, x.2 ≠ .cell := by decide) :
    WCode C (.raw (.ref f)) as ρ σ Q X := fun ok fz hid v vs hf has s Qc Ec st hQ hX => by
  refine hf.raw_e ?_
  refine st.op7 fun m news F N l ow sg sd so => ?_
  obtain ⟨bs, hbind, hrb⟩ := hb fz s vs has (ok.X.keeps F.keep)
  have hroom : C.A.depth < recursionLimit := by have := room.1; lia
  have hbl : ∀ y ∈ bs, scope.names.lookup y.1 = some .local := fun y hy => by
    have hk' : y.1 ∈ ρ'.map (·.1) := by rw [← hrb.keys]; exact List.mem_map_of_mem hy
    obtain ⟨z, hz, e⟩ := List.mem_map.mp hk'
    have := List.all_eq_true.mp hloc z hz
    rw [← e]; simpa using this
  obtain ⟨FG, BG, keep', lv⟩ := groundX (R := fun r s' => match r with | .ok (.ret v) => Qc v s' | .ok _ => False | .error e => Ec e s') ok.B F N ok.hA rfl ok.hk
  refine codeN_def (fd := fnOf name qual params body scope dV kV doc pm an cdv ct) (body := body) (binds := bs) hroom ((ok.X.keeps F.keep) _ _ ho) rfl (ok.T.nolimit.keeps F.keep) (codeRec_of (ok.X.keeps F.keep) hcd) rfl hbind hcell hbl (fun h₁ hns hk₁ => ?_) hco hgen hk
  let gh := hideAll s.heap (news.map (·.1))
  let L' := s.heap.objs.size
  have F' : Fr gh L' h₁ (fun x => bs.reverse.lookup x) := ⟨hns, fun b o e => hk₁ b o (of_hideAll _ e), Nat.le_of_eq (hideAll_size _ _)⟩
  have N' : News gh L' h₁ news := fun p hp => ⟨hk₁ _ _ (N p hp).1, Nat.ne_of_lt (Heap.lt_size (N p hp).1), hideAll_none _ (List.mem_map_of_mem hp)⟩
  have B' := BG
  have ok' : (C.sub qual scope f cdv L' gh).Ok := by
    refine ⟨B', ok.X.keeps keep', ok.T.keeps keep', ?_, ok.hh, hk, ok.hg⟩
    show (C.A.frames.map _) = _
    rw [ok.hA]; rfl
  have room' : (C.sub qual scope f cdv L' gh).Room n := by
    obtain ⟨r1, r2⟩ := room
    refine ⟨?_, ?_⟩
    · show C.A.depth + 1 + 4 * n + 4 < recursionLimit; lia
    · show C.A.units + 3 + 16 * n + 16 < cLine; lia
  have st' : St (C.sub qual scope f cdv L' gh) ρ' σ fz hid { s with heap := h₁, toks := s.toks + bs.length } := ⟨⟨_, news, F', N', hrb.loc hnd, ow⟩, sg, sd, so⟩
  have fin : ∀ (u : V) (v : Value) (ρ₂ : Loc) (σ₂ : Store) (fz₂ : Led) (s₂ : Shared), (∀ p ∈ fz, p ∈ fz₂) → Rep fz₂ u v → (∃ σ'', Store.Le σ'' σ₂ ∧ Q u σ'') → St (C.sub qual scope f cdv L' gh) ρ₂ σ₂ fz₂ hid s₂ →
      Qc v s₂ := fun u v ρ₂ σ₂ fz₂ s₂ f2 r2 h2 st2 => by
    refine st2.op7 fun m2 news2 F2 N2 l2 ow2 g2 d2 o2 => ?_
    obtain ⟨σ'', hle, hq⟩ := h2
    exact lv v s₂ ⟨_, m2, news2, F2, N2, fun Fb Nb => hQ v u σ'' fz₂ s₂ f2 r2 hq ⟨⟨m, news2, Fb, Nb, l.mono f2, ow2.le hle⟩, g2, d2, o2⟩⟩
  refine h L' gh room' ok' fz hid _ _ _ st' (fun ρ₂ σ₂ fz₂ s₂ f2 h2 st2 => fin .none .none ρ₂ σ₂ fz₂ s₂ f2 .none h2 st2) (fun v u ρ₂ σ₂ fz₂ s₂ f2 r2 h2 st2 => fin u v ρ₂ σ₂ fz₂ s₂ f2 r2 h2 st2) fun hx => ?_
  have hE := hX hx
  intro ρ₂ e s₂ x
  cases x with
  | made hc xg xd xo F2 l2 hm =>
    obtain ⟨ff, kb⟩ := funFrames_of ok' F2
    refine .any (wpAny_leaves_madeW ok'.hA rfl kb ff hm fun h' t hf _ _ hu => hE _ _ (.fly (gh := gh) (m := m) (fz := fz) hc xg xd xo FG l ?_ hf))
    exact ((Heap.UpToSlots.of_keeps F2.keep).trans (UpToSlots.made hm)).trans hu
  | fly hc xg xd xo F2 l2 hu hf =>
    exact .any (wpAny_leaves_onW ok'.hA rfl hf fun h' hf' hu' => hE _ _ (.fly (gh := gh) (m := m) (fz := fz) hc xg xd xo FG l (((Heap.UpToSlots.of_keeps F2.keep).trans hu).trans hu') hf'))
  | held hc xg xd xo F2 l2 hu hh =>
    unfold leaving
    refine .any (wpAny_bind (wpAny_noteFrame_againW rfl hh.2.2.2 ?_))
    refine wpAny_landsW hh fun h' hfl hu' => ?_
    obtain ⟨k1, k2, ⟨_, _, k3⟩, k4⟩ := hfl
    exact hE _ _ (.fly (gh := gh) (m := m) (fz := fz) hc xg xd xo FG l (((Heap.UpToSlots.of_keeps F2.keep).trans hu).trans hu') ⟨k1, k2, k3, k4⟩)

/-- what may stand ahead of the brackets -/
inductive Callee (K : Frag) : V → Prop where
  | K (a : Addr) : keepIn K (.ref a) = true → Callee K (.raw (.ref a))
  | builtin (id : String) : Callee K (.raw (.builtin id))
  | type (T : String) : Callee K (.raw (.type T))

theorem Callee.kept {K : Frag} {f : V} {fz : Led} {v : Value} {M : Model} {h : Heap} (c : Callee K f) (hv : Rep fz f v) (X : K.In h) : Kept M h v := by
  cases c with
  | K a hk => exact hv.raw_e (keeps_K hk h X)
  | builtin id => exact hv.raw_e kept_builtin
  | type T => exact hv.raw_e kept_type
theorem wcallWith {f : V} {first : List V} {e : Expr} {es : List Expr} {pos : Pos} (hf : Callee g.K f) (h : WArgs C (e :: es) ρ σ (fun vs σ₁ => WCall C f (first ++ vs) ρ σ₁ Q X) X)
    (he : starEach (e :: es) C.env = (false, eval e C.env) :: starEach es C.env := by rfl) (hplain : (backTo pos (starEach es C.env)).any (·.1) = false := by rfl) :
    C.Ok → ∀ fz hid v ws, Rep fz f v → Reps fz first ws → WTr C (callWith pos v ws (backTo pos (starEach (e :: es) C.env)) []) ρ σ fz hid Q X := fun ok fz hid v ws hv hw s Qc Ec st hQ hX => by
  have main : wpN C.nd g.M C.A (spliced (backTo pos (starEach (e :: es) C.env))) (fun vs s₁ => Kept g.M s₁.heap v ∧ wpN C.nd g.M C.A (call v (ws ++ vs)) Qc Ec s₁) Ec s := by
    refine h ok pos fz hid s _ _ st (fun vs us σ₁ fz₁ s₁ f1 r1 h1 st1 => ⟨?_, ?_⟩) hX
    · refine st1.op fun m news F N l ow => ?_
      exact hf.kept hv (ok.X.keeps F.keep)
    · exact h1 ok fz₁ hid v _ (hv.mono f1) ((hw.mono f1).append r1) s₁ _ _ st1 (fun v u σ₂ fz₂ s₂ f2 r2 h2 st2 => hQ _ _ _ _ _ (subTrans f1 f2) r2 h2 st2) hX
  rw [he] at main ⊢
  exact nCallWith (by show (false || (backTo pos (starEach es C.env)).any (·.1)) = false; rw [hplain]; rfl) (nEvalArgs main)
theorem wcallWith0 {f : V} {first : List V} {pos : Pos} (hf : Callee g.K f) (h : WCall C f (first ++ []) ρ σ Q X) :
    C.Ok → ∀ fz hid v ws, Rep fz f v → Reps fz first ws → WTr C (callWith pos v ws (backTo pos (starEach [] C.env)) []) ρ σ fz hid Q X := fun ok fz hid v ws hv hw s Qc Ec st hQ hX => by
  have hKin : g.K.In s.heap := by
    refine st.op fun m news F N l ow => ?_
    exact ok.X.keeps F.keep
  exact nCallWith rfl (nEvalArgs0 ⟨hf.kept hv hKin, h ok fz hid v _ hv (hw.append .nil) s _ _ st hQ hX⟩)

theorem we_call {x : Str} {np pos : Pos} {e : Expr} {es : List Expr} (h : WE C (.Name x np) ρ σ (fun f σ₁ => Callee g.K f ∧ WArgs C (e :: es) ρ σ₁ (fun vs σ₂ => WCall C f vs ρ σ₂ Q X) X) X)
    (he : starEach (e :: es) C.env = (false, eval e C.env) :: starEach es C.env := by rfl) (hplain : (backTo pos (starEach es C.env)).any (·.1) = false := by rfl) : WE C (.Call (.Name x np) (e :: es) [] pos) ρ σ Q X := fun ok fz hid s Qc Ec st hQ hX =>
  nCallName (h ok fz hid s _ Ec st (fun v u σ₁ fz₁ s₁ f1 r1 h1 st1 => wcallWith h1.1 h1.2 he hplain ok fz₁ hid v [] r1 .nil s₁ Qc Ec st1 (fun v u σ₂ fz₂ s₂ f2 r2 h2 st2 => hQ _ _ _ _ _ (subTrans f1 f2) r2 h2 st2) hX) hX)
theorem we_call0 {x : Str} {np pos : Pos} (h : WE C (.Name x np) ρ σ (fun f σ₁ => Callee g.K f ∧ WCall C f [] ρ σ₁ Q X) X) : WE C (.Call (.Name x np) [] [] pos) ρ σ Q X := fun ok fz hid s Qc Ec st hQ hX =>
  nCallName (h ok fz hid s _ Ec st (fun v u σ₁ fz₁ s₁ f1 r1 h1 st1 => wcallWith0 h1.1 h1.2 ok fz₁ hid v [] r1 .nil s₁ Qc Ec st1 (fun v u σ₂ fz₂ s₂ f2 r2 h2 st2 => hQ _ _ _ _ _ (subTrans f1 f2) r2 h2 st2) hX) hX)

/-- a method of a thing -/
noncomputable def WMeth (C : Ctx g) (a : V) (name : Str) (ρ : Loc) (σ : Store) (Q : V → List V → Store → Prop) (X : Prop) : Prop := C.Ok → ∀ fz hid v, Rep fz a v → ∀ s (Qc : Value × List Value → Shared → Prop) Ec, St C ρ σ fz hid s →
  (∀ f fs w ws σ' fz' s', (∀ p ∈ fz, p ∈ fz') → Rep fz' f w → Reps fz' fs ws → Q f fs σ' → St C ρ σ' fz' hid s' → Qc (w, ws) s') → (X → EClAt C ρ Ec) → ∀ pl, wpN C.nd g.M C.A (getMethod v name pl) Qc Ec s
theorem we_meth {o : Expr} {name : Str} {apos pos : Pos} {e : Expr} {es : List Expr} {pl : Sem Bool}
    (h : WE C o ρ σ (fun ov σ₁ => WMeth C ov name ρ σ₁ (fun f first σ₂ => Callee g.K f ∧ WArgs C (e :: es) ρ σ₂ (fun vs σ₃ => WCall C f (first ++ vs) ρ σ₃ Q X) X) X) X)
    (hc : eval (.Call (.Attribute o name apos) (e :: es) [] pos) C.env = (do
      let ov ← eval o C.env
      standAt apos.atName
      let (f, first) ← holding [ov] (getMethod ov name pl)
      callWith pos f first (backTo pos (starEach (e :: es) C.env)) (backToKw pos (keywordEach [] C.env))) := by rfl)
    (he : starEach (e :: es) C.env = (false, eval e C.env) :: starEach es C.env := by rfl) (hplain : (backTo pos (starEach es C.env)).any (·.1) = false := by rfl) :
    WE C (.Call (.Attribute o name apos) (e :: es) [] pos) ρ σ Q X := fun ok fz hid s Qc Ec st hQ hX =>
  hc ▸ nBind (h ok fz hid s _ Ec st (fun v u σ₁ fz₁ s₁ f1 r1 h1 st1 => nBind (nStand (nBind (nHold (h1 ok fz₁ hid v r1 s₁ _ Ec st1 (fun f fs w ws σ₂ fz₂ s₂ f2 r2 rs2 h2 st2 =>
    wcallWith h2.1 h2.2 he hplain ok fz₂ hid w ws r2 rs2 s₂ Qc Ec st2 (fun v u σ₃ fz₃ s₃ f3 r3 h3 st3 => hQ _ _ _ _ _ (subTrans f1 (subTrans f2 f3)) r3 h3 st3) hX) hX pl))))) hX)
theorem we_meth0 {o : Expr} {name : Str} {apos pos : Pos} {pl : Sem Bool}
    (h : WE C o ρ σ (fun ov σ₁ => WMeth C ov name ρ σ₁ (fun f first σ₂ => Callee g.K f ∧ WCall C f (first ++ []) ρ σ₂ Q X) X) X)
    (hc : eval (.Call (.Attribute o name apos) [] [] pos) C.env = (do
      let ov ← eval o C.env
      standAt apos.atName
      let (f, first) ← holding [ov] (getMethod ov name pl)
      callWith pos f first (backTo pos (starEach [] C.env)) (backToKw pos (keywordEach [] C.env))) := by rfl) :
    WE C (.Call (.Attribute o name apos) [] [] pos) ρ σ Q X := fun ok fz hid s Qc Ec st hQ hX =>
  hc ▸ nBind (h ok fz hid s _ Ec st (fun v u σ₁ fz₁ s₁ f1 r1 h1 st1 => nBind (nStand (nBind (nHold (h1 ok fz₁ hid v r1 s₁ _ Ec st1 (fun f fs w ws σ₂ fz₂ s₂ f2 r2 rs2 h2 st2 =>
    wcallWith0 h2.1 h2.2 ok fz₂ hid w ws r2 rs2 s₂ Qc Ec st2 (fun v u σ₃ fz₃ s₃ f3 r3 h3 st3 => hQ _ _ _ _ _ (subTrans f1 (subTrans f2 f3)) r3 h3 st3) hX) hX pl))))) hX)

/-- a made thing: of the store, or frozen -/
inductive IsInst (σ : Store) : V → Addr → Flds → Prop where
  | ref {a Cl d : Addr} {fs : Flds} : σ a = some (.inst Cl d fs) → IsInst σ (.ref a) Cl fs
  | obj {Cl : Addr} {fs : Flds} : IsInst σ (.obj Cl fs) Cl fs
theorem St.inst {fz hid : Led} {s : Shared} (st : St C ρ σ fz hid s) {u : V} {v : Value} {Cl : Addr} {fs : Flds} (hi : IsInst σ u Cl fs) (hr : Rep fz u v) : ∃ x ox es n, v = .ref x ∧ InstAt s.heap x ox Cl (some (dictOf es n)) ∧ RepFs fz fs es := by
  refine st.op fun m news F N l ow => ?_
  cases hi with
  | ref e => exact hr.ref_e (An2 (ow.sto _ _ e) fun h1 h => Ex2 h fun es n h => ⟨_, _, es, n, rfl, InstAt.of_news N h1 h.1, h.2⟩)
  | obj => exact hr.obj_e fun a d es n h1 h2 h3 => ⟨_, _, _, _, rfl, InstAt.of_news N (ow.inF _ h1) (ow.inF _ h2), h3⟩
theorem St.inst_e {fz hid : Led} {s : Shared} {P : Value → Prop} {u : V} {v : Value} {Cl : Addr} {fs : Flds} (st : St C ρ σ fz hid s) (hi : IsInst σ u Cl fs) (hr : Rep fz u v)
    (k : ∀ m x ox es n, Fr C.h₀ C.L s.heap m → InstAt s.heap x ox Cl (some (dictOf es n)) → RepFs fz fs es → Rep fz u (.ref x) → P (.ref x)) : P v :=
  Ex4 (st.inst hi hr) fun x ox es n h => st.op fun m news F _ _ _ => by
    obtain ⟨rfl, I, r⟩ := h
    exact k m x ox es n F I r hr
theorem wmeth_inst {Q' : V → List V → Store → Prop} {u : V} {Cl f : Addr} {fs : Flds} {name : Str} (hi : IsInst σ u Cl fs) (hg : plainGet g.K Cl name = true) (hf : findIn g.K (.ref Cl) name = some (some (.ref f))) (ht : isFn g.K (.ref f) = true)
    (hn : fget name fs = none) (h : Q' (.raw (.ref f)) [u] σ) : WMeth C u name ρ σ Q' X := fun ok fz hid v hr s Qc Ec st hQ hX pl =>
  st.inst_e (P := fun v => wpN C.nd g.M C.A (getMethod v name pl) Qc Ec s) hi hr fun m x ox es n F I r hr => .any (method_inst F ok.X I hg hf ht (getL_none r hn) (hQ _ _ _ _ _ _ _ (subRefl fz) (.raw _) (.cons hr .nil) h st))
theorem Rep.handed {fz : Led} {v : V} {w : Value} (hr : Rep fz v w) : (∀ w, v ≠ .raw w) → handedIn w = true :=
  Rep.casesOn (motive_1 := fun v w _ => (∀ w, v ≠ .raw w) → handedIn w = true) hr (fun _ => rfl) (fun _ _ => rfl) (fun _ _ _ => rfl) (fun _ _ _ _ => rfl) (fun _ _ _ => rfl) (fun _ _ _ => rfl) (fun _ _ _ => rfl) (fun _ _ _ _ => rfl) (fun _ _ => rfl) (fun _ _ => rfl)
    fun _ h => absurd rfl (h _)
theorem wget_inst {u v : V} {Cl : Addr} {fs : Flds} {name : Str} (hi : IsInst σ u Cl fs) (hg : plainGet g.K Cl name = true) (hh : hasDictIn g.K Cl = true) (ha : findIn g.K (.ref Cl) name = some none) (hv : fget name fs = some v) (hraw : ∀ w, v ≠ .raw w) (h : Q v σ) :
    WGet C u name ρ σ Q X := fun ok fz hid w hr s Qc Ec st hQ hX =>
  st.inst_e (P := fun w => wpN C.nd g.M C.A (getAttr w name true) Qc Ec s) hi hr fun m x ox es n F I r hr => (getL_of r hv).elim fun w hw => .any (get_own F ok.X I hg hh ha rfl hw.1 (hw.2.handed hraw) (hQ _ _ _ _ _ (subRefl fz) hw.2 h (st.toks _)))
theorem wset_inst {Q' : Store → Prop} {a Cl d : Addr} {v : V} {fs : Flds} {name : Str} (hi : σ a = some (.inst Cl d fs)) (hs : findIn g.K (.ref Cl) "__setattr__" = some (some (.builtin "object.__setattr__"))) (hp : plainOver g.K Cl = true) (ht : takerIn g.K Cl name = some none) (hh : hasDictIn g.K Cl = true)
    (hz : fs.length ≤ 100) (h : Q' (σ.set a (.inst Cl d (fput name v fs)))) : WSet C (.ref a) name v ρ σ Q' X := fun ok fz hid x w hx hw s Qc Ec st hQ hX => by
  refine hx.ref_e ?_
  refine st.op7 fun m news F N l ow sg sd so => ?_
  obtain ⟨h1, es, n, h2, h3⟩ := ow.sto _ _ hi
  have hlen : (putL name (PyData.keyHash g.w.params name) (Value.str name (s.toks + 1)) w es).length ≤ 1000 := by
    have e1 := (putL_rep hw (PyData.keyHash g.w.params name) (s.toks + 1) h3 (x := name)).length
    rw [e1]
    have : ∀ fs : Flds, (fput name v fs).length ≤ fs.length + 1 := by
      intro fs
      induction fs with
      | nil => simp [fput]
      | cons p r ih => unfold fput; split <;> simp; lia
    have := this fs
    lia
  refine .any (set_dict F ok.X N (InstAt.of_news N h1 h2) rfl hs hp ht hh (getL_isSome h3 name) rfl (upd_repl ow.nd h2) hlen fun h' F' N' => ?_)
  exact hQ _ _ h ⟨⟨m, _, F', N', l, ow.setFld hi h2 (putL_rep hw _ _ h3)⟩, sg, sd, so⟩

end
end Lw

end
section
open PySem PySem.W PyProof.Rows PySem.Calls PySem.Spec
set_option maxRecDepth 100000
set_option autoImplicit false
set_option linter.unusedVariables false
namespace Lw
section
variable {g : Gl} {C : Ctx g} {ρ : Loc} {σ : Store} {Q Qr : V → Store → Prop} {Qn : Loc → Store → Prop} {X : Prop}

/-! ints -/
theorem wbin_int {op : Operator} {i j k : Int} (h : Q (.int k) σ) (r : ∀ t u s (Qc : Value → Shared → Prop) E, Qc (.int k s.toks) { s with toks := s.toks + 1 } → wpAny g.M C.A (binaryOp op (.int i t) (.int j u)) Qc E s) :
    WBin C op (.int i) (.int j) ρ σ Q X := fun ok fz hid v w hv hw s Qc Ec st hQ hX => hv.int_e fun t => hw.int_e fun u => .any (r t u s Qc Ec (hQ _ _ _ _ _ (subRefl fz) (.int _ _) h (st.toks _)))
theorem winp_int {op : Operator} {i j k : Int} (h : Q (.int k) σ) (r : ∀ t u s (Qc : Value → Shared → Prop) E, Qc (.int k s.toks) { s with toks := s.toks + 1 } → wpAny g.M C.A (inplaceOp op (.int i t) (.int j u)) Qc E s) :
    WInp C op (.int i) (.int j) ρ σ Q X := fun ok fz hid v w hv hw s Qc Ec st hQ hX => hv.int_e fun t => hw.int_e fun u => .any (r t u s Qc Ec (hQ _ _ _ _ _ (subRefl fz) (.int _ _) h (st.toks _)))
theorem wcmp_int {op : CmpOp} {i j : Int} {c : Bool} (h : Q (.bool c) σ) (r : ∀ t u s (Qc : Value → Shared → Prop) E, Qc (.bool c) s → wpAny g.M C.A (compareOp op (.int i t) (.int j u)) Qc E s) :
    WCmp C op (.int i) (.int j) ρ σ Q X := fun ok fz hid v w hv hw s Qc Ec st hQ hX => hv.int_e fun t => hw.int_e fun u => .any (r t u s Qc Ec (hQ _ _ _ _ _ (subRefl fz) (.bool _) h st))
theorem wcmp_bool {op : CmpOp} {a b c : Bool} (h : Q (.bool c) σ) (r : ∀ s (Qc : Value → Shared → Prop) E, Qc (.bool c) s → wpAny g.M C.A (compareOp op (.bool a) (.bool b)) Qc E s) :
    WCmp C op (.bool a) (.bool b) ρ σ Q X := fun ok fz hid v w hv hw s Qc Ec st hQ hX => hv.bool_e (hw.bool_e (.any (r s Qc Ec (hQ _ _ _ _ _ (subRefl fz) (.bool _) h st))))
theorem bits_small {a : Int} (ha : a.natAbs < 2 ^ 63) : Builtin.Int.intBits a ≤ 64 := intBits_le_64 (by lia) (by lia)
theorem div_pos_eq {i j : Int} (hj : 0 < j) : i.fdiv j = i / j := Int.fdiv_eq_ediv_of_nonneg _ (Int.le_of_lt hj)
theorem mod_pos_eq {i j : Int} (hj : 0 < j) : i.fmod j = i % j := Int.fmod_eq_emod_of_nonneg _ (Int.le_of_lt hj)
theorem wbin_add {i j : Int} (h : Q (.int (i + j)) σ) : WBin C .Add (.int i) (.int j) ρ σ Q X := wbin_int h fun _ _ _ _ _ k => P.add_int k
theorem wbin_sub {i j : Int} (h : Q (.int (i - j)) σ) : WBin C .Sub (.int i) (.int j) ρ σ Q X := wbin_int h fun _ _ _ _ _ k => P.sub_int k
theorem wbin_mul {i j : Int} (hi : i.natAbs < 2 ^ 63) (h : Q (.int (i * j)) σ) : WBin C .Mult (.int i) (.int j) ρ σ Q X := wbin_int h fun _ _ _ _ _ k => P.mul_int k (IntMulOk.of_left (bits_small hi))
theorem wbin_mod {i j : Int} (hj : 0 < j) (h : Q (.int (i % j)) σ) : WBin C .Mod (.int i) (.int j) ρ σ Q X :=
  wbin_int (mod_pos_eq hj ▸ h) fun _ _ _ _ _ k => mod_int' (Int.ne_of_gt hj) k
theorem wbin_div {i j : Int} (hj : 0 < j) (hj2 : j < 1000000000) (h : Q (.int (i / j)) σ) : WBin C .FloorDiv (.int i) (.int j) ρ σ Q X :=
  wbin_int (div_pos_eq hj ▸ h) fun _ _ _ _ _ k => floordiv_int (Int.ne_of_gt hj) k (.inl (PyProof.noPylong_small (by lia)))
theorem bitAnd_nat (a b : Nat) : Builtin.bitAnd (a : Int) (b : Int) = ((a &&& b : Nat) : Int) := by
  unfold Builtin.bitAnd
  simp
theorem bitOr_nat (a b : Nat) : Builtin.bitOr (a : Int) (b : Int) = ((a ||| b : Nat) : Int) := by
  unfold Builtin.bitOr Builtin.bitAnd Builtin.bitNot
  have h1 : ¬ (0 : Int) ≤ -(a : Int) - 1 := by lia
  have h2 : ¬ (0 : Int) ≤ -(b : Int) - 1 := by lia
  have h3 : (-(-(a : Int) - 1) - 1) = (a : Int) := by lia
  have h4 : (-(-(b : Int) - 1) - 1) = (b : Int) := by lia
  simp only [h1, h2, decide_false, h3, h4]
  simp
  lia
theorem shl_nat (a n : Nat) : (a : Int) * 2 ^ (n : Int).toNat = ((a * 2 ^ n : Nat) : Int) := by simp
theorem shr_nat (a n : Nat) : (a : Int).fdiv (2 ^ (n : Int).toNat) = ((a / 2 ^ n : Nat) : Int) := by
  rw [Int.fdiv_eq_ediv_of_nonneg _ (by simp; exact Int.le_of_lt (Int.pow_pos (by decide)))]
  simp
theorem wbin_and {a b : Nat} (h : Q (.int ((a &&& b : Nat) : Int)) σ) : WBin C .BitAnd (.int (a : Int)) (.int (b : Int)) ρ σ Q X := wbin_int (bitAnd_nat a b ▸ h) fun _ _ _ _ _ k => and_int k
theorem wbin_or {a b : Nat} (h : Q (.int ((a ||| b : Nat) : Int)) σ) : WBin C .BitOr (.int (a : Int)) (.int (b : Int)) ρ σ Q X := wbin_int (bitOr_nat a b ▸ h) fun _ _ _ _ _ k => or_int k
theorem wbin_shl {a n : Nat} (ha : a < 2 ^ 64) (hn : n ≤ 1000000) (h : Q (.int ((a * 2 ^ n : Nat) : Int)) σ) : WBin C .LShift (.int (a : Int)) (.int (n : Int)) ρ σ Q X :=
  wbin_int (shl_nat a n ▸ h) fun _ _ _ _ _ k => lshift_int_small (Int.natCast_nonneg n) (Int.ofNat_le.mpr hn) ha k
/-! in place -/
theorem winp_add {i j : Int} (h : Q (.int (i + j)) σ) : WInp C .Add (.int i) (.int j) ρ σ Q X := winp_int h fun _ _ _ _ _ k => P.iadd_int k
theorem winp_or {a b : Nat} (h : Q (.int ((a ||| b : Nat) : Int)) σ) : WInp C .BitOr (.int (a : Int)) (.int (b : Int)) ρ σ Q X := winp_int (bitOr_nat a b ▸ h) fun _ _ _ _ _ k => ior_int k
theorem winp_shr {a n : Nat} (h : Q (.int ((a / 2 ^ n : Nat) : Int)) σ) : WInp C .RShift (.int (a : Int)) (.int (n : Int)) ρ σ Q X :=
  winp_int (shr_nat a n ▸ h) fun _ _ _ _ _ k => irshift_int (Int.natCast_nonneg n) k
/-! comparisons -/
theorem wcmp_eq {i j : Int} (h : Q (.bool (i == j)) σ) : WCmp C .Eq (.int i) (.int j) ρ σ Q X := wcmp_int h fun _ _ _ _ _ k => P.eq_int k
theorem wcmp_ne {i j : Int} (h : Q (.bool (i != j)) σ) : WCmp C .NotEq (.int i) (.int j) ρ σ Q X := wcmp_int h fun _ _ _ _ _ k => P.ne_int k
theorem wcmp_lt {i j : Int} (h : Q (.bool (decide (i < j))) σ) : WCmp C .Lt (.int i) (.int j) ρ σ Q X := wcmp_int h fun _ _ _ _ _ k => P.lt_int k
theorem wcmp_le {i j : Int} (h : Q (.bool (decide (i ≤ j))) σ) : WCmp C .LtE (.int i) (.int j) ρ σ Q X := wcmp_int h fun _ _ _ _ _ k => P.le_int k
theorem wcmp_gt {i j : Int} (h : Q (.bool (decide (i > j))) σ) : WCmp C .Gt (.int i) (.int j) ρ σ Q X := wcmp_int h fun _ _ _ _ _ k => P.gt_int k
theorem wcmp_ge {i j : Int} (h : Q (.bool (decide (i ≥ j))) σ) : WCmp C .GtE (.int i) (.int j) ρ σ Q X := wcmp_int h fun _ _ _ _ _ k => P.ge_int k
theorem wcmp_bool_eq {a b : Bool} (h : Q (.bool (a == b)) σ) : WCmp C .Eq (.bool a) (.bool b) ρ σ Q X := wcmp_bool h fun _ _ _ k => eq_bool k
theorem wcmp_bool_ne {a b : Bool} (h : Q (.bool (a != b)) σ) : WCmp C .NotEq (.bool a) (.bool b) ρ σ Q X := wcmp_bool h fun _ _ _ k => ne_bool k
/-- whether a value is None -/
noncomputable def V.isNone : V → Bool
  | .none => true
  | _ => false
theorem Rep.isNone {fz : Led} {a : V} {v : Value} (hv : Rep fz a v) (ha : ∀ w, a ≠ .raw w) : a.isNone = (v == Value.none) := by cases hv <;> first | rfl | exact absurd rfl (ha _)
theorem wcmp_isNone {a : V} (ha : ∀ w, a ≠ .raw w) (h : Q (.bool a.isNone) σ) : WCmp C .Is a .none ρ σ Q X := fun ok fz hid v w hv hw s Qc Ec st hQ hX =>
  hw.none_e (.any (is_none (hQ _ _ _ _ _ (subRefl fz) (.bool _) (hv.isNone ha ▸ h) st)))
/-! bytes -/
theorem sizes {a b : List UInt8} (hs : a.length + b.length ≤ 16000000) : a.toArray.size + b.toArray.size ≤ 16777216 := Nat.le_trans hs (by decide)
theorem wbin_bytes {a b : List UInt8} (hs : a.length + b.length ≤ 16000000) (h : Q (.bytes (a ++ b)) σ) : WBin C .Add (.bytes a) (.bytes b) ρ σ Q X := fun ok fz hid v w hv hw s Qc Ec st hQ hX =>
  hv.bytes_e fun _ => hw.bytes_e fun _ => .any (bytes_add_K (sizes hs) rfl fun t k => hQ _ _ _ _ _ (subRefl fz) (.bytes _ _) h (st.toks _))
theorem wsub_bytes {a : List UInt8} {i : Int} {value slice : Expr} (hs : a.length ≤ 16000000) (h0 : 0 ≤ i) (h1 : i < (a.length : Int)) (h : Q (.int ((a.getD i.toNat 0).toNat : Int)) σ)
    (hsub : ∀ t u, subscripted slice false (.bytes a.toArray t) (.int i u) = operate [.bytes a.toArray t, .int i u] (getItem (.bytes a.toArray t) (.int i u)) := by intro _ _; with_unfolding_all rfl)
    (ht : ∀ t r, letTemporaryGo value (.bytes a.toArray t) r = pure () := by intro _ _; with_unfolding_all rfl) : WSub C value slice (.bytes a) (.int i) ρ σ Q X := fun ok fz hid v w hv hw s Qc Ec st hQ hX =>
  hv.bytes_e fun _ => hw.int_e fun _ => .any (bytes_item_K (Nat.le_trans hs (by decide)) h0 h1 rfl (hQ _ _ _ _ _ (subRefl fz) (.int _ _) h (st.toks _)) (hsub _ _) (ht _))
theorem wlen_bytes {a : List UInt8} (hs : a.length ≤ 16000000) (h : Q (.int (a.length : Int)) σ) : WCall C (.raw (.builtin "len")) [.bytes a] ρ σ Q X := fun ok fz hid v vs hv hvs s Qc Ec st hQ hX =>
  hv.raw_e (hvs.one_e fun _ h1 => h1.bytes_e fun _ => .any (len_bytes (Nat.le_trans hs (by decide)) (hQ _ _ _ _ _ (subRefl fz) (.int _ _) h (st.toks _))))
end
end Lw

end
section
open PySem PySem.W PyProof.Rows PySem.Calls PySem.Spec
set_option maxRecDepth 100000
set_option autoImplicit false
set_option linter.unusedVariables false
namespace Lw
section
variable {g : Gl} {C : Ctx g} {ρ : Loc} {σ : Store} {Q : V → Store → Prop} {X : Prop}
/-! what is computed without asking the store: names, written ints, sums, comparisons -/
noncomputable def gval : Value → Option V
  | .int i _ => some (.int i)
  | w => some (.raw w)
theorem gval_rep {w : Value} {v : V} (h : gval w = some v) : Rep [] v w := by
  cases w with
  | int i t => exact Option.some.inj h ▸ .int _ _
  | _ => exact Option.some.inj h ▸ .raw _
noncomputable def pname (C : Ctx g) (ρ : Loc) (x : Str) : Option V := match C.cs.names.lookup x with
  | some .local => (match x == ("__debug__" : Str) with
    | true => none
    | false => fget x ρ)
  | some .globalImplicit => (match x == ("__debug__" : Str) with
    | true => none
    | false => (match nsIn g.K mainGlobals x with
      | some (some w) => gval w
      | _ => none))
  | _ => none
theorem non {α : Type} {P : Prop} {v : α} (h : none = some v) : P := nomatch h
noncomputable def asI (a : Option V) : Option Int := match a with
  | some (.int i) => some i
  | _ => none
theorem asI_ok {a : Option V} {i : Int} (h : asI a = some i) : a = some (.int i) := by
  cases a with
  | none => exact non h
  | some v => cases v with
    | int j => exact congrArg (fun o : Option Int => o.map V.int) h
    | _ => exact non h
/-- two ints -/
noncomputable def twoI {α : Type} (f : Int → Int → Option α) (a b : Option V) : Option α := match asI a with
  | none => none
  | some i => match asI b with
    | none => none
    | some j => f i j
theorem twoI_ok {α : Type} {f : Int → Int → Option α} {a b : Option V} {v : α} (h : twoI f a b = some v) : ∃ i j, a = some (.int i) ∧ b = some (.int j) ∧ f i j = some v := by
  unfold twoI at h
  cases ha : asI a with
  | none => rw [ha] at h; exact non h
  | some i => cases hb : asI b with
    | none => rw [ha, hb] at h; exact non h
    | some j => rw [ha, hb] at h; exact ⟨i, j, asI_ok ha, asI_ok hb, h⟩
noncomputable def pbin (op : Operator) : Option V → Option V → Option V := twoI fun i j => match op with
  | .Add => some (.int (i + j))
  | .Sub => some (.int (i - j))
  | _ => none
noncomputable def pcmp (op : CmpOp) : Option V → Option V → Option Bool := twoI fun i j => match op with
  | .Lt => some (decide (i < j))
  | .LtE => some (decide (i ≤ j))
  | .Gt => some (decide (i > j))
  | .GtE => some (decide (i ≥ j))
  | .Eq => some (i == j)
  | .NotEq => some (i != j)
  | _ => none
noncomputable def pev (C : Ctx g) (ρ : Loc) : Nat → Expr → Option V
  | 0, _ => none
  | _ + 1, .Constant (.int i) _ _ => some (.int i)
  | _ + 1, .Constant .none _ _ => some .none
  | _ + 1, .Constant (.bool b) _ _ => some (.bool b)
  | _ + 1, .Constant (.bytes b) _ _ => some (.bytes b)
  | _ + 1, .Name x _ => pname C ρ x
  | n + 1, .BinOp l op r _ => pbin op (pev C ρ n l) (pev C ρ n r)
  | _, _ => none
theorem pname_ok {x : Str} {pos : Pos} {v : V} (h : pname C ρ x = some v) (k : Q v σ) : WE C (.Name x pos) ρ σ Q X := by
  unfold pname at h
  cases hk : C.cs.names.lookup x with
  | none => rw [hk] at h; exact non h
  | some kd =>
    rw [hk] at h
    cases kd with
    | «local» =>
      cases hd : (x == ("__debug__" : Str)) with
      | true => rw [hd] at h; exact non h
      | false => rw [hd] at h; exact we_local h k hk hd
    | globalImplicit =>
      cases hd : (x == ("__debug__" : Str)) with
      | true => rw [hd] at h; exact non h
      | false =>
        rw [hd] at h
        cases hn : nsIn g.K mainGlobals x with
        | none => rw [hn] at h; exact non h
        | some o =>
          cases o with
          | none => rw [hn] at h; exact non h
          | some w => rw [hn] at h; exact we_global hn (gval_rep h) k hk hd
    | _ => exact non h
theorem pbin_ok {op : Operator} {a b : Option V} {v : V} (h : pbin op a b = some v) : ∃ i j, a = some (.int i) ∧ b = some (.int j) ∧ ∀ {σ : Store} {Q : V → Store → Prop} {X : Prop}, Q v σ → WBin C op (.int i) (.int j) ρ σ Q X :=
  Ex2 (twoI_ok h) fun i j h => An3 h fun e1 e2 h => ⟨i, j, e1, e2, by
    cases op with
    | Add => exact fun k => wbin_add (Option.some.inj h ▸ k)
    | Sub => exact fun k => wbin_sub (Option.some.inj h ▸ k)
    | _ => exact non h⟩
theorem pcmp_ok {op : CmpOp} {a b : Option V} {c : Bool} (h : pcmp op a b = some c) : ∃ i j, a = some (.int i) ∧ b = some (.int j) ∧ (op == .In) = false ∧ (op == .NotIn) = false ∧ ∀ {σ : Store} {Q : V → Store → Prop} {X : Prop}, Q (.bool c) σ → WCmp C op (.int i) (.int j) ρ σ Q X :=
  Ex2 (twoI_ok h) fun i j h => An3 h fun e1 e2 h => by
    cases op with
    | Lt => exact ⟨i, j, e1, e2, rfl, rfl, fun k => wcmp_lt (Option.some.inj h ▸ k)⟩
    | LtE => exact ⟨i, j, e1, e2, rfl, rfl, fun k => wcmp_le (Option.some.inj h ▸ k)⟩
    | Gt => exact ⟨i, j, e1, e2, rfl, rfl, fun k => wcmp_gt (Option.some.inj h ▸ k)⟩
    | GtE => exact ⟨i, j, e1, e2, rfl, rfl, fun k => wcmp_ge (Option.some.inj h ▸ k)⟩
    | Eq => exact ⟨i, j, e1, e2, rfl, rfl, fun k => wcmp_eq (Option.some.inj h ▸ k)⟩
    | NotEq => exact ⟨i, j, e1, e2, rfl, rfl, fun k => wcmp_ne (Option.some.inj h ▸ k)⟩
    | _ => exact non h
theorem we_pure (n : Nat) {e : Expr} {v : V} (h : pev C ρ n e = some v) (k : Q v σ) : WE C e ρ σ Q X := by
  induction n generalizing e v σ Q with
  | zero => exact non h
  | succ n ih =>
    cases e with
    | Constant c u p =>
      cases c with
      | int i => cases h; exact we_int k
      | none => cases h; exact we_none k
      | bool b => cases h; exact we_bool k
      | bytes b => cases h; exact we_bytes k
      | _ => exact non h
    | Name x p => exact pname_ok h k
    | BinOp l op r p => exact Ex2 (pbin_ok (C := C) (ρ := ρ) h) fun i j h => An3 h fun e1 e2 w => we_bin (ih e1 (ih e2 (w k)))
    | _ => exact non h
theorem behind_no {op : CmpOp} {r : Expr} (h1 : (op == .In) = false) (h2 : (op == .NotIn) = false) : behindInMarks op r = false := by
  cases r with
  | Set elts k p => show (_ && (op == .In || op == .NotIn) && _) = false; rw [h1, h2, Bool.or_false, Bool.and_false, Bool.false_and]
  | _ => rfl
theorem we_pcmp (n : Nat) {l r : Expr} {op : CmpOp} {pos : Pos} {c : Bool} (h : pcmp op (pev C ρ n l) (pev C ρ n r) = some c) (k : Q (.bool c) σ) : WE C (.Compare l [op] [r] pos) ρ σ Q X :=
  Ex2 (pcmp_ok (C := C) (ρ := ρ) h) fun i j h => An5 h fun e1 e2 h1 h2 w => we_cmp (we_pure n e1 (we_pure n e2 (w k))) (behind_no h1 h2)
theorem wtest_pcmp (n : Nat) {Q' : Bool → Store → Prop} {l r : Expr} {op : CmpOp} {pos : Pos} {c : Bool} (h : pcmp op (pev C ρ n l) (pev C ρ n r) = some c) (k : Q' c σ) : WTest C (.Compare l [op] [r] pos) ρ σ Q' X :=
  Ex2 (pcmp_ok (C := C) (ρ := ρ) h) fun i j h => An5 h fun e1 e2 h1 h2 w => wtest_cmp (we_pure n e1 (we_pure n e2 (w (wtru_bool k)))) (behind_no h1 h2)
noncomputable def pevs (C : Ctx g) (ρ : Loc) : List Expr → Option (List V)
  | [] => some []
  | e :: es => match pev C ρ 5 e with
    | some v => (match pevs C ρ es with
      | some vs => some (v :: vs)
      | none => none)
    | none => none
theorem pev_star {n : Nat} {e : Expr} {es : List Expr} {v : V} (h : pev C ρ n e = some v) : starEach (e :: es) C.env = (false, eval e C.env) :: starEach es C.env := by
  cases n with
  | zero => exact non h
  | succ n =>
    cases e with
    | Starred e p => exact non h
    | _ => rfl
theorem wargs_pure {es : List Expr} {vs : List V} {Q : List V → Store → Prop} (h : pevs C ρ es = some vs) (k : Q vs σ) : WArgs C es ρ σ Q X := by
  induction es generalizing vs Q with
  | nil => cases h; exact wargs_nil k
  | cons e es ih =>
    unfold pevs at h
    cases h1 : pev C ρ 5 e with
    | none => rw [h1] at h; exact non h
    | some v =>
      rw [h1] at h
      cases h2 : pevs C ρ es with
      | none => rw [h2] at h; exact non h
      | some us => rw [h2] at h; cases h; exact wargs_cons (we_pure 5 h1 (ih h2 k)) (pev_star h1)
theorem we_b_len {pos : Pos} (hw : nsIn g.K mainGlobals "len" = some none) (h : Q (.raw (.builtin "len")) σ) (hx : C.env.kindOf "len" = some .globalImplicit := by rfl) : WE C (.Name "len" pos) ρ σ Q X := we_builtin hw (by kernel_rfl) h (by decide +kernel) hx (by decide +kernel)
theorem we_b_sorted {pos : Pos} (hw : nsIn g.K mainGlobals "sorted" = some none) (h : Q (.raw (.builtin "sorted")) σ) (hx : C.env.kindOf "sorted" = some .globalImplicit := by rfl) : WE C (.Name "sorted" pos) ρ σ Q X := we_builtin hw (by kernel_rfl) h (by decide +kernel) hx (by decide +kernel)
theorem we_b_range {pos : Pos} (hw : nsIn g.K mainGlobals "range" = some none) (h : Q (.raw (.type "range")) σ) (hx : C.env.kindOf "range" = some .globalImplicit := by rfl) : WE C (.Name "range" pos) ρ σ Q X := we_builtin hw (by kernel_rfl) h (by decide +kernel) hx (by decide +kernel)
theorem we_b_bytes {pos : Pos} (hw : nsIn g.K mainGlobals "bytes" = some none) (h : Q (.raw (.type "bytes")) σ) (hx : C.env.kindOf "bytes" = some .globalImplicit := by rfl) : WE C (.Name "bytes" pos) ρ σ Q X := we_builtin hw (by kernel_rfl) h (by decide +kernel) hx (by decide +kernel)
theorem we_b_bytearray {pos : Pos} (hw : nsIn g.K mainGlobals "bytearray" = some none) (h : Q (.raw (.type "bytearray")) σ) (hx : C.env.kindOf "bytearray" = some .globalImplicit := by rfl) : WE C (.Name "bytearray" pos) ρ σ Q X := we_builtin hw (by kernel_rfl) h (by decide +kernel) hx (by decide +kernel)
theorem we_b_tuple {pos : Pos} (hw : nsIn g.K mainGlobals "tuple" = some none) (h : Q (.raw (.type "tuple")) σ) (hx : C.env.kindOf "tuple" = some .globalImplicit := by rfl) : WE C (.Name "tuple" pos) ρ σ Q X := we_builtin hw (by kernel_rfl) h (by decide +kernel) hx (by decide +kernel)
theorem we_b_str {pos : Pos} (hw : nsIn g.K mainGlobals "str" = some none) (h : Q (.raw (.type "str")) σ) (hx : C.env.kindOf "str" = some .globalImplicit := by rfl) : WE C (.Name "str" pos) ρ σ Q X := we_builtin hw (by kernel_rfl) h (by decide +kernel) hx (by decide +kernel)
end
end Lw

end
section
open PySem PySem.W PyProof.Rows PySem.Calls PySem.Spec
set_option maxRecDepth 100000
set_option autoImplicit false
set_option linter.unusedVariables false
namespace Lw
section
variable {g : Gl} {C : Ctx g} {ρ : Loc} {σ : Store} {Q Qr : V → Store → Prop} {Qn : Loc → Store → Prop} {X : Prop}

theorem Reps.one {fz : Led} {a : V} {ws : List Value} (h : Reps fz [a] ws) : ∃ w, ws = [w] ∧ Rep fz a w := h.one_e fun w h => ⟨w, rfl, h⟩
@[elab_as_elim] theorem Reps.two_e {fz : Led} {a b : V} {ws : List Value} {P : List Value → Prop} (h : Reps fz [a, b] ws) (k : ∀ w u, Rep fz a w → Rep fz b u → P [w, u]) : P ws := h.cons_e fun w us h1 h2 => h2.one_e (Pl := fun l => P (w :: l)) fun u h3 => k w u h1 h3
@[elab_as_elim] theorem Reps.three_e {fz : Led} {a b c : V} {ws : List Value} {P : List Value → Prop} (h : Reps fz [a, b, c] ws) (k : ∀ w u v, Rep fz a w → Rep fz b u → Rep fz c v → P [w, u, v]) : P ws :=
  h.cons_e fun w us h1 h2 => h2.two_e (P := fun l => P (w :: l)) fun u v h3 h4 => k w u v h1 h3 h4
theorem Reps.two {fz : Led} {a b : V} {ws : List Value} (h : Reps fz [a, b] ws) : ∃ w u, ws = [w, u] ∧ Rep fz a w ∧ Rep fz b u := h.two_e fun w u h1 h2 => ⟨w, u, rfl, h1, h2⟩
theorem Reps.three {fz : Led} {a b c : V} {ws : List Value} (h : Reps fz [a, b, c] ws) : ∃ w u v, ws = [w, u, v] ∧ Rep fz a w ∧ Rep fz b u ∧ Rep fz c v := h.three_e fun w u v h1 h2 h3 => ⟨w, u, v, rfl, h1, h2, h3⟩

/-! lists -/
/-- a list: of the store, or frozen -/
inductive IsLst (σ : Store) : V → List V → Prop where
  | ref {a : Addr} {vs : List V} : σ a = some (.list vs) → IsLst σ (.ref a) vs
  | lst {vs : List V} : IsLst σ (.lst vs) vs
theorem St.lst {fz hid : Led} {s : Shared} (st : St C ρ σ fz hid s) {u : V} {v : Value} {vs : List V} (hi : IsLst σ u vs) (hr : Rep fz u v) : ∃ x ws n, v = .ref x ∧ s.heap.get? x = some (listOf ws.toArray n) ∧ Reps fz vs ws := by
  refine st.op fun m news F N l ow => ?_
  cases hi with
  | ref e => exact hr.ref_e (Ex2 (ow.sto _ _ e) fun ws n h => ⟨_, ws, n, rfl, (N _ h.1).1, h.2⟩)
  | lst => exact hr.lst_e fun ws a n h1 h2 => ⟨_, _, _, rfl, (N _ (ow.inF _ h1)).1, h2⟩
@[elab_as_elim] theorem St.lst_e {fz hid : Led} {s : Shared} {P : Value → Prop} {u : V} {v : Value} {vs : List V} (st : St C ρ σ fz hid s) (hi : IsLst σ u vs) (hr : Rep fz u v) (k : ∀ x ws n, s.heap.get? x = some (listOf ws.toArray n) → Reps fz vs ws → Rep fz u (.ref x) → P (.ref x)) : P v :=
  Ex3 (st.lst hi hr) fun x ws n h => by
    obtain ⟨rfl, h1, h2⟩ := h
    exact k x ws n h1 h2 hr
theorem isList_of {h : Heap} {x : Addr} {ws : List Value} {n : Nat} (e : h.get? x = some (listOf ws.toArray n)) : h.IsList x ws.toArray := ⟨_, e, rfl, n, rfl⟩

theorem wmeth_append {Q' : V → List V → Store → Prop} {a : Addr} {vs : List V} (hi : σ a = some (.list vs)) (h : Q' (.raw (.builtin "list.append")) [.ref a] σ) : WMeth C (.ref a) "append" ρ σ Q' X := fun ok fz hid v hr s Qc Ec st hQ hX pl => by
  refine st.lst_e (.ref hi) hr fun x ws n hx hrs hr => ?_
  exact .any (getMethod_list_append hx rfl rfl (hQ _ _ _ _ _ _ _ (subRefl fz) (.raw _) (.cons hr .nil) h st))
theorem wcall_append {a : Addr} {vs : List V} {v : V} (hi : σ a = some (.list vs)) (hs : vs.length ≤ 1000000) (h : Q .none (σ.set a (.list (vs ++ [v])))) : WCall C (.raw (.builtin "list.append")) [.ref a, v] ρ σ Q X := fun ok fz hid f ws hf hws s Qc Ec st hQ hX => by
  refine hf.raw_e (hws.two_e fun w0 w h1 h3 => h1.ref_e ?_)
  refine st.op7 fun m news F N l ow sg sd so => ?_
  obtain ⟨us, n, hm, hr⟩ := ow.sto _ _ hi
  refine .any (append_K F N (upd_repl ow.nd hm) (fun h' F' N' => ?_) (by rw [List.size_toArray, hr.length, sizeLine_eq]; lia))
  refine hQ _ _ _ _ _ (subRefl fz) .none h ⟨⟨m, _, F', N', l, ow.setAt hi hm rfl rfl ⟨us ++ [w], n + 1, ?_, hr.append (.cons h3 .nil)⟩⟩, sg, sd, so⟩
  rw [show (us ++ [w]).toArray = us.toArray.push w by simp]
  exact repl_self hm
theorem wlen_list {u : V} {vs : List V} (hi : IsLst σ u vs) (hs : vs.length ≤ 16000000) (h : Q (.int (vs.length : Int)) σ) : WCall C (.raw (.builtin "len")) [u] ρ σ Q X := fun ok fz hid v ws hv hvs s Qc Ec st hQ hX => by
  refine hv.raw_e (hvs.one_e fun w0 h1 => st.lst_e hi h1 fun x ws n hx hr _ => ?_)
  refine .any (call_len_list (isList_of hx) (by rw [List.size_toArray, hr.length]; lia) ?_)
  rw [List.size_toArray, hr.length]
  exact hQ _ _ _ _ _ (subRefl fz) (.int _ _) h (st.toks _)
theorem wsub_list {u v : V} {vs : List V} {i : Int} {value slice : Expr} (hi : IsLst σ u vs) (h0 : 0 ≤ i) (hf : i < 2 ^ 62) (hv : vs[i.toNat]? = some v) (h : Q v σ)
    (hsub : ∀ x t, subscripted slice false (.ref x) (.int i t) = operate [.ref x, .int i t] (getItem (.ref x) (.int i t)) := by intro _ _; with_unfolding_all rfl) : WSub C value slice u (.int i) ρ σ Q X := fun ok fz hid a b ha hb s Qc Ec st hQ hX => by
  refine hb.int_e fun _ => st.lst_e hi ha fun x ws n hx hr _ => ?_
  obtain ⟨w, hw, hrw⟩ := hr.get hv
  exact .any (tail_any (isList_of hx).typeIs slot_list_getitem.lookup (wpAny_getItem_list (isList_of hx) h0 (by lia) (by simpa using hw) (hQ _ _ _ _ _ (subRefl fz) hrw h st)) (hsub _ _))
theorem wsub_list_neg {u v : V} {vs : List V} {i : Int} {value slice : Expr} (hi : IsLst σ u vs) (h0 : i < 0) (h1 : -(vs.length : Int) ≤ i) (hf : -(2 ^ 62) ≤ i) (hv : vs[(i + vs.length).toNat]? = some v) (h : Q v σ)
    (hsub : ∀ x t, subscripted slice false (.ref x) (.int i t) = operate [.ref x, .int i t] (getItem (.ref x) (.int i t)) := by intro _ _; with_unfolding_all rfl) : WSub C value slice u (.int i) ρ σ Q X := fun ok fz hid a b ha hb s Qc Ec st hQ hX => by
  refine hb.int_e fun _ => st.lst_e hi ha fun x ws n hx hr _ => ?_
  obtain ⟨w, hw, hrw⟩ := hr.get hv
  refine .any (tail_any (isList_of hx).typeIs slot_list_getitem.lookup (wpAny_getItem_list_neg (isList_of hx) h0 (by rw [List.size_toArray, hr.length]; lia) (by lia) ?_ (hQ _ _ _ _ _ (subRefl fz) hrw h st)) (hsub _ _))
  rw [List.size_toArray, hr.length]
  simpa using hw
theorem wsub_tup {v : V} {vs : List V} {i : Int} {value slice : Expr} (h0 : 0 ≤ i) (hf : i < 2 ^ 62) (hv : vs[i.toNat]? = some v) (h : Q v σ)
    (hsub : ∀ x t, subscripted slice false (.ref x) (.int i t) = operate [.ref x, .int i t] (getItem (.ref x) (.int i t)) := by intro _ _; with_unfolding_all rfl) : WSub C value slice (.tup vs) (.int i) ρ σ Q X := fun ok fz hid a b ha hb s Qc Ec st hQ hX => by
  refine hb.int_e fun _ => ha.tup_e fun ws x hm hr => ?_
  obtain ⟨w, hw, hrw⟩ := hr.get hv
  have hlen : i.toNat < ws.length := (List.getElem?_eq_some_iff.mp hw).1
  have hT : IsTup s.heap x ws.toArray := by
    refine st.op fun m news F N l ow => ?_
    exact ⟨_, (N _ (ow.inF _ hm)).1, rfl, 0, rfl⟩
  refine .any (item_tupleT hT (by lia) (by lia) (j := i.toNat) ?_ hw (hQ _ _ _ _ _ (subRefl fz) hrw h st) (hsub _ _))
  unfold seqIndex?
  split <;> (try split) <;> first | rfl | (exfalso; lia) | (simp; lia)

/-! slices -/
/-- a part of a slice -/
noncomputable def WPart (C : Ctx g) (e : Option Expr) (ρ : Loc) (σ : Store) (Q : Option Int → Store → Prop) (X : Prop) : Prop := C.Ok → ∀ fz hid s (Qc : Value → Shared → Prop) Ec, St C ρ σ fz hid s →
  (∀ v i σ' fz' s', (∀ p ∈ fz, p ∈ fz') → IsPart v i → Q i σ' → St C ρ σ' fz' hid s' → Qc v s') → (X → EClAt C ρ Ec) → wpN C.nd g.M C.A (evalPart e C.env) Qc Ec s
theorem wpart_none {Q' : Option Int → Store → Prop} (h : Q' none σ) : WPart C none ρ σ Q' X := fun ok fz hid s Qc Ec st hQ hX => .any (evalPart_none_step (hQ _ _ _ _ _ (subRefl fz) .none h st))
theorem wpart_some {Q' : Option Int → Store → Prop} {e : Expr} (h : WE C e ρ σ (fun v σ₁ => ∃ i, v = .int i ∧ Q' (some i) σ₁) X) : WPart C (some e) ρ σ Q' X := fun ok fz hid s Qc Ec st hQ hX =>
  h ok fz hid s _ Ec st (fun v u σ₁ fz₁ s₁ f1 r1 h1 st1 => by
    obtain ⟨i, rfl, h1⟩ := h1
    exact r1.int_e fun _ => hQ _ _ _ _ _ f1 (.int _ _) h1 st1) hX
noncomputable def partLo (o : Option Int) : Nat := match o with
  | none => 0
  | some i => i.toNat
noncomputable def cutL {α : Type} (b : List α) (lo hi : Option Int) : List α := match hi with
  | none => b.drop (partLo lo)
  | some j => (b.drop (partLo lo)).take (j.toNat - partLo lo)
theorem picked_cut {b : List UInt8} {lo hi : Option Int} (hlo : ∀ i, lo = some i → 0 ≤ i) (hhi : ∀ i, hi = some i → 0 ≤ i) : KBy.picked b.toArray lo hi = (cutL b lo hi).toArray := by
  rw [KBc.picked_eq]
  congr 1
  have hl : (lo.elim 0 (clipAt b.toArray.size)) = min (partLo lo) b.length := by
    cases lo with
    | none => simp [partLo]
    | some i =>
      have := hlo i rfl
      obtain ⟨n, rfl⟩ := Int.eq_ofNat_of_zero_le this
      simp [partLo, clipAt_nat]
  rw [hl]
  have hd : List.drop (min (partLo lo) b.length) b.toArray.toList = b.drop (partLo lo) := by
    by_cases h : partLo lo ≤ b.length
    · rw [Nat.min_eq_left h]
    · rw [Nat.min_eq_right (by lia), List.drop_of_length_le (by simp), List.drop_of_length_le (by lia)]
  rw [hd]
  cases hi with
  | none =>
    simp only [Option.elim, cutL]
    refine List.take_of_length_le ?_
    simp; lia
  | some j =>
    have := hhi j rfl
    obtain ⟨n, rfl⟩ := Int.eq_ofNat_of_zero_le this
    simp only [Option.elim, clipAt_nat, cutL, Int.toNat_natCast]
    have hsz : b.toArray.size = b.length := by simp
    rw [hsz]
    by_cases h1 : n ≤ b.length
    · rw [Nat.min_eq_left h1]
      by_cases h2 : partLo lo ≤ b.length
      · rw [Nat.min_eq_left h2]
      · rw [Nat.min_eq_right (by lia), List.drop_of_length_le (by lia)]; simp
    · rw [Nat.min_eq_right (by lia)]
      rw [List.take_of_length_le (i := n - partLo lo) (by simp; lia), List.take_of_length_le (by simp; lia)]
theorem cutL_length {α : Type} (b : List α) (lo hi : Option Int) : (cutL b lo hi).length ≤ b.length := by
  cases hi <;> simp [cutL] <;> lia

theorem we_slice_bytes {value : Expr} {lo hi : Option Expr} {sp pos : Pos}
    (h : WE C value ρ σ (fun a σ₁ => WPart C lo ρ σ₁ (fun l σ₂ => WPart C hi ρ σ₂ (fun u σ₃ => ∃ b, a = .bytes b ∧ b.length ≤ 16000000 ∧ (∀ i, l = some i → 0 ≤ i) ∧ (∀ i, u = some i → 0 ≤ i) ∧ Q (.bytes (cutL b l u)) σ₃) X) X) X)
    (hsub : ∀ (b : List UInt8) (t : Tok) (a : Addr), subscripted (.Slice lo hi none sp) false (.bytes b.toArray t) (.ref a) = operate [.ref a, .bytes b.toArray t] (getItem (.bytes b.toArray t) (.ref a)) := by intro _ _ _; with_unfolding_all rfl)
    (ht : ∀ (b : List UInt8) (t : Tok) r, letTemporaryGo value (.bytes b.toArray t) r = pure () := by intro _ _ _; with_unfolding_all rfl) :
    WE C (.Subscript value (.Slice lo hi none sp) pos) ρ σ Q X := fun ok fz hid s Qc Ec st hQ hX => by
  refine nSubscript (h ok fz hid s _ Ec st (fun v u σ₁ fz₁ s₁ f1 r1 h1 st1 => nSlice (h1 ok fz₁ hid s₁ _ Ec st1 (fun vl l σ₂ fz₂ s₂ f2 pl h2 st2 => h2 ok fz₂ hid s₂ _ Ec st2 (fun vu uu σ₃ fz₃ s₃ f3 pu h3 st3 => ?_) hX) hX)) hX)
  refine h3.elim fun b h => An5 h fun e hb hlo hhi hq => ?_
  clear h h3
  subst e
  refine r1.bytes_e fun _ => ?_
  refine st3.op7 fun m news F N lc ow sg sd so => ?_
  refine .any (KBc.slice_K F N (rfl : KBw.bInts b.toArray = _) pl pu (by simp [KBw.bInts]; lia) (fun h' t' k F' N' _ => ?_) (hsub _ _ _) (ht _ _))
  rw [picked_cut hlo hhi]
  exact hQ _ _ _ _ _ (subTrans f1 (subTrans f2 f3)) (.bytes _ _) hq ⟨⟨m, news, F', N', lc, ow⟩, sg, sd, so⟩
/-! raise -/
/-- the same frame, over all contexts -/
noncomputable def Ctx.off (C : Ctx g) : Ctx g := { C with nd := false }
theorem wx_raise {x : Str} {np cpos pos : Pos} {e : Expr} {es : List Expr} {c : Addr} {bmB : List Value} {newId B initId : String} (hcl : C.cl = []) (hX : X) (hn : nsIn g.K mainGlobals x = some (some (.ref c))) (hc : c ∈ g.exc) (hq : excIn g.K c bmB newId = true)
    (FB : ExcBaseFacts B newId initId bmB) (h : WArgs C.off (e :: es) ρ σ (fun vs _ => vs.length ≤ 100) X)
    (he : starEach (e :: es) C.env = (false, eval e C.env) :: starEach es C.env := by rfl) (hplain : (backTo cpos (starEach es C.env)).any (·.1) = false := by rfl)
    (hx : C.env.kindOf x = some .globalImplicit := by rfl) (hd : (x == ("__debug__" : Str)) = false := by decide) :
    WX C (.Raise (some (.Call (.Name x np) (e :: es) [] cpos)) none pos) ρ σ Qn Qr X := fun ok fz hid s Qc Ec st hn' hr' hE => by
  have st0 := st
  refine st.op7 fun m news F N l ow sg sd so => ?_
  have O := own_of_in ok.X (topRead_of ok.T) hn hq
  have main : wpAny g.M C.A (spliced (backTo cpos (starEach (e :: es) C.env))) (fun vs s₂ => vs.length ≤ sizeLine ∧ (∀ b o, C.h₀.get? b = some o → s₂.heap.get? b = some o) ∧
      ∀ h' ea, Heap.MadeExcOf s₂.heap h' ea (.ref c) vs → Ec (.ref ea) { s₂ with heap := h' }) Ec s := by
    refine wpN.toAny (h ⟨ok.B, ok.X, ok.T, ok.hA, ok.hh, ok.hk, ok.hg⟩ cpos fz hid s _ _ ⟨st0.ex, st0.gens, st0.drawn, st0.os⟩ (fun vs us σ₁ fz₁ s₁ f1 r1 h1 st1 => ?_) fun x e s' z => hE x ρ e s' (by cases z with
        | made a b c d e f g => exact .made a b c d e f g
        | fly a b c d e f g h => exact .fly a b c d e f g h
        | held a b c d e f g h => exact .held a b c d e f g h))
    refine st1.op7 fun m1 news1 F1 N1 l1 ow1 sg1 sd1 so1 => ?_
    exact ⟨by rw [r1.length, sizeLine_eq]; lia, F1.keep, fun h' ea hm => hE hX ρ _ _ (.made ⟨c, rfl, hc⟩ sg1 sd1 so1 F1 l1 hm)⟩
  have hk := ok.hk
  have hT := ok.T.g
  have hh := ok.hh
  clear hE hn' hr' st0 h ok sg sd so
  obtain ⟨nd, cn, cs, L, a, ccd, cl, outer, A₀, A, base, h₀, gens, drawn, os⟩ := C
  cases hcl
  exact .any (Raise_own F hT O FB hh main he hplain hk hx hd)

/-! assignments of tuples -/
noncomputable def WAsg (C : Ctx g) (t : Expr) (u : V) (ρ : Loc) (σ : Store) (Q : Loc → Prop) : Prop := C.Ok → ∀ fz hid v, Rep fz u v → ∀ s (Qc : Unit → Shared → Prop) Ec, St C ρ σ fz hid s →
  (∀ ρ' s', Q ρ' → St C ρ' σ fz hid s' → Qc () s') → wpN C.nd g.M C.A (assign t C.env v) Qc Ec s
theorem wasg_name {Q' : Loc → Prop} {x : Str} {pos : Pos} {u : V} (h : Q' (fput x u ρ)) (hx : C.env.kindOf x = some .local := by rfl) : WAsg C (.Name x pos) u ρ σ Q' := fun ok fz hid v hr s Qc Ec st hQ =>
  nBind (nStand (nBindName (st.store ok hr (fun s' st' => hQ _ _ h st') hx)))
theorem St.ext {fz hid : Led} {s : Shared} (st : St C ρ σ fz hid s) {h' : Heap} (he : Heap.ExtBut s.heap.objs.size s.heap h') : St C ρ σ fz hid { s with heap := h' } := by
  refine st.op7 fun m news F N l ow sg sd so => ?_
  exact ⟨⟨m, news, F.extBut he (Nat.le_refl _), fun p hp => ⟨he _ _ (Nat.ne_of_lt (Heap.lt_size (N p hp).1)) (N p hp).1, (N p hp).2⟩, l, ow⟩, sg, sd, so⟩
theorem wasg_tup2 {Q' : Loc → Prop} {x y : Str} {px py pos : Pos} {k : Nat} {u v : V} (h : Q' (fput y v (fput x u ρ))) (hx : C.env.kindOf x = some .local := by rfl) (hy : C.env.kindOf y = some .local := by rfl) :
    WAsg C (.Tuple [.Name x px, .Name y py] k pos) (.tup [u, v]) ρ σ Q' := fun ok fz hid w hr s Qc Ec st hQ => by
  refine hr.tup_e fun ws t hm hrs => ?_
  obtain ⟨w1, w2, rfl, h1, h2⟩ := hrs.two
  have hT : IsTup s.heap t [w1, w2].toArray := by
    refine st.op fun m news F N l ow => ?_
    exact ⟨_, (N _ (ow.inF _ hm)).1, rfl, 0, rfl⟩
  show wpN C.nd g.M C.A (do standAt pos; unpack (.ref t) (assignEach [.Name x px, .Name y py] C.env)) Qc Ec s
  refine nBind (nStand ?_)
  unfold unpack
  refine nBind (nHold ?_)
  show wpN C.nd g.M C.A (unpackItems (.ref t) ([w1, w2].toArray.size) none) _ Ec s
  refine .any (unpackItems_tuple ok.hh hT fun h' he => ?_)
  have st' := st.ext he
  show wpN C.nd g.M C.A (assignInOrder [assign (.Name x px) C.env, assign (.Name y py) C.env] [w1, w2]) Qc Ec _
  refine nBind (nHold (nBind (nStand (nBindName (st'.store ok h1 (fun s1 st1 => ?_) hx)))))
  refine nBind (nHold (nBind (nStand (nBindName (st1.store ok h2 (fun s2 st2 => ?_) hy)))))
  exact nPure (hQ _ _ h st2)
theorem wx_assign_t {elts : List Expr} {k : Nat} {tpos pos : Pos} {e : Expr} (h : WE C e ρ σ (fun v σ₁ => WAsg C (.Tuple elts k tpos) v ρ σ₁ fun ρ' => Qn ρ' σ₁) X)
    (hs : swapsWithSole [.Tuple elts k tpos] e pos.line C.env = pure false := by rfl)
    (hw : swappedStores [.Tuple elts k tpos] e C.env = pure none := by rfl) : WX C (.Assign [.Tuple elts k tpos] e pos) ρ σ Qn Qr X := fun ok fz hid s Qc Ec st hn hr hX =>
  nAssignTuple (h ok fz hid s _ Ec st (fun v u σ₁ fz₁ s₁ f1 r1 h1 st1 => h1 ok fz₁ hid v r1 s₁ _ Ec st1 fun ρ' s' hq st' => hn _ _ _ _ f1 hq st') fun x => (hX x).at ρ) hs hw
end
end Lw

end
section
open PySem PySem.W PyProof.Rows PySem.Calls PySem.Spec
set_option maxRecDepth 100000
set_option autoImplicit false
set_option linter.unusedVariables false
namespace Lw
section
variable {g : Gl} {C : Ctx g} {ρ : Loc} {σ : Store} {Q Qr : V → Store → Prop} {Qn : Loc → Store → Prop} {X : Prop}

theorem St.pushHid {fz hid : Led} {s : Shared} (st : St C ρ σ fz hid s) (o : Obj) (hf : o.isFreed = false := by rfl) :
    St C ρ σ fz ((s.heap.objs.size, o) :: hid) { s with heap := s.heap.push o } := by
  refine st.op7 fun m news F N l ow a b c => ?_
  exact ⟨⟨m, _, F.push o, N.push F o hf, l, ow.addHid fun p hp => Nat.ne_of_lt (Heap.lt_size (N p hp).1)⟩, a, b, c⟩
theorem St.turnHid {fz hid : Led} {s : Shared} {it : Addr} {o o' : Obj} {h' : Heap} {k : Nat} (st : St C ρ σ fz ((it, o) :: hid) s) (hs : Heap.SameBut it s.heap h') (ho : h'.get? it = some o') :
    St C ρ σ fz ((it, o') :: hid) { s with heap := h', toks := k } := by
  refine st.op7 fun m news F N l ow a b c => ?_
  have hm := N _ (ow.inH _ (.head _))
  refine ⟨⟨m, repl it o' news, F.change hs hm.2.1 hm.2.2, fun p hp => ?_, l, ow.setHid⟩, a, b, c⟩
  obtain ⟨q, hq, e⟩ := List.mem_map.mp hp
  by_cases h : q.1 = it
  · rw [if_pos h] at e; subst e
    exact ⟨ho, hm.2⟩
  · rw [if_neg h] at e; subst e
    exact ⟨(hs.2 _ h).trans (N q hq).1, (N q hq).2⟩
theorem St.loseHid {fz hid : Led} {s : Shared} {it : Addr} {o : Obj} {h' : Heap} {k : Nat} (st : St C ρ σ fz ((it, o) :: hid) s) (hs : Heap.ExtBut it s.heap h') : St C ρ σ fz hid { s with heap := h', toks := k } := by
  refine st.op7 fun m news F N l ow a b c => ?_
  have hm := N _ (ow.inH _ (.head _))
  obtain ⟨oL, a1, a2, hoL, a3⟩ := F.ns
  refine ⟨⟨m, _, ⟨⟨oL, a1, a2, hs _ _ (Ne.symm hm.2.1) hoL, a3⟩, fun b x e => hs _ _ (fun q => ?_) (F.keep b x e), F.above⟩, fun p hp => ?_, l, ow.loseHid⟩, a, b, c⟩
  · rw [q] at e; rw [hm.2.2] at e; cases e
  · obtain ⟨hp, hne⟩ := List.mem_filter.mp hp
    exact ⟨hs _ _ (by simpa using hne) (N p hp).1, (N p hp).2⟩
theorem St.dropHid {fz hid : Led} {s : Shared} {p : Addr × Obj} (st : St C ρ σ fz (p :: hid) s) : St C ρ σ fz hid s := by
  refine st.op7 fun m news F N l ow a b c => ?_
  exact ⟨⟨m, news, F, N, l, ow.dropHid⟩, a, b, c⟩
theorem St.getHid {fz hid : Led} {s : Shared} {it : Addr} {o : Obj} (st : St C ρ σ fz ((it, o) :: hid) s) : s.heap.get? it = some o := by
  refine st.op7 fun m news F N l ow a b c => ?_
  exact (N _ (ow.inH _ (.head _))).1

/-- the for's target lets its tuple go by doing nothing -/
noncomputable def LetGo (g : Gl) (t : Expr) : Prop := ∀ (A : Around) (s : Shared) (it : Addr) (w : Value) (Q : Unit → Shared → Prop) (E : Value → Shared → Prop), ((∃ l i, s.heap.IsListIter it l i) ∨ ∃ a b c, IsRangeIter s.heap it a b c) → Q () s → wpAny g.M A (letOwnedTupleGo t (.ref it) w) Q E s
theorem letGo_name {x : Str} {pos : Pos} : LetGo g (.Name x pos) := fun A s it w Q E _ hq => wpAny_pure hq
theorem letGo_tup {es : List Expr} {k : Nat} {pos : Pos} : LetGo g (.Tuple es k pos) := fun A s it w Q E hit hq => by
  cases w with
  | ref a =>
    rcases hit with ⟨l, i, hit⟩ | ⟨a, b, c, hit⟩
    · exact wpAny_letOwnedTupleGo_listiter hit hq
    · unfold letOwnedTupleGo
      refine wpAny_bind (wpAny_load hit ?_)
      exact wpAny_pure hq
  | _ => exact wpAny_pure hq

theorem wx_for_list {t iter : Expr} {body : List Stmt} {pos : Pos}
    (h : WE C iter ρ σ (fun u σ₁ => ∃ (vs : List V) (I : Nat → Loc → Store → Prop), (∀ i ρ σ, I i ρ σ → IsLst σ u vs) ∧ I 0 ρ σ₁ ∧
      (∀ i v ρ σ, vs[i]? = some v → I i ρ σ → WAsg C t v ρ σ (fun ρ' => WXs C body ρ' σ (fun ρ₂ σ₂ => ∃ ρ₃ σ₃, I (i + 1) ρ₃ σ₃ ∧ Loc.Le ρ₃ ρ₂ ∧ Store.Le σ₃ σ₂) Qr X)) ∧ (∀ ρ σ, I vs.length ρ σ → Qn ρ σ)) X)
    (hgo : LetGo g t) (hs : ∀ x, foldedSetIterable iter C.env x = pure x := by intro _; rfl) : WX C (.For t iter body [] pos) ρ σ Qn Qr X := fun ok fz hid s Qc Ec st hn hr hX => by
  refine nFor (h ok fz hid s _ Ec st (fun v u σ₁ fz₁ s₁ f1 r1 h1 st1 => ?_) fun x => (hX x).at ρ) hs
  refine Ex2 h1 fun vs I h => An4 h fun hI h0 turn fin => ?_
  clear h h1
  obtain ⟨l, ws₀, n₀, e, hx, hrs⟩ := st1.lst (hI _ _ _ h0) r1
  subst e
  refine .any (wpAny_pyIter_list (isList_of hx) ?_)
  have st2 := st1.pushHid { cls := .type "list_iterator", data := .fields #[.ref l, .int 0 0] }
  have hX' : X → ECl C (notedN C.nd g.M C.A C.env (backN C.nd g.M C.A C.env Ec)) := fun x => (hX x).back ok
  refine codeN_for (fun n s => ∃ i ρ σ fz' o, n = vs.length - i ∧ i ≤ vs.length ∧ I i ρ σ ∧ (∀ p ∈ fz₁, p ∈ fz') ∧ (o.cls = .type "list_iterator" ∧ o.data = .fields #[.ref l, .int i 0]) ∧ St C ρ σ fz' ((s₁.heap.objs.size, o) :: hid) s) (fun n s₂ hI2 => ?_) _
    ⟨0, ρ, σ₁, fz₁, _, rfl, Nat.zero_le _, h0, subRefl fz₁, ⟨rfl, rfl⟩, st2⟩
  refine Ex5 hI2 fun i ρ₂ σ₂ fz₂ o h => An6 h fun en hle hi f2 ho st3 => ?_
  clear h hI2
  subst en
  have hit : s₂.heap.IsListIter s₁.heap.objs.size l i := ⟨o, st3.getHid, ho.1, ho.2⟩
  obtain ⟨l', ws, n, e, hx2, hrs2⟩ := st3.lst (hI _ _ _ hi) (r1.mono f2)
  cases e
  cases hv : vs[i]? with
  | some v =>
    obtain ⟨w, hw, hrw⟩ := hrs2.get hv
    have hlt : i < vs.length := (List.getElem?_eq_some_iff.mp hv).1
    refine .any (wpAny_pyNext_list_item hit (isList_of hx2) (by simpa using hw) fun h' hit' hsb => ?_)
    obtain ⟨o', ho', hc', hd'⟩ := hit'
    have st4 := st3.turnHid (k := s₂.toks) hsb ho'
    refine .any (hgo _ _ _ _ _ _ (.inl ⟨l, i + 1, o', ho', hc', hd'⟩) ?_)
    refine turn i v ρ₂ σ₂ hv hi ok fz₂ _ w hrw _ _ _ st4 fun ρ₃ s₃ h3 st5 => ?_
    refine h3 ok fz₂ _ s₃ _ _ st5 (fun ρ₄ σ₄ fz₄ s₄ f4 h4 st6 => ?_) (fun v u ρ₄ σ₄ fz₄ s₄ f4 r4 h4 st6 => hr _ _ _ _ _ _ (subTrans f1 (subTrans f2 f4)) r4 h4 st6.dropHid) hX'
    obtain ⟨ρ₅, σ₅, h5, l1, l2⟩ := h4
    exact ⟨vs.length - (i + 1), by lia, i + 1, ρ₅, σ₅, fz₄, o', rfl, by lia, h5, subTrans f2 f4, ⟨hc', hd'⟩, st6.le l1 l2⟩
  | none =>
    have hge : vs.length ≤ i := List.getElem?_eq_none_iff.mp hv
    have hie : i = vs.length := by lia
    subst hie
    refine .any (wpAny_pyNext_list_end ok.hh hit (isList_of hx2) (by simp [hrs2.length]) fun h' he => ?_)
    exact (hn _ _ _ _ (subTrans f1 f2) (fin _ _ hi) (st3.loseHid (k := s₂.toks) he))

theorem wx_for_range {t iter : Expr} {body : List Stmt} {pos : Pos}
    (h : WE C iter ρ σ (fun u σ₁ => ∃ (a b c : Int) (n : Nat) (I : Nat → Loc → Store → Prop), u = .rng a b c ∧ Builtin.Range.rangeSize a b c = (n : Int) ∧ Builtin.Range.small a b c = true ∧ I 0 ρ σ₁ ∧
      (∀ i ρ σ, i < n → I i ρ σ → WAsg C t (.int (a + c * i)) ρ σ (fun ρ' => WXs C body ρ' σ (fun ρ₂ σ₂ => ∃ ρ₃ σ₃, I (i + 1) ρ₃ σ₃ ∧ Loc.Le ρ₃ ρ₂ ∧ Store.Le σ₃ σ₂) Qr X)) ∧ (∀ ρ σ, I n ρ σ → Qn ρ σ)) X)
    (hgo : LetGo g t) (hs : ∀ x, foldedSetIterable iter C.env x = pure x := by intro _; rfl) : WX C (.For t iter body [] pos) ρ σ Qn Qr X := fun ok fz hid s Qc Ec st hn hr hX => by
  refine nFor (h ok fz hid s _ Ec st (fun v u σ₁ fz₁ s₁ f1 r1 h1 st1 => ?_) fun x => (hX x).at ρ) hs
  refine Ex5 h1 fun a b c n I h => An6 h fun eu hsz hsm h0 turn fin => ?_
  clear h h1
  subst eu
  refine r1.rng_e fun t1 t2 t3 r hm => ?_
  have hx : IsRange s₁.heap r a b c t1 t2 t3 := by
    refine st1.op fun m news F N l ow => ?_
    exact (N _ (ow.inF _ hm)).1
  refine .any (wpAny_pyIter_range hx hsm ?_)
  have st2 := st1.pushHid { cls := .type "range_iterator", data := .fields #[rawInt a, rawInt (Builtin.Range.rangeSize a b c), rawInt c] }
  have hX' : X → ECl C (notedN C.nd g.M C.A C.env (backN C.nd g.M C.A C.env Ec)) := fun x => (hX x).back ok
  refine codeN_for (fun k s => ∃ (i : Nat) (ρ : Loc) (σ : Store) (fz' : Led) (x left : Int), k = n - i ∧ i ≤ n ∧ I i ρ σ ∧ (∀ p ∈ fz₁, p ∈ fz') ∧ x = a + c * i ∧ left = (n : Int) - i ∧ St C ρ σ fz' ((s₁.heap.objs.size, ({ cls := .type "range_iterator", dict := none, data := .fields #[rawInt x, rawInt left, rawInt c], slots := #[] } : Obj)) :: hid) s) (fun k s₂ hI2 => ?_) _
    ⟨0, ρ, σ₁, fz₁, _, _, rfl, Nat.zero_le _, h0, subRefl fz₁, by simp, by rw [hsz]; simp, st2⟩
  refine Ex5 hI2 fun i ρ₂ σ₂ fz₂ x h => h.elim fun left h => An7 h fun en hle hi f2 hxe hlf st3 => ?_
  clear h hI2
  subst en
  have hit : IsRangeIter s₂.heap s₁.heap.objs.size x left c := st3.getHid
  by_cases hlt : i < n
  · refine .any (wpAny_pyNext_range_item hit (by lia) fun h' hit' hsb => ?_)
    have st4 := st3.turnHid (k := s₂.toks + 1) hsb hit'
    refine .any (hgo _ _ _ _ _ _ (.inr ⟨_, _, _, hit'⟩) ?_)
    subst hxe
    refine turn i ρ₂ σ₂ hlt hi ok fz₂ _ _ (.int _ _) _ _ _ st4 fun ρ₃ s₃ h3 st5 => ?_
    refine h3 ok fz₂ _ s₃ _ _ st5 (fun ρ₄ σ₄ fz₄ s₄ f4 h4 st6 => ?_) (fun v u ρ₄ σ₄ fz₄ s₄ f4 r4 h4 st6 => hr _ _ _ _ _ _ (subTrans f1 (subTrans f2 f4)) r4 h4 st6.dropHid) hX'
    obtain ⟨ρ₅, σ₅, h5, l1, l2⟩ := h4
    refine ⟨n - (i + 1), by lia, i + 1, ρ₅, σ₅, fz₄, _, _, rfl, by lia, h5, subTrans f2 f4, ?_, ?_, st6.le l1 l2⟩
    · rw [Int.natCast_add, Int.mul_add]; simp [Int.add_assoc]
    · lia
  · have hie : i = n := by lia
    subst hie
    refine .any (wpAny_pyNext_range_end ok.hh hit (by lia) fun h' he => ?_)
    exact (hn _ _ _ _ (subTrans f1 f2) (fin _ _ hi) (st3.loseHid (k := s₂.toks) he))

/-! range(..) -/
theorem wrange1 {n : Int} (h : Q (.rng 0 n 1) σ) : WCall C (.raw (.type "range")) [.int n] ρ σ Q X := fun ok fz hid v ws hv hws s Qc Ec st hQ hX => by
  refine hv.raw_e (hws.one_e fun w h1 => h1.int_e fun _ => ?_)
  refine .any (call_range_1 ?_)
  exact hQ _ _ _ _ _ (fun p q => .tail _ q) (.rng (.head _)) h ((st.pushFz (rngObj 0 n 1 _ _ _)).toks _)
theorem wrange3 {a b c : Int} (hc : c ≠ 0) (hs : c.natAbs < 1000) (h : Q (.rng a b c) σ) : WCall C (.raw (.type "range")) [.int a, .int b, .int c] ρ σ Q X := fun ok fz hid v ws hv hws s Qc Ec st hQ hX => by
  refine hv.raw_e (hws.three_e fun w1 w2 w3 h1 h2 h3 => h1.int_e fun _ => h2.int_e fun _ => h3.int_e fun _ => ?_)
  refine .any (call_range_3 hc ?_ (.inl (PyProof.noPylong_small (by lia))))
  exact hQ _ _ _ _ _ (fun p q => .tail _ q) (.rng (.head _)) h (st.pushFz (rngObj a b c _ _ _))
end
end Lw

end
section
open PySem PySem.W PyProof.Rows PySem.Calls PySem.Spec
set_option maxRecDepth 100000
set_option autoImplicit false
set_option linter.unusedVariables false
namespace Lw

/-- the caller's own place -/
noncomputable abbrev Γ₀ : PySem.Ctx := ⟨.builtin "claim.caller" {}, none, none, [], none⟩
theorem noDec₀ : NoDec Γ₀ := ⟨by decide +kernel, fun x hx => nomatch hx⟩

/-- what a run at the caller's own place comes to -/
theorem run_ends {prog : Program} {w : World} {t : Sem Fin} {s : Shared} {R : Result → Shared → Prop} (hreg : s.asleep)
    (h : wpN true (model prog w) callerA t (fun fin s' => ∃ f, fin = .done f ∧ (R (.ok f) s' ∧ AllBare s'.gens)) (fun e s' => R (.error e) s' ∧ AllBare s'.gens) s) :
    ∃ n r s' s'', runN (denote table) prog w n s ⟨t, .builtin "claim.caller" {}, default, []⟩ = .halted (outcomeOf r) s' ∧
      schedN (denote table) prog w n (.single s ⟨t, .builtin "claim.caller" {}, default, []⟩) = .halted (outcomeOf r) s' ∧ s'.forget = s''.forget ∧ R r s'' := by
  have hw : Sem.wp (model prog w) Γ₀ t (Sem.finPost (model prog w) Γ₀ (fun r s' => R r s' ∧ leftWithCleanup s'.gens = false)) (fun e _ s' => R (.error e) s' ∧ leftWithCleanup s'.gens = false) default s := by
    refine Sem.wp_mono _ Γ₀ t (fun fin p' s' h' => ?_) (fun e p' s' h' => ⟨h'.1, leftWithCleanup_false_of_bare h'.2⟩) default s (h Γ₀ default caller_in fun _ => noDec₀)
    obtain ⟨f, rfl, h1, h2⟩ := h'
    exact ⟨h1, leftWithCleanup_false_of_bare h2⟩
  obtain ⟨n, r, s₁, s₂, hs, hn, hfo, hR⟩ := wp_halts_full (M := model prog w) (R := R) hreg hw
  exact ⟨n, r, s₂, s₁, hn, hs, hfo, hR⟩

/-- what is asked of the law's call: the same as the library's, over the contexts without a decoder -/
noncomputable abbrev WalkD (q : Program) (loose : List Str) (XP : (Str → Option Value) → Heap → Prop) (YP : World → Heap → Prop) (r : RowW) (d : DefRec) (kwd : List (Str × Expr)) : Prop :=
  ∀ (w : World) (s₀ s₁ : Shared) (mg mb : Str → Option Value), Ground q loose r.records XP w s₀ mg mb s₁.heap → YP w s₁.heap → ∀ (a : Addr) (o : Obj) (pm cd doc dV kV : Value), s₁.heap.get? a = some o →
    o.data = .func { docDef d.name d.params d.body d.scope pm cd doc with defaults := dV, kwdefaults := kV } → s₁.heap.CodeRec cd d.name → Dflts mg s₁.heap d.params kwd dV kV → mg d.name = some (.ref a) → s₁.gens = #[] →
    ∀ (args : List WData) (vals : List Value) (as : List Addr), r.claim.pre args = true → WData.layableAll args = true → ReadsAllW r.records (classAt s₀.heap) s₁.heap vals args as → WellAll w.params s₁.heap vals args → (∀ a ∈ as, (a == sysModules) = false) →
      wpN true (model r.prog w) callerA (PySem.call (.ref a) vals) (fun v s' => GoodWG r.claim (classAt s₀.heap) (ExcName.means s₀.heap) args s₁ (.ok (.ret v)) s')
        (fun e s' => GoodWG r.claim (classAt s₀.heap) (ExcName.means s₀.heap) args s₁ (.error e) s') s₁

theorem PySem.W.holds_open {r : OpenRow} {q : Program} {loose : List Str} {Xt : Shared → Bool} {XP : (Str → Option Value) → Heap → Prop} {α : Type} {Yf : Shared → α} {Ya : World → α} {YP : World → Heap → Prop} {d : DefRec} {kwd : List (Str × Expr)} {N : Nat}
    (left : LeftO r.prog q loose Xt Yf Ya N) (hY : ∀ w s, Yf s = Ya w → YP w s.heap) (hYk : ∀ w h h', YP w h → (∀ b o, h.get? b = some o → h'.get? b = some o) → YP w h')
    (hX : ∀ s, Xt s = true → XP (s.heap.nsMap mainGlobals) s.heap) (hXk : ∀ mg h h', XP mg h → (∀ b o, h.get? b = some o → h'.get? b = some o) → XP mg h')
    (hdef : defOf q r.name = some (d, kwd)) (hp : r.prog.theDef r.name = some (d.params, d.body, d.scope)) (hk : kwWritten? d.params.kwonlyargs d.params.kw_defaults = some kwd) (hRf : ∀ s, Xt s = true → RecFacts r.records s.heap) (hwr : (!r.writes || r.records.isEmpty) = true)
    (k1 : r.wellSaid = true) (ok : (chainsOk q && opensWell r.prog && (frees r.toRowW && r.within.isEmpty)) = true) (hb : r.prog.bare) (hw : r.toRowW.promised)
    (call : WalkD q loose XP YP r.toRowW d kwd) : r.Holds := by
  refine ⟨k1, hw, ?_⟩
  simp only [Bool.and_eq_true] at ok
  obtain ⟨⟨hch, o1⟩, k5, k6⟩ := ok
  obtain ⟨hsame, hu, ha, hap, hm⟩ := frees_parts k5
  have hwi : r.toRowW.claim.within = [] := List.isEmpty_iff.mp k6
  have hi := ident_freeW (r := r.toRowW) hu ha hap
  refine ⟨⟨hb, o1, by show r.makers.map _ = []; rw [hm]; rfl⟩, hw.witness, fun w => ⟨(left.behind hX hch w).1, fun s' hs' => ?_⟩⟩
  refine ((left.behind (XP := fun mg h => XP mg h ∧ RecFacts r.records h) (fun s hs => ⟨hX s hs, hRf s hs⟩) hch w).2 s' hs').elim fun s₀ h => An3 h fun hf hg0 h => h.elim fun s h => An6 h fun hT hz hgens hg G00 y => ?_
  have G0 : Ground q loose [] XP w s (s.heap.nsMap mainGlobals) (s.heap.nsMap builtinsNs) s.heap := ⟨G00.T, G00.B, G00.D, G00.TE, G00.TD, G00.W, G00.X.1, G00.cls, G00.has, G00.apart, G00.once, G00.K⟩
  have RF := G00.X.2
  have hgens0 : s.gens = #[] := Array.eq_empty_of_size_eq_zero (beq_iff_eq.mp hgens)
  have G : Ground q loose r.records XP w s _ _ s.heap := RF.ground G0
  refine ⟨s₀, hf, hg0, s, hT, fun n hn => ?_, RF.1, RF.2.1, ?_⟩
  · obtain rfl : n = r.name := by split at hn <;> simp_all
    exact pinned_of_view hg G0 hdef hp hk
  intro args hpre hlay ord hord
  obtain ⟨⟨vs, s₁⟩, hlaid⟩ := Option.isSome_iff_exists.mp (layAllW_isSome (P := w.params) (ord := ord) G.has args r.args s (pre_splitW hpre).1)
  have keeps := layAllW_keeps _ _ _ hlaid
  have hal := layAllW_rest _ _ _ hlaid
  refine (reads_layAllW hord _ _ _ hlaid hlay s₁.heap (fun _ _ e => e)).elim fun as h => An3 h fun hrd hin hold => ?_
  have L : Laid r.records w s s₁ args vs as := ⟨⟨ord, hord, hlaid⟩, hrd, hin, hold, keeps, hal.1.trans hgens0, hal.2.2.1⟩
  have G₁ := G.keeps hXk keeps
  refine Ex5 (G₁.fn hdef) fun a o pm cd doc h => Ex2 h fun dV kV h => An5 h fun h1 h2 h3 h4 h5 => ?_
  have hcall := call w s s₁ _ _ G₁ (hYk _ _ _ (hY w s y) keeps) a o pm cd doc dV kV h2 h3 h4 h5 (defOf_name hdef ▸ h1) L.gens args vs as hpre hlay L.reads L.well (L.low G.low)
  let kept : Heap → Prop := fun h' => r.writes = true → namesKept r.toRowW.claim.prog r.keeps s.heap h' ∧ ∀ x ∈ r.toRowW.claim.records, ∀ a, classAt s.heap x.1 = some a → recordClass h' a x.1 (x.2.map (·.1)) = true
  have good : ∀ res s', GoodWG r.toRowW.claim (classAt s.heap) (ExcName.means s.heap) args s₁ res s' → (r.toRowW.claim.Ends s args vs s₁ res s' ∧ s'.os = s.os ∧ kept s'.heap) ∧ AllBare s'.gens := fun res s' g => by
    have z := g.laid (c := r.toRowW.claim) hsame hwi hi L
    exact ⟨⟨z.1, z.2.1, fun q => ⟨namesKept_of hT hg r.keeps keeps g.2.1.old, noTable hwr q⟩⟩, z.2.2⟩
  have whole : wpN true (model r.prog w) callerA (callStub r.name vs).cur (fun fin s' => ∃ f, fin = .done f ∧ ((r.toRowW.claim.Ends s args vs s₁ (.ok f) s' ∧ s'.os = s.os ∧ kept s'.heap) ∧ AllBare s'.gens))
      (fun e s' => (r.toRowW.claim.Ends s args vs s₁ (.error e) s' ∧ s'.os = s.os ∧ kept s'.heap) ∧ AllBare s'.gens) s₁ := by
    have hmg : _ = some (Value.ref a) := defOf_name hdef ▸ h1
    show wpN true (model r.prog w) callerA (do match ← nsGet mainNs r.name with
      | some f => do ret (← PySem.call f vs)
      | none => unsupported "claim.caller:no-such-global") _ _ s₁
    refine nBind (.any (wpAny_nsGet G₁.T.g ?_))
    rw [h1]
    exact nBind (nMono hcall (fun v s' gd => nPure ⟨_, rfl, good _ _ gd⟩) fun e s' gd => good _ _ gd)
  refine Ex4 (run_ends (R := fun res s' => r.toRowW.claim.Ends s args vs s₁ res s' ∧ s'.os = s.os ∧ kept s'.heap) (Shared.asleep_of_life hal.2.2.2 hz) whole) fun k res s₂ s₃ h => An6 h fun hrun hsched hfo hcase hos hkp => ?_
  obtain ⟨eh, _, _, eo, _⟩ := Shared.forget_eq hfo
  have hcase := hcase.congr eh
  rw [← eh] at hkp
  rw [← eo] at hos
  have hlife : s₂.heap.life = s.heap.life := (runN_life _ _ _ hrun).trans hal.2.2.2
  refine ⟨vs, s₁, hlaid, k, _, s₂, hsched, ?_, (fun _ i x hx => by rw [hgens0] at hx; simp at hx), hkp, by rw [hlife], Shared.rest_eq hos⟩
  rcases hcase with ⟨v, rfl, d1, d2, d3, d4, d5⟩ | ⟨e, ob, cls, rfl, d1, d2, d3, d4, d5⟩
  · exact .inl ⟨v, rfl, d1, d2, d3, fun b o y _ => d4 b o y, d5⟩
  · exact .inr ⟨e, ob, cls, rfl, d1, d2, d3, d4, fun b o y _ => d5 b o y⟩
end Lw

end
section
open PySem PySem.W PyProof.Rows
set_option maxRecDepth 100000
namespace Lw
noncomputable abbrev PP : Program := PySem.Challenge.pw_no0414_01
/-- places in the program -/
noncomputable def PB : List Stmt := PP.main.body
noncomputable def nS : List Stmt → Nat → Stmt
  | [], _ => .Pass default
  | s :: _, 0 => s
  | _ :: r, n + 1 => nS r n
noncomputable def cB : Stmt → List Stmt
  | .ClassDef _ _ _ b .. => b
  | .FunctionDef _ _ b .. => b
  | _ => []
noncomputable abbrev dE (P : Params) (x : Str) (t : Tok) (v : Value) : DictEntry := ⟨PyData.keyHash P x, .str x t, v⟩
noncomputable def fnO {st : Stmt} {n bd : Str} {a : Arguments} {b : List Stmt} {ds : List Expr} {r : Option Expr} {tp : List TypeParam} {s : Scope} {ts : Option Scope} {p : Pos} (_ : st = .FunctionDef n a b ds r tp s ts bd p)
    (qual mod : Str) (t : Tok) (code : Addr) (dV : Value := .none) : Obj :=
  ⟨.type "function", none, .func (fnOf n qual a b s dV .none .none (.str mod t) none (.ref code) .none), #[]⟩
/-- the part of the heap behind the top that is written out -/
noncomputable def KK (P : Params) : Frag := [
  (2, { cls := Value.none, data := Data.dict #[dE P "type.__subclasses__.Exception.0" 212 (Value.int 31 0), dE P "type.__subclasses__.Exception.n" 213 (Value.int 1 0)] 2 }),
  (3, { cls := Value.type "dict", data := Data.dict #[dE P "__name__" 165 (Value.str "law_no0414_01" 927), dE P "__doc__" 166 .none, dE P "__package__" 167 .none, dE P "__loader__" 168 (Value.builtin "__main__.__loader__#opaque"), dE P "__spec__" 169 .none, dE P "__annotations__" 170 (Value.ref 6), dE P "__builtins__" 171 (Value.ref 4), dE P "__file__" 173 (Value.str "/claim/cut.py" 172), dE P "__cached__" 174 .none, dE P "_wall" 193 (Value.ref 21), dE P "KeepError" 215 (Value.ref 31), dE P "StoreError" 231 (Value.ref 44), dE P "Corrupt" 247 (Value.ref 56), dE P "ShortOctets" 263 (Value.ref 68), dE P "BadOption" 279 (Value.ref 80), dE P "MAX_32" 283 (Value.int 4294967295 282), dE P "MAX_64" 285 (Value.int 18446744073709551615 284), dE P "write_groups" 294 (Value.ref 89), dE P "read_groups" 308 (Value.ref 96), dE P "put_varint" 315 (Value.ref 103), dE P "read_varint" 323 (Value.ref 110), dE P "put_varint32" 330 (Value.ref 117), dE P "read_varint32" 338 (Value.ref 124), dE P "varint_length" 346 (Value.ref 131), dE P "read_lengthed" 355 (Value.ref 138), dE P "Cursor" 458 (Value.ref 219), dE P "Sink" 549 (Value.ref 296), dE P "NONE" 553 (Value.int 0 552), dE P "ENTRY_NORMAL" 555 (Value.int 0 554), dE P "ENTRY_CONF" 557 (Value.int 2 556), dE P "rising" 566 (Value.ref 307), dE P "take_count" 574 (Value.ref 314), dE P "Entry" 639 (Value.ref 359), dE P "encode_entry" 647 (Value.ref 370), dE P "decode_entry" 659 (Value.ref 377), dE P "HardState" 721 (Value.ref 422), dE P "ConfState" 772 (Value.ref 457), dE P "put_ids" 781 (Value.ref 468), dE P "take_ids" 791 (Value.ref 475), dE P "encode_conf" 799 (Value.ref 482), dE P "decode_conf" 812 (Value.ref 489), dE P "RW_HARD" 816 (Value.int 1 815), dE P "RW_ENTRY" 818 (Value.int 2 817), dE P "RW_FOLD" 820 (Value.int 4 819), dE P "hard_record" 828 (Value.ref 496), dE P "entry_record" 835 (Value.ref 503), dE P "fold_record" 845 (Value.ref 510), dE P "SegmentState" 926 (Value.ref 562), dE P "_law_draw" 936 (Value.ref 573), dE P "_law_put" 944 (Value.ref 580), dE P "_law_num" 957 (Value.ref 587), dE P "_law_members" 970 (Value.ref 594), dE P "_law_read" 984 (Value.ref 601), dE P "_law_let" 996 (Value.ref 608), dE P "_law_says" 1013 (Value.ref 615), dE P "law" 1019 (Value.ref 620)] 56 }),
  (30, { cls := Value.type "dict", data := Data.dict #[dE P "__module__" 203 (Value.str "raftkeep.errors" 194), dE P "__firstlineno__" 207 (Value.int 5 206), dE P "__static_attributes__" 208 (Value.ref 29), dE P "__weakref__" 210 (Value.ref 32), dE P "__doc__" 211 .none] 3 }),
  (31, { cls := Value.type "type", data := Data.cls { name := "KeepError", bases := [Value.type "Exception"], mro := [Value.ref 31, Value.type "Exception", Value.type "BaseException", Value.type "object"], ns := 30, qualname := "KeepError", subclasses := [Value.ref 44] }, slots := #[some (Value.ref 22), none, some (Value.str "KeepError" 196), some (Value.str "KeepError" 204), some (Value.builtin "Exception.__new__"), some (Value.bool true)] }),
  (32, { cls := Value.type "getset_descriptor", data := Data.fields #[Value.str "__weakref__" 209, Value.ref 31, Value.builtin "ExceptionGroup.__weakref__", Value.none] }),
  (43, { cls := Value.type "dict", data := Data.dict #[dE P "__module__" 223 (Value.str "raftkeep.errors" 194), dE P "__firstlineno__" 227 (Value.int 7 226), dE P "__static_attributes__" 228 (Value.ref 42), dE P "__doc__" 229 .none] 2 }),
  (44, { cls := Value.type "type", data := Data.cls { name := "StoreError", bases := [Value.ref 31], mro := [Value.ref 44, Value.ref 31, Value.type "Exception", Value.type "BaseException", Value.type "object"], ns := 43, qualname := "StoreError", subclasses := [Value.ref 56, Value.ref 80] }, slots := #[some (Value.ref 35), none, some (Value.str "StoreError" 216), some (Value.str "StoreError" 224), some (Value.builtin "Exception.__new__"), some (Value.bool true)] }),
  (55, { cls := Value.type "dict", data := Data.dict #[dE P "__module__" 239 (Value.str "raftkeep.errors" 194), dE P "__firstlineno__" 243 (Value.int 9 242), dE P "__static_attributes__" 244 (Value.ref 54), dE P "__doc__" 245 .none] 2 }),
  (56, { cls := Value.type "type", data := Data.cls { name := "Corrupt", bases := [Value.ref 44], mro := [Value.ref 56, Value.ref 44, Value.ref 31, Value.type "Exception", Value.type "BaseException", Value.type "object"], ns := 55, qualname := "Corrupt", subclasses := [Value.ref 68] }, slots := #[some (Value.ref 47), none, some (Value.str "Corrupt" 232), some (Value.str "Corrupt" 240), some (Value.builtin "Exception.__new__"), some (Value.bool true)] }),
  (67, { cls := Value.type "dict", data := Data.dict #[dE P "__module__" 255 (Value.str "raftkeep.errors" 194), dE P "__firstlineno__" 259 (Value.int 11 258), dE P "__static_attributes__" 260 (Value.ref 66), dE P "__doc__" 261 .none] 2 }),
  (68, { cls := Value.type "type", data := Data.cls { name := "ShortOctets", bases := [Value.ref 56], mro := [Value.ref 68, Value.ref 56, Value.ref 44, Value.ref 31, Value.type "Exception", Value.type "BaseException", Value.type "object"], ns := 67, qualname := "ShortOctets" }, slots := #[some (Value.ref 59), none, some (Value.str "ShortOctets" 248), some (Value.str "ShortOctets" 256), some (Value.builtin "Exception.__new__"), some (Value.bool true)] }),
  (79, { cls := Value.type "dict", data := Data.dict #[dE P "__module__" 271 (Value.str "raftkeep.errors" 194), dE P "__firstlineno__" 275 (Value.int 13 274), dE P "__static_attributes__" 276 (Value.ref 78), dE P "__doc__" 277 .none] 2 }),
  (80, { cls := Value.type "type", data := Data.cls { name := "BadOption", bases := [Value.ref 44], mro := [Value.ref 80, Value.ref 44, Value.ref 31, Value.type "Exception", Value.type "BaseException", Value.type "object"], ns := 79, qualname := "BadOption" }, slots := #[some (Value.ref 71), none, some (Value.str "BadOption" 264), some (Value.str "BadOption" 272), some (Value.builtin "Exception.__new__"), some (Value.bool true)] }),
  (88, { cls := Value.type "code", data := Data.fields #[Value.str "write_groups" 286, Value.str "write_groups" 287, Value.str "/claim/cut.py" 288, Value.int 18 0, Value.int 2 0, Value.int 0 0, Value.int 0 0, Value.int 3 0, Value.ref 83, Value.bool true, Value.int 181 0, Value.ref 84, Value.none, Value.ref 85, Value.ref 86, Value.ref 87, Value.int 292 0, Value.int 18 0, Value.str "/claim/cut.py" 293] }),
  (89, fnO (st := nS PB 10) rfl "write_groups" "raftkeep.octets" 280 88),
  (95, { cls := Value.type "code", data := Data.fields #[Value.str "read_groups" 295, Value.str "read_groups" 296, Value.str "/claim/cut.py" 297, Value.int 27 0, Value.int 4 0, Value.int 0 0, Value.int 0 0, Value.int 3 0, Value.ref 90, Value.bool true, Value.int 181 0, Value.ref 91, Value.none, Value.ref 92, Value.ref 93, Value.ref 94, Value.int 306 0, Value.int 27 0, Value.str "/claim/cut.py" 307] }),
  (96, fnO (st := nS PB 11) rfl "read_groups" "raftkeep.octets" 280 95),
  (102, { cls := Value.type "code", data := Data.fields #[Value.str "put_varint" 309, Value.str "put_varint" 310, Value.str "/claim/cut.py" 311, Value.int 44 0, Value.int 1 0, Value.int 0 0, Value.int 0 0, Value.int 3 0, Value.ref 97, Value.bool true, Value.int 181 0, Value.ref 98, Value.none, Value.ref 99, Value.ref 100, Value.ref 101, Value.int 313 0, Value.int 44 0, Value.str "/claim/cut.py" 314] }),
  (103, fnO (st := nS PB 12) rfl "put_varint" "raftkeep.octets" 280 102),
  (109, { cls := Value.type "code", data := Data.fields #[Value.str "read_varint" 316, Value.str "read_varint" 317, Value.str "/claim/cut.py" 318, Value.int 48 0, Value.int 2 0, Value.int 0 0, Value.int 0 0, Value.int 3 0, Value.ref 104, Value.bool true, Value.int 181 0, Value.ref 105, Value.none, Value.ref 106, Value.ref 107, Value.ref 108, Value.int 321 0, Value.int 48 0, Value.str "/claim/cut.py" 322] }),
  (110, fnO (st := nS PB 13) rfl "read_varint" "raftkeep.octets" 280 109),
  (116, { cls := Value.type "code", data := Data.fields #[Value.str "put_varint32" 324, Value.str "put_varint32" 325, Value.str "/claim/cut.py" 326, Value.int 52 0, Value.int 1 0, Value.int 0 0, Value.int 0 0, Value.int 3 0, Value.ref 111, Value.bool true, Value.int 181 0, Value.ref 112, Value.none, Value.ref 113, Value.ref 114, Value.ref 115, Value.int 328 0, Value.int 52 0, Value.str "/claim/cut.py" 329] }),
  (117, fnO (st := nS PB 14) rfl "put_varint32" "raftkeep.octets" 280 116),
  (123, { cls := Value.type "code", data := Data.fields #[Value.str "read_varint32" 331, Value.str "read_varint32" 332, Value.str "/claim/cut.py" 333, Value.int 56 0, Value.int 2 0, Value.int 0 0, Value.int 0 0, Value.int 3 0, Value.ref 118, Value.bool true, Value.int 181 0, Value.ref 119, Value.none, Value.ref 120, Value.ref 121, Value.ref 122, Value.int 336 0, Value.int 56 0, Value.str "/claim/cut.py" 337] }),
  (124, fnO (st := nS PB 15) rfl "read_varint32" "raftkeep.octets" 280 123),
  (137, { cls := Value.type "code", data := Data.fields #[Value.str "read_lengthed" 347, Value.str "read_lengthed" 348, Value.str "/claim/cut.py" 349, Value.int 68 0, Value.int 2 0, Value.int 0 0, Value.int 0 0, Value.int 3 0, Value.ref 132, Value.bool true, Value.int 181 0, Value.ref 133, Value.none, Value.ref 134, Value.ref 135, Value.ref 136, Value.int 353 0, Value.int 68 0, Value.str "/claim/cut.py" 354] }),
  (138, fnO (st := nS PB 17) rfl "read_lengthed" "raftkeep.octets" 280 137),
  (146, { cls := Value.type "tuple", data := Data.seq #[Value.int 0 368] }),
  (152, { cls := Value.type "code", data := Data.fields #[Value.str "__init__" 369, Value.str "Cursor.__init__" 370, Value.str "/claim/cut.py" 371, Value.int 75 0, Value.int 3 0, Value.int 0 0, Value.int 0 0, Value.int 3 0, Value.ref 147, Value.bool true, Value.int 181 0, Value.ref 148, Value.none, Value.ref 149, Value.ref 150, Value.ref 151, Value.int 375 0, Value.int 75 0, Value.str "/claim/cut.py" 376] }),
  (153, fnO (st := nS (cB (nS PB 18)) 0) rfl "Cursor.__init__" "raftkeep.octets" 280 152 (Value.ref 146)),
  (159, { cls := Value.type "code", data := Data.fields #[Value.str "left" 378, Value.str "Cursor.left" 379, Value.str "/claim/cut.py" 380, Value.int 81 0, Value.int 1 0, Value.int 0 0, Value.int 0 0, Value.int 3 0, Value.ref 154, Value.bool true, Value.int 181 0, Value.ref 155, Value.none, Value.ref 156, Value.ref 157, Value.ref 158, Value.int 382 0, Value.int 81 0, Value.str "/claim/cut.py" 383] }),
  (160, fnO (st := nS (cB (nS PB 18)) 1) rfl "Cursor.left" "raftkeep.octets" 280 159),
  (166, { cls := Value.type "code", data := Data.fields #[Value.str "varint" 385, Value.str "Cursor.varint" 386, Value.str "/claim/cut.py" 387, Value.int 84 0, Value.int 1 0, Value.int 0 0, Value.int 0 0, Value.int 3 0, Value.ref 161, Value.bool true, Value.int 181 0, Value.ref 162, Value.none, Value.ref 163, Value.ref 164, Value.ref 165, Value.int 391 0, Value.int 84 0, Value.str "/claim/cut.py" 392] }),
  (167, fnO (st := nS (cB (nS PB 18)) 2) rfl "Cursor.varint" "raftkeep.octets" 280 166),
  (187, { cls := Value.type "code", data := Data.fields #[Value.str "lengthed" 408, Value.str "Cursor.lengthed" 409, Value.str "/claim/cut.py" 410, Value.int 99 0, Value.int 1 0, Value.int 0 0, Value.int 0 0, Value.int 3 0, Value.ref 182, Value.bool true, Value.int 181 0, Value.ref 183, Value.none, Value.ref 184, Value.ref 185, Value.ref 186, Value.int 414 0, Value.int 99 0, Value.str "/claim/cut.py" 415] }),
  (188, fnO (st := nS (cB (nS PB 18)) 5) rfl "Cursor.lengthed" "raftkeep.octets" 280 187),
  (201, { cls := Value.type "code", data := Data.fields #[Value.str "flag" 425, Value.str "Cursor.flag" 426, Value.str "/claim/cut.py" 427, Value.int 111 0, Value.int 1 0, Value.int 0 0, Value.int 0 0, Value.int 3 0, Value.ref 196, Value.bool true, Value.int 181 0, Value.ref 197, Value.none, Value.ref 198, Value.ref 199, Value.ref 200, Value.int 430 0, Value.int 111 0, Value.str "/claim/cut.py" 431] }),
  (202, fnO (st := nS (cB (nS PB 18)) 7) rfl "Cursor.flag" "raftkeep.octets" 280 201),
  (215, { cls := Value.type "code", data := Data.fields #[Value.str "done" 442, Value.str "Cursor.done" 443, Value.str "/claim/cut.py" 444, Value.int 127 0, Value.int 1 0, Value.int 0 0, Value.int 0 0, Value.int 3 0, Value.ref 210, Value.bool true, Value.int 181 0, Value.ref 211, Value.none, Value.ref 212, Value.ref 213, Value.ref 214, Value.int 446 0, Value.int 127 0, Value.str "/claim/cut.py" 447] }),
  (216, fnO (st := nS (cB (nS PB 18)) 9) rfl "Cursor.done" "raftkeep.octets" 280 215),
  (218, { cls := Value.type "dict", data := Data.dict #[dE P "__module__" 363 (Value.str "raftkeep.octets" 280), dE P "__firstlineno__" 367 (Value.int 73 366), dE P "__init__" 377 (Value.ref 153), dE P "left" 384 (Value.ref 160), dE P "varint" 393 (Value.ref 167), dE P "fixed32" 400 (Value.ref 174), dE P "fixed64" 407 (Value.ref 181), dE P "lengthed" 416 (Value.ref 188), dE P "octet" 424 (Value.ref 195), dE P "flag" 432 (Value.ref 202), dE P "take" 441 (Value.ref 209), dE P "done" 448 (Value.ref 216), dE P "__static_attributes__" 451 (Value.ref 217), dE P "__dict__" 453 (Value.ref 220), dE P "__weakref__" 455 (Value.ref 221), dE P "__doc__" 456 .none] 4 }),
  (219, { cls := Value.type "type", data := Data.cls { name := "Cursor", bases := [Value.type "object"], mro := [Value.ref 219, Value.type "object"], ns := 218, qualname := "Cursor" }, slots := #[none, none, some (Value.str "Cursor" 356), some (Value.str "Cursor" 364), some (Value.builtin "object.__new__"), some (Value.bool true)] }),
  (220, { cls := Value.type "getset_descriptor", data := Data.fields #[Value.str "__dict__" 452, Value.ref 219, Value.builtin "function.__dict__", Value.builtin "function.__dict__#set"] }),
  (221, { cls := Value.type "getset_descriptor", data := Data.fields #[Value.str "__weakref__" 454, Value.ref 219, Value.builtin "ExceptionGroup.__weakref__", Value.none] }),
  (236, { cls := Value.type "code", data := Data.fields #[Value.str "__init__" 471, Value.str "Sink.__init__" 472, Value.str "/claim/cut.py" 473, Value.int 132 0, Value.int 1 0, Value.int 0 0, Value.int 0 0, Value.int 3 0, Value.ref 231, Value.bool true, Value.int 181 0, Value.ref 232, Value.none, Value.ref 233, Value.ref 234, Value.ref 235, Value.int 475 0, Value.int 132 0, Value.str "/claim/cut.py" 476] }),
  (237, fnO (st := nS (cB (nS PB 19)) 0) rfl "Sink.__init__" "raftkeep.octets" 280 236),
  (243, { cls := Value.type "code", data := Data.fields #[Value.str "varint" 478, Value.str "Sink.varint" 479, Value.str "/claim/cut.py" 480, Value.int 135 0, Value.int 2 0, Value.int 0 0, Value.int 0 0, Value.int 3 0, Value.ref 238, Value.bool true, Value.int 181 0, Value.ref 239, Value.none, Value.ref 240, Value.ref 241, Value.ref 242, Value.int 483 0, Value.int 135 0, Value.str "/claim/cut.py" 484] }),
  (244, fnO (st := nS (cB (nS PB 19)) 1) rfl "Sink.varint" "raftkeep.octets" 280 243),
  (264, { cls := Value.type "code", data := Data.fields #[Value.str "lengthed" 502, Value.str "Sink.lengthed" 503, Value.str "/claim/cut.py" 504, Value.int 147 0, Value.int 2 0, Value.int 0 0, Value.int 0 0, Value.int 3 0, Value.ref 259, Value.bool true, Value.int 181 0, Value.ref 260, Value.none, Value.ref 261, Value.ref 262, Value.ref 263, Value.int 507 0, Value.int 147 0, Value.str "/claim/cut.py" 508] }),
  (265, fnO (st := nS (cB (nS PB 19)) 4) rfl "Sink.lengthed" "raftkeep.octets" 280 264),
  (271, { cls := Value.type "code", data := Data.fields #[Value.str "octet" 510, Value.str "Sink.octet" 511, Value.str "/claim/cut.py" 512, Value.int 151 0, Value.int 2 0, Value.int 0 0, Value.int 0 0, Value.int 3 0, Value.ref 266, Value.bool true, Value.int 181 0, Value.ref 267, Value.none, Value.ref 268, Value.ref 269, Value.ref 270, Value.int 515 0, Value.int 151 0, Value.str "/claim/cut.py" 516] }),
  (272, fnO (st := nS (cB (nS PB 19)) 5) rfl "Sink.octet" "raftkeep.octets" 280 271),
  (278, { cls := Value.type "code", data := Data.fields #[Value.str "flag" 518, Value.str "Sink.flag" 519, Value.str "/claim/cut.py" 520, Value.int 156 0, Value.int 2 0, Value.int 0 0, Value.int 0 0, Value.int 3 0, Value.ref 273, Value.bool true, Value.int 181 0, Value.ref 274, Value.none, Value.ref 275, Value.ref 276, Value.ref 277, Value.int 523 0, Value.int 156 0, Value.str "/claim/cut.py" 524] }),
  (279, fnO (st := nS (cB (nS PB 19)) 6) rfl "Sink.flag" "raftkeep.octets" 280 278),
  (292, { cls := Value.type "code", data := Data.fields #[Value.str "done" 534, Value.str "Sink.done" 535, Value.str "/claim/cut.py" 536, Value.int 165 0, Value.int 1 0, Value.int 0 0, Value.int 0 0, Value.int 3 0, Value.ref 287, Value.bool true, Value.int 181 0, Value.ref 288, Value.none, Value.ref 289, Value.ref 290, Value.ref 291, Value.int 538 0, Value.int 165 0, Value.str "/claim/cut.py" 539] }),
  (293, fnO (st := nS (cB (nS PB 19)) 8) rfl "Sink.done" "raftkeep.octets" 280 292),
  (295, { cls := Value.type "dict", data := Data.dict #[dE P "__module__" 466 (Value.str "raftkeep.octets" 280), dE P "__firstlineno__" 470 (Value.int 130 469), dE P "__init__" 477 (Value.ref 237), dE P "varint" 485 (Value.ref 244), dE P "fixed32" 493 (Value.ref 251), dE P "fixed64" 501 (Value.ref 258), dE P "lengthed" 509 (Value.ref 265), dE P "octet" 517 (Value.ref 272), dE P "flag" 525 (Value.ref 279), dE P "raw" 533 (Value.ref 286), dE P "done" 540 (Value.ref 293), dE P "__static_attributes__" 542 (Value.ref 294), dE P "__dict__" 544 (Value.ref 297), dE P "__weakref__" 546 (Value.ref 298), dE P "__doc__" 547 .none] 4 }),
  (296, { cls := Value.type "type", data := Data.cls { name := "Sink", bases := [Value.type "object"], mro := [Value.ref 296, Value.type "object"], ns := 295, qualname := "Sink" }, slots := #[none, none, some (Value.str "Sink" 459), some (Value.str "Sink" 467), some (Value.builtin "object.__new__"), some (Value.bool true)] }),
  (297, { cls := Value.type "getset_descriptor", data := Data.fields #[Value.str "__dict__" 543, Value.ref 296, Value.builtin "function.__dict__", Value.builtin "function.__dict__#set"] }),
  (298, { cls := Value.type "getset_descriptor", data := Data.fields #[Value.str "__weakref__" 545, Value.ref 296, Value.builtin "ExceptionGroup.__weakref__", Value.none] }),
  (306, { cls := Value.type "code", data := Data.fields #[Value.str "rising" 558, Value.str "rising" 559, Value.str "/claim/cut.py" 560, Value.int 171 0, Value.int 1 0, Value.int 0 0, Value.int 0 0, Value.int 3 0, Value.ref 301, Value.bool true, Value.int 181 0, Value.ref 302, Value.none, Value.ref 303, Value.ref 304, Value.ref 305, Value.int 564 0, Value.int 171 0, Value.str "/claim/cut.py" 565] }),
  (307, fnO (st := nS PB 24) rfl "rising" "raftkeep.messages" 550 306),
  (313, { cls := Value.type "code", data := Data.fields #[Value.str "take_count" 567, Value.str "take_count" 568, Value.str "/claim/cut.py" 569, Value.int 177 0, Value.int 1 0, Value.int 0 0, Value.int 0 0, Value.int 3 0, Value.ref 308, Value.bool true, Value.int 181 0, Value.ref 309, Value.none, Value.ref 310, Value.ref 311, Value.ref 312, Value.int 572 0, Value.int 177 0, Value.str "/claim/cut.py" 573] }),
  (314, fnO (st := nS PB 25) rfl "take_count" "raftkeep.messages" 550 313),
  (327, { cls := Value.type "code", data := Data.fields #[Value.str "__init__" 587, Value.str "Entry.__init__" 588, Value.str "/claim/cut.py" 589, Value.int 184 0, Value.int 5 0, Value.int 0 0, Value.int 0 0, Value.int 3 0, Value.ref 322, Value.bool true, Value.int 181 0, Value.ref 323, Value.none, Value.ref 324, Value.ref 325, Value.ref 326, Value.int 595 0, Value.int 184 0, Value.str "/claim/cut.py" 596] }),
  (328, fnO (st := nS (cB (nS PB 26)) 0) rfl "Entry.__init__" "raftkeep.messages" 550 327),
  (334, { cls := Value.type "code", data := Data.fields #[Value.str "row" 598, Value.str "Entry.row" 599, Value.str "/claim/cut.py" 600, Value.int 190 0, Value.int 1 0, Value.int 0 0, Value.int 0 0, Value.int 3 0, Value.ref 329, Value.bool true, Value.int 181 0, Value.ref 330, Value.none, Value.ref 331, Value.ref 332, Value.ref 333, Value.int 602 0, Value.int 190 0, Value.str "/claim/cut.py" 603] }),
  (335, fnO (st := nS (cB (nS PB 26)) 1) rfl "Entry.row" "raftkeep.messages" 550 334),
  (358, { cls := Value.type "dict", data := Data.dict #[dE P "__module__" 582 (Value.str "raftkeep.messages" 550), dE P "__firstlineno__" 586 (Value.int 182 585), dE P "__init__" 597 (Value.ref 328), dE P "row" 604 (Value.ref 335), dE P "copy" 611 (Value.ref 342), dE P "payload" 618 (Value.ref 349), dE P "size" 627 (Value.ref 356), dE P "__static_attributes__" 632 (Value.ref 357), dE P "__dict__" 634 (Value.ref 360), dE P "__weakref__" 636 (Value.ref 361), dE P "__doc__" 637 .none] 4 }),
  (359, { cls := Value.type "type", data := Data.cls { name := "Entry", bases := [Value.type "object"], mro := [Value.ref 359, Value.type "object"], ns := 358, qualname := "Entry" }, slots := #[none, none, some (Value.str "Entry" 575), some (Value.str "Entry" 583), some (Value.builtin "object.__new__"), some (Value.bool true)] }),
  (360, { cls := Value.type "getset_descriptor", data := Data.fields #[Value.str "__dict__" 633, Value.ref 359, Value.builtin "function.__dict__", Value.builtin "function.__dict__#set"] }),
  (361, { cls := Value.type "getset_descriptor", data := Data.fields #[Value.str "__weakref__" 635, Value.ref 359, Value.builtin "ExceptionGroup.__weakref__", Value.none] }),
  (369, { cls := Value.type "code", data := Data.fields #[Value.str "encode_entry" 640, Value.str "encode_entry" 641, Value.str "/claim/cut.py" 642, Value.int 203 0, Value.int 1 0, Value.int 0 0, Value.int 0 0, Value.int 3 0, Value.ref 364, Value.bool true, Value.int 181 0, Value.ref 365, Value.none, Value.ref 366, Value.ref 367, Value.ref 368, Value.int 645 0, Value.int 203 0, Value.str "/claim/cut.py" 646] }),
  (370, fnO (st := nS PB 27) rfl "encode_entry" "raftkeep.messages" 550 369),
  (376, { cls := Value.type "code", data := Data.fields #[Value.str "decode_entry" 648, Value.str "decode_entry" 649, Value.str "/claim/cut.py" 650, Value.int 210 0, Value.int 1 0, Value.int 0 0, Value.int 0 0, Value.int 3 0, Value.ref 371, Value.bool true, Value.int 181 0, Value.ref 372, Value.none, Value.ref 373, Value.ref 374, Value.ref 375, Value.int 657 0, Value.int 210 0, Value.str "/claim/cut.py" 658] }),
  (377, fnO (st := nS PB 28) rfl "decode_entry" "raftkeep.messages" 550 376),
  (390, { cls := Value.type "code", data := Data.fields #[Value.str "__init__" 672, Value.str "HardState.__init__" 673, Value.str "/claim/cut.py" 674, Value.int 222 0, Value.int 4 0, Value.int 0 0, Value.int 0 0, Value.int 3 0, Value.ref 385, Value.bool true, Value.int 181 0, Value.ref 386, Value.none, Value.ref 387, Value.ref 388, Value.ref 389, Value.int 679 0, Value.int 222 0, Value.str "/claim/cut.py" 680] }),
  (391, fnO (st := nS (cB (nS PB 29)) 0) rfl "HardState.__init__" "raftkeep.messages" 550 390),
  (397, { cls := Value.type "code", data := Data.fields #[Value.str "row" 682, Value.str "HardState.row" 683, Value.str "/claim/cut.py" 684, Value.int 227 0, Value.int 1 0, Value.int 0 0, Value.int 0 0, Value.int 3 0, Value.ref 392, Value.bool true, Value.int 181 0, Value.ref 393, Value.none, Value.ref 394, Value.ref 395, Value.ref 396, Value.int 686 0, Value.int 227 0, Value.str "/claim/cut.py" 687] }),
  (398, fnO (st := nS (cB (nS PB 29)) 1) rfl "HardState.row" "raftkeep.messages" 550 397),
  (421, { cls := Value.type "dict", data := Data.dict #[dE P "__module__" 667 (Value.str "raftkeep.messages" 550), dE P "__firstlineno__" 671 (Value.int 220 670), dE P "__init__" 681 (Value.ref 391), dE P "row" 688 (Value.ref 398), dE P "empty" 695 (Value.ref 405), dE P "same" 703 (Value.ref 412), dE P "copy" 710 (Value.ref 419), dE P "__static_attributes__" 714 (Value.ref 420), dE P "__dict__" 716 (Value.ref 423), dE P "__weakref__" 718 (Value.ref 424), dE P "__doc__" 719 .none] 4 }),
  (422, { cls := Value.type "type", data := Data.cls { name := "HardState", bases := [Value.type "object"], mro := [Value.ref 422, Value.type "object"], ns := 421, qualname := "HardState" }, slots := #[none, none, some (Value.str "HardState" 660), some (Value.str "HardState" 668), some (Value.builtin "object.__new__"), some (Value.bool true)] }),
  (423, { cls := Value.type "getset_descriptor", data := Data.fields #[Value.str "__dict__" 715, Value.ref 422, Value.builtin "function.__dict__", Value.builtin "function.__dict__#set"] }),
  (424, { cls := Value.type "getset_descriptor", data := Data.fields #[Value.str "__weakref__" 717, Value.ref 422, Value.builtin "ExceptionGroup.__weakref__", Value.none] }),
  (439, { cls := Value.type "code", data := Data.fields #[Value.str "__init__" 734, Value.str "ConfState.__init__" 735, Value.str "/claim/cut.py" 736, Value.int 240 0, Value.int 6 0, Value.int 0 0, Value.int 0 0, Value.int 3 0, Value.ref 434, Value.bool true, Value.int 181 0, Value.ref 435, Value.none, Value.ref 436, Value.ref 437, Value.ref 438, Value.int 743 0, Value.int 240 0, Value.str "/claim/cut.py" 744] }),
  (440, fnO (st := nS (cB (nS PB 30)) 0) rfl "ConfState.__init__" "raftkeep.messages" 550 439),
  (446, { cls := Value.type "code", data := Data.fields #[Value.str "row" 746, Value.str "ConfState.row" 747, Value.str "/claim/cut.py" 748, Value.int 247 0, Value.int 1 0, Value.int 0 0, Value.int 0 0, Value.int 3 0, Value.ref 441, Value.bool true, Value.int 181 0, Value.ref 442, Value.none, Value.ref 443, Value.ref 444, Value.ref 445, Value.int 750 0, Value.int 247 0, Value.str "/claim/cut.py" 751] }),
  (447, fnO (st := nS (cB (nS PB 30)) 1) rfl "ConfState.row" "raftkeep.messages" 550 446),
  (456, { cls := Value.type "dict", data := Data.dict #[dE P "__module__" 729 (Value.str "raftkeep.messages" 550), dE P "__firstlineno__" 733 (Value.int 238 732), dE P "__init__" 745 (Value.ref 440), dE P "row" 752 (Value.ref 447), dE P "copy" 759 (Value.ref 454), dE P "__static_attributes__" 765 (Value.ref 455), dE P "__dict__" 767 (Value.ref 458), dE P "__weakref__" 769 (Value.ref 459), dE P "__doc__" 770 .none] 4 }),
  (457, { cls := Value.type "type", data := Data.cls { name := "ConfState", bases := [Value.type "object"], mro := [Value.ref 457, Value.type "object"], ns := 456, qualname := "ConfState" }, slots := #[none, none, some (Value.str "ConfState" 722), some (Value.str "ConfState" 730), some (Value.builtin "object.__new__"), some (Value.bool true)] }),
  (458, { cls := Value.type "getset_descriptor", data := Data.fields #[Value.str "__dict__" 766, Value.ref 457, Value.builtin "function.__dict__", Value.builtin "function.__dict__#set"] }),
  (459, { cls := Value.type "getset_descriptor", data := Data.fields #[Value.str "__weakref__" 768, Value.ref 457, Value.builtin "ExceptionGroup.__weakref__", Value.none] }),
  (467, { cls := Value.type "code", data := Data.fields #[Value.str "put_ids" 773, Value.str "put_ids" 774, Value.str "/claim/cut.py" 775, Value.int 252 0, Value.int 2 0, Value.int 0 0, Value.int 0 0, Value.int 3 0, Value.ref 462, Value.bool true, Value.int 181 0, Value.ref 463, Value.none, Value.ref 464, Value.ref 465, Value.ref 466, Value.int 779 0, Value.int 252 0, Value.str "/claim/cut.py" 780] }),
  (468, fnO (st := nS PB 31) rfl "put_ids" "raftkeep.messages" 550 467),
  (474, { cls := Value.type "code", data := Data.fields #[Value.str "take_ids" 782, Value.str "take_ids" 783, Value.str "/claim/cut.py" 784, Value.int 256 0, Value.int 1 0, Value.int 0 0, Value.int 0 0, Value.int 3 0, Value.ref 469, Value.bool true, Value.int 181 0, Value.ref 470, Value.none, Value.ref 471, Value.ref 472, Value.ref 473, Value.int 789 0, Value.int 256 0, Value.str "/claim/cut.py" 790] }),
  (475, fnO (st := nS PB 32) rfl "take_ids" "raftkeep.messages" 550 474),
  (481, { cls := Value.type "code", data := Data.fields #[Value.str "encode_conf" 792, Value.str "encode_conf" 793, Value.str "/claim/cut.py" 794, Value.int 264 0, Value.int 1 0, Value.int 0 0, Value.int 0 0, Value.int 3 0, Value.ref 476, Value.bool true, Value.int 181 0, Value.ref 477, Value.none, Value.ref 478, Value.ref 479, Value.ref 480, Value.int 797 0, Value.int 264 0, Value.str "/claim/cut.py" 798] }),
  (482, fnO (st := nS PB 33) rfl "encode_conf" "raftkeep.messages" 550 481),
  (488, { cls := Value.type "code", data := Data.fields #[Value.str "decode_conf" 800, Value.str "decode_conf" 801, Value.str "/claim/cut.py" 802, Value.int 272 0, Value.int 1 0, Value.int 0 0, Value.int 0 0, Value.int 3 0, Value.ref 483, Value.bool true, Value.int 181 0, Value.ref 484, Value.none, Value.ref 485, Value.ref 486, Value.ref 487, Value.int 810 0, Value.int 272 0, Value.str "/claim/cut.py" 811] }),
  (489, fnO (st := nS PB 34) rfl "decode_conf" "raftkeep.messages" 550 488),
  (495, { cls := Value.type "code", data := Data.fields #[Value.str "hard_record" 821, Value.str "hard_record" 822, Value.str "/claim/cut.py" 823, Value.int 285 0, Value.int 1 0, Value.int 0 0, Value.int 0 0, Value.int 3 0, Value.ref 490, Value.bool true, Value.int 181 0, Value.ref 491, Value.none, Value.ref 492, Value.ref 493, Value.ref 494, Value.int 826 0, Value.int 285 0, Value.str "/claim/cut.py" 827] }),
  (496, fnO (st := nS PB 39) rfl "hard_record" "raftkeep.raftwal" 813 495),
  (502, { cls := Value.type "code", data := Data.fields #[Value.str "entry_record" 829, Value.str "entry_record" 830, Value.str "/claim/cut.py" 831, Value.int 292 0, Value.int 1 0, Value.int 0 0, Value.int 0 0, Value.int 3 0, Value.ref 497, Value.bool true, Value.int 181 0, Value.ref 498, Value.none, Value.ref 499, Value.ref 500, Value.ref 501, Value.int 833 0, Value.int 292 0, Value.str "/claim/cut.py" 834] }),
  (503, fnO (st := nS PB 40) rfl "entry_record" "raftkeep.raftwal" 813 502),
  (509, { cls := Value.type "code", data := Data.fields #[Value.str "fold_record" 836, Value.str "fold_record" 837, Value.str "/claim/cut.py" 838, Value.int 294 0, Value.int 3 0, Value.int 0 0, Value.int 0 0, Value.int 3 0, Value.ref 504, Value.bool true, Value.int 181 0, Value.ref 505, Value.none, Value.ref 506, Value.ref 507, Value.ref 508, Value.int 843 0, Value.int 294 0, Value.str "/claim/cut.py" 844] }),
  (510, fnO (st := nS PB 41) rfl "fold_record" "raftkeep.raftwal" 813 509),
  (523, { cls := Value.type "code", data := Data.fields #[Value.str "__init__" 858, Value.str "SegmentState.__init__" 859, Value.str "/claim/cut.py" 860, Value.int 303 0, Value.int 1 0, Value.int 0 0, Value.int 0 0, Value.int 3 0, Value.ref 518, Value.bool true, Value.int 181 0, Value.ref 519, Value.none, Value.ref 520, Value.ref 521, Value.ref 522, Value.int 862 0, Value.int 303 0, Value.str "/claim/cut.py" 863] }),
  (524, fnO (st := nS (cB (nS PB 42)) 0) rfl "SegmentState.__init__" "raftkeep.raftwal" 813 523),
  (530, { cls := Value.type "code", data := Data.fields #[Value.str "take" 865, Value.str "SegmentState.take" 866, Value.str "/claim/cut.py" 867, Value.int 312 0, Value.int 2 0, Value.int 0 0, Value.int 0 0, Value.int 3 0, Value.ref 525, Value.bool true, Value.int 181 0, Value.ref 526, Value.none, Value.ref 527, Value.ref 528, Value.ref 529, Value.int 871 0, Value.int 312 0, Value.str "/claim/cut.py" 872] }),
  (531, fnO (st := nS (cB (nS PB 42)) 1) rfl "SegmentState.take" "raftkeep.raftwal" 813 530),
  (537, { cls := Value.type "code", data := Data.fields #[Value.str "take_fold" 874, Value.str "SegmentState.take_fold" 875, Value.str "/claim/cut.py" 876, Value.int 330 0, Value.int 2 0, Value.int 0 0, Value.int 0 0, Value.int 3 0, Value.ref 532, Value.bool true, Value.int 181 0, Value.ref 533, Value.none, Value.ref 534, Value.ref 535, Value.ref 536, Value.int 880 0, Value.int 330 0, Value.str "/claim/cut.py" 881] }),
  (538, fnO (st := nS (cB (nS PB 42)) 2) rfl "SegmentState.take_fold" "raftkeep.raftwal" 813 537),
  (544, { cls := Value.type "code", data := Data.fields #[Value.str "take_hard" 883, Value.str "SegmentState.take_hard" 884, Value.str "/claim/cut.py" 885, Value.int 339 0, Value.int 2 0, Value.int 0 0, Value.int 0 0, Value.int 3 0, Value.ref 539, Value.bool true, Value.int 181 0, Value.ref 540, Value.none, Value.ref 541, Value.ref 542, Value.ref 543, Value.int 893 0, Value.int 339 0, Value.str "/claim/cut.py" 894] }),
  (545, fnO (st := nS (cB (nS PB 42)) 3) rfl "SegmentState.take_hard" "raftkeep.raftwal" 813 544),
  (551, { cls := Value.type "code", data := Data.fields #[Value.str "stand" 896, Value.str "SegmentState.stand" 897, Value.str "/claim/cut.py" 898, Value.int 350 0, Value.int 2 0, Value.int 0 0, Value.int 0 0, Value.int 3 0, Value.ref 546, Value.bool true, Value.int 181 0, Value.ref 547, Value.none, Value.ref 548, Value.ref 549, Value.ref 550, Value.int 902 0, Value.int 350 0, Value.str "/claim/cut.py" 903] }),
  (552, fnO (st := nS (cB (nS PB 42)) 4) rfl "SegmentState.stand" "raftkeep.raftwal" 813 551),
  (558, { cls := Value.type "code", data := Data.fields #[Value.str "check_whole" 905, Value.str "SegmentState.check_whole" 906, Value.str "/claim/cut.py" 907, Value.int 360 0, Value.int 1 0, Value.int 0 0, Value.int 0 0, Value.int 3 0, Value.ref 553, Value.bool true, Value.int 181 0, Value.ref 554, Value.none, Value.ref 555, Value.ref 556, Value.ref 557, Value.int 909 0, Value.int 360 0, Value.str "/claim/cut.py" 910] }),
  (559, fnO (st := nS (cB (nS PB 42)) 5) rfl "SegmentState.check_whole" "raftkeep.raftwal" 813 558),
  (561, { cls := Value.type "dict", data := Data.dict #[dE P "__module__" 853 (Value.str "raftkeep.raftwal" 813), dE P "__firstlineno__" 857 (Value.int 301 856), dE P "__init__" 864 (Value.ref 524), dE P "take" 873 (Value.ref 531), dE P "take_fold" 882 (Value.ref 538), dE P "take_hard" 895 (Value.ref 545), dE P "stand" 904 (Value.ref 552), dE P "check_whole" 911 (Value.ref 559), dE P "__static_attributes__" 919 (Value.ref 560), dE P "__dict__" 921 (Value.ref 563), dE P "__weakref__" 923 (Value.ref 564), dE P "__doc__" 924 .none] 4 }),
  (562, { cls := Value.type "type", data := Data.cls { name := "SegmentState", bases := [Value.type "object"], mro := [Value.ref 562, Value.type "object"], ns := 561, qualname := "SegmentState" }, slots := #[none, none, some (Value.str "SegmentState" 846), some (Value.str "SegmentState" 854), some (Value.builtin "object.__new__"), some (Value.bool true)] }),
  (563, { cls := Value.type "getset_descriptor", data := Data.fields #[Value.str "__dict__" 920, Value.ref 562, Value.builtin "function.__dict__", Value.builtin "function.__dict__#set"] }),
  (564, { cls := Value.type "getset_descriptor", data := Data.fields #[Value.str "__weakref__" 922, Value.ref 562, Value.builtin "ExceptionGroup.__weakref__", Value.none] }),
  (572, { cls := Value.type "code", data := Data.fields #[Value.str "_law_draw" 929, Value.str "_law_draw" 930, Value.str "/claim/cut.py" 931, Value.int 364 0, Value.int 2 0, Value.int 0 0, Value.int 0 0, Value.int 3 0, Value.ref 567, Value.bool true, Value.int 181 0, Value.ref 568, Value.none, Value.ref 569, Value.ref 570, Value.ref 571, Value.int 934 0, Value.int 364 0, Value.str "/claim/cut.py" 935] }),
  (573, fnO (st := nS PB 44) rfl "_law_draw" "law_no0414_01" 927 572),
  (579, { cls := Value.type "code", data := Data.fields #[Value.str "_law_put" 937, Value.str "_law_put" 938, Value.str "/claim/cut.py" 939, Value.int 366 0, Value.int 1 0, Value.int 0 0, Value.int 0 0, Value.int 3 0, Value.ref 574, Value.bool true, Value.int 181 0, Value.ref 575, Value.none, Value.ref 576, Value.ref 577, Value.ref 578, Value.int 942 0, Value.int 366 0, Value.str "/claim/cut.py" 943] }),
  (580, fnO (st := nS PB 45) rfl "_law_put" "law_no0414_01" 927 579),
  (586, { cls := Value.type "code", data := Data.fields #[Value.str "_law_num" 945, Value.str "_law_num" 946, Value.str "/claim/cut.py" 947, Value.int 372 0, Value.int 3 0, Value.int 0 0, Value.int 0 0, Value.int 3 0, Value.ref 581, Value.bool true, Value.int 181 0, Value.ref 582, Value.none, Value.ref 583, Value.ref 584, Value.ref 585, Value.int 955 0, Value.int 372 0, Value.str "/claim/cut.py" 956] }),
  (587, fnO (st := nS PB 46) rfl "_law_num" "law_no0414_01" 927 586),
  (593, { cls := Value.type "code", data := Data.fields #[Value.str "_law_members" 958, Value.str "_law_members" 959, Value.str "/claim/cut.py" 960, Value.int 384 0, Value.int 1 0, Value.int 0 0, Value.int 0 0, Value.int 3 0, Value.ref 588, Value.bool true, Value.int 181 0, Value.ref 589, Value.none, Value.ref 590, Value.ref 591, Value.ref 592, Value.int 968 0, Value.int 384 0, Value.str "/claim/cut.py" 969] }),
  (594, fnO (st := nS PB 47) rfl "_law_members" "law_no0414_01" 927 593),
  (600, { cls := Value.type "code", data := Data.fields #[Value.str "_law_read" 971, Value.str "_law_read" 972, Value.str "/claim/cut.py" 973, Value.int 402 0, Value.int 1 0, Value.int 0 0, Value.int 0 0, Value.int 3 0, Value.ref 595, Value.bool true, Value.int 181 0, Value.ref 596, Value.none, Value.ref 597, Value.ref 598, Value.ref 599, Value.int 982 0, Value.int 402 0, Value.str "/claim/cut.py" 983] }),
  (601, fnO (st := nS PB 48) rfl "_law_read" "law_no0414_01" 927 600),
  (607, { cls := Value.type "code", data := Data.fields #[Value.str "_law_let" 985, Value.str "_law_let" 986, Value.str "/claim/cut.py" 987, Value.int 430 0, Value.int 2 0, Value.int 0 0, Value.int 0 0, Value.int 3 0, Value.ref 602, Value.bool true, Value.int 181 0, Value.ref 603, Value.none, Value.ref 604, Value.ref 605, Value.ref 606, Value.int 994 0, Value.int 430 0, Value.str "/claim/cut.py" 995] }),
  (608, fnO (st := nS PB 49) rfl "_law_let" "law_no0414_01" 927 607),
  (614, { cls := Value.type "code", data := Data.fields #[Value.str "_law_says" 997, Value.str "_law_says" 998, Value.str "/claim/cut.py" 999, Value.int 447 0, Value.int 1 0, Value.int 0 0, Value.int 0 0, Value.int 3 0, Value.ref 609, Value.bool true, Value.int 181 0, Value.ref 610, Value.none, Value.ref 611, Value.ref 612, Value.ref 613, Value.int 1011 0, Value.int 447 0, Value.str "/claim/cut.py" 1012] }),
  (615, fnO (st := nS PB 50) rfl "_law_says" "law_no0414_01" 927 614),
  (619, { cls := Value.type "code", data := Data.fields #[Value.str "law" 1014, Value.str "law" 1015, Value.str "/claim/cut.py" 1016, Value.int 464 0, Value.int 1 0, Value.int 0 0, Value.int 0 0, Value.int 3 0, Value.ref 616, Value.bool true, Value.int 181 0, Value.ref 617, Value.none, Value.none, Value.none, Value.ref 618, Value.int 1017 0, Value.int 464 0, Value.str "/claim/cut.py" 1018] }),
  (620, fnO (st := nS PB 51) rfl "law" "law_no0414_01" 927 619)]
noncomputable def asK : List Addr := [2, 3, 30, 31, 32, 43, 44, 55, 56, 67, 68, 79, 80, 88, 89, 95, 96, 102, 103, 109, 110, 116, 117, 123, 124, 137, 138, 146, 152, 153, 159, 160, 166, 167, 187, 188, 201, 202, 215, 216, 218, 219, 220, 221, 236, 237, 243, 244, 264, 265, 271, 272, 278, 279, 292, 293, 295, 296, 297, 298, 306, 307, 313, 314, 327, 328, 334, 335, 358, 359, 360, 361, 369, 370, 376, 377, 390, 391, 397, 398, 421, 422, 423, 424, 439, 440, 446, 447, 456, 457, 458, 459, 467, 468, 474, 475, 481, 482, 488, 489, 495, 496, 502, 503, 509, 510, 523, 524, 530, 531, 537, 538, 544, 545, 551, 552, 558, 559, 561, 562, 563, 564, 572, 573, 579, 580, 586, 587, 593, 594, 600, 601, 607, 608, 614, 615, 619, 620]
theorem asK_eq : ∀ P, asK = (KK P).map (·.1) := fun _ => rfl
end Lw

end
section
open PySem PySem.W PyProof.Rows
set_option maxRecDepth 100000
set_option maxHeartbeats 0
namespace Lw
/-- the law alone, as the top binds it; all other names are loose -/
noncomputable def vw : Program := view PP [51]
noncomputable def lo : List Str := (["_wall", "KeepError", "StoreError", "Corrupt", "ShortOctets", "BadOption", "MAX_32", "MAX_64", "write_groups", "read_groups", "put_varint", "read_varint", "put_varint32", "read_varint32", "varint_length", "read_lengthed", "Cursor", "Sink", "NONE", "ENTRY_NORMAL", "ENTRY_CONF", "rising", "take_count", "Entry", "encode_entry", "decode_entry", "HardState", "ConfState", "put_ids", "take_ids", "encode_conf", "decode_conf", "RW_HARD", "RW_ENTRY", "RW_FOLD", "hard_record", "entry_record", "fold_record", "SegmentState", "_law_draw", "_law_put", "_law_num", "_law_members", "_law_read", "_law_let", "_law_says"] : List String).map Str.ofString
noncomputable def treeOf? : List Obj → Nat → BT → Option (BT × Nat)
  | [], n, t => some (t, n)
  | o :: r, n, t => match ((t.ins n o).get n).isSome with
    | true => treeOf? r (n + 1) (t.ins n o)
    | false => none
theorem treeOf_abs {life : Life} : ∀ {l : List Obj} {n : Nat} {t : BT} {t' : BT} {n' : Nat}, treeOf? l n t = some (t', n') → absHeap t' n' life = ⟨(absHeap t n life).objs ++ l.toArray, life⟩
  | [], n, t, t', n', h => by
    cases h
    show absHeap t n life = ⟨(absHeap t n life).objs ++ #[], life⟩
    rw [Array.append_empty]
    rfl
  | o :: r, n, t, t', n', h => by
    unfold treeOf? at h
    cases e : ((t.ins n o).get n).isSome with
    | false => rw [e] at h; cases h
    | true =>
      rw [e] at h
      rw [treeOf_abs (life := life) h, absHeap_ins e]
      show Heap.mk ((absHeap t n life).objs.push o ++ r.toArray) life = _
      exact congrArg (Heap.mk · life) (Array.toList_inj.mp (by simp))
/-- the run of the top, over a tree of objects -/
noncomputable def topRunT (tb : String → Option Builtin) (p : Program) (w : World) (n₀ : Nat) (ann : Option Value) (N : Nat) : SharedT → Thread → Option SharedT :=
  Nat.rec (fun _ _ => none) (fun _ ih s t => match through t with
    | true => some s
    | false => match stepOk n₀ ann t with
      | false => none
      | true => match stepT (denote tb) p w s t with
        | some (s', t') => ih s' t'
        | none => none) N
theorem topRunT_of {tb : String → Option Builtin} {p : Program} {w : World} {n₀ : Nat} {ann : Option Value} : ∀ {n : Nat} {s s' : SharedT} {t : Thread}, topRunT tb p w n₀ ann n s t = some s' → topRun tb p w n₀ ann n s.abs t = some s'.abs
  | 0, _, _, _, h => by cases h
  | n + 1, s, s', t, h => by
    change (match through t with
      | true => some s
      | false => match stepOk n₀ ann t with
        | false => none
        | true => match stepT (denote tb) p w s t with
          | some (s', t') => topRunT tb p w n₀ ann n s' t'
          | none => none) = some s' at h
    unfold topRun
    cases ht : through t with
    | true => rw [ht] at h; cases h; rfl
    | false =>
      rw [ht] at h
      cases hk : stepOk n₀ ann t with
      | false => rw [hk] at h; cases h
      | true =>
        rw [hk] at h
        cases hs : stepT (denote tb) p w s t with
        | none => rw [hs] at h; cases h
        | some r => obtain ⟨s₂, t₂⟩ := r; rw [hs] at h; rw [stepT_spec hs]; exact topRunT_of h
/-- the same, by the library's quick constants -/
noncomputable def topRunQ (p : Program) (w : World) (n₀ : Nat) (ann : Option Value) (N : Nat) : SharedT → Thread → Option SharedT :=
  Nat.rec (fun _ _ => none) (fun _ ih s t => match through t with
    | true => some s
    | false => match PySem.W.Fast.tw6613529449190102663 n₀ ann t with
      | false => none
      | true => match PySem.W.Fast.tw10156331382660048174 (PySem.W.Fast.tw11892475500146522536 PySem.W.Fast.tw14364793385576792824) p w s t with
        | some (s', t') => ih s' t'
        | none => none) N
theorem topRunQ_eq (p : Program) (w : World) (n₀ : Nat) (ann : Option Value) (N : Nat) : topRunQ p w n₀ ann N = topRunT treeTable p w n₀ ann N := by
  unfold topRunQ topRunT
  rw [PySem.W.Fast.te6613529449190102663, PySem.W.Fast.te10156331382660048174, PySem.W.Fast.te11892475500146522536, PySem.W.Fast.te14364793385576792824]
noncomputable def topQ (p : Program) (w : World) (N : Nat) (s : Shared) : Option SharedT :=
  match s.heap.isNs mainGlobals && s.gens.size == 0 with
  | true => (match treeOf? s.heap.objs.toList 0 .nil with
    | some (t, n) => topRunQ p w s.heap.objs.size (s.heap.nsMap mainGlobals "__annotations__") N ⟨t, n, s.heap.life, s.gens, s.drawn, s.toks, s.os⟩ (topStub p)
    | none => none)
  | false => none
noncomputable def openQ (p : Program) (w : World) (N : Nat) : Option Shared :=
  (PySem.W.Fast.tw10274390034422433532 PySem.W.Fast.tw14364793385576792824 (opening p) w N (PySem.W.Fast.tw1435165496053646825 (opening p)).1 (PySem.W.Fast.tw1435165496053646825 (opening p)).2).bind (PySem.W.Fast.tw14289696077712309145 p)
theorem openQ_eq (p : Program) (w : World) (N : Nat) : openQ p w N = fencedOpening treeTable p w N := by
  unfold openQ fencedOpening
  rw [PySem.W.Fast.te10274390034422433532, PySem.W.Fast.te14364793385576792824, PySem.W.Fast.te1435165496053646825, PySem.W.Fast.te14289696077712309145]
theorem left_of {p q : Program} {loose : List Str} {Xt : Shared → Bool} {α : Type} {Yf : Shared → α} {Ya : World → α} {N : Nat}
    (h : ∀ w : World, (openQ p w N).map (fun s => (topQ p w N s).map fun t => ((staticsOk (importedModules p.main.body) s.heap t.abs.heap && namesBound p t.abs.heap && gensDone t.abs && laidKept s.heap t.abs.heap),
      PySem.W.Fast.tw4187177175401517315 q loose (importedModules p.main.body) Xt true t.abs, Yf t.abs)) = some (some (true, openGood q loose, Ya w))) : LeftO p q loose Xt Yf Ya N := fun w => by
  have h := h w
  rw [openQ_eq] at h
  obtain ⟨s, e1, h⟩ := Option.map_eq_some_iff.mp h
  obtain ⟨t, e2, h⟩ := Option.map_eq_some_iff.mp h
  obtain ⟨l1, h⟩ := Prod.mk.inj h
  rw [← PySem.W.Fast.te4187177175401517315] at h
  unfold topQ at e2
  cases hz : (s.heap.isNs mainGlobals && s.gens.size == 0) with
  | false => rw [hz] at e2; cases e2
  | true =>
    rw [hz] at e2
    dsimp only at e2
    cases ht : treeOf? s.heap.objs.toList 0 .nil with
    | none => rw [ht] at e2; cases e2
    | some r =>
      obtain ⟨T, n⟩ := r
      rw [ht] at e2
      dsimp only at e2
      rw [topRunQ_eq] at e2
      have r := topRunT_of e2
      have ea : (⟨T, n, s.heap.life, s.gens, s.drawn, s.toks, s.os⟩ : SharedT).abs = s := by
        show Shared.mk (absHeap T n s.heap.life) _ _ _ _ = s
        rw [treeOf_abs ht]
        obtain ⟨⟨objs, life⟩, gens, drawn, toks, os⟩ := s
        show Shared.mk ⟨#[] ++ objs.toList.toArray, life⟩ _ _ _ _ = _
        rw [Array.toArray_toList, Array.empty_append]
      rw [ea] at r
      have t : topFrom treeTable p w N s = some t.abs := by
        unfold topFrom
        rw [hz]
        show (topRun treeTable p w s.heap.objs.size (s.heap.nsMap mainGlobals "__annotations__") N s (topStub p)).bind _ = _
        rw [r]
        show (match staticsOk (importedModules p.main.body) s.heap t.abs.heap && namesBound p t.abs.heap && gensDone t.abs && laidKept s.heap t.abs.heap with | true => _ | false => _) = _
        rw [l1]
      unfold openEnds
      rw [e1]
      show (topFrom treeTable p w N s).map _ = _
      rw [t]
      exact congrArg some h
end Lw

end
section
open PySem PySem.W PyProof.Rows
set_option maxRecDepth 100000
set_option maxHeartbeats 0
namespace Lw
noncomputable abbrev hk : Hook := kHook KK asK asK_eq
theorem left_all : LeftO PP vw lo (fun s => xlAt vw [] s && recOk (RowW.records PySem.Challenge.rw_no0414_01.row.toRowW) s) hk.obs hk.val 9096 :=
  left_of fun w => by kernel_rfl
theorem said1 : namesResolve PP = true := by rw [Fast.te8377067652309620493]; kernel_rfl
theorem said2 : (["vars", "dir", "locals"] : List Str).filter (readsOut PP PP.main.body) = [] := by rw [Fast.te13343964577679436407]; kernel_rfl
theorem said3 : noRoadLSs { strict := !(importedModules PP.main.body).all cThrough.contains, foot := none, bare := (["vars", "dir", "locals"] : List Str).filter (readsOut PP PP.main.body) } PP.main.body = true := by
  rw [said2, Fast.te8326940854005059898]; kernel_rfl
theorem said4 : namesMeet PP PP.main.body (fun _ n => attrL n) = true := by rw [Fast.te17119622794617984870, Fast.te17868728402115742887]; kernel_rfl
theorem said5 : looksOpen PP = true := by
  unfold looksOpen
  exact look_both (look_both (look_both (look_both (look_both (by kernel_rfl) (by kernel_rfl)) said1) (by kernel_rfl)) said3) said4
theorem said6 : PySem.Challenge.rw_no0414_01.row.wellSaid = true := by
  unfold OpenRow.wellSaid OpenRow.partSaid
  repeat' with_reducible apply look_both
  · exact said5
  all_goals kernel_rfl
theorem law_said : PySem.Challenge.rw_no0414_01.wellSaid = true := by
  unfold OpenLaw.wellSaid
  repeat' with_reducible apply look_both
  · exact said6
  all_goals kernel_rfl
noncomputable def recOf {st : Stmt} {n bd : Str} {a : Arguments} {b : List Stmt} {ds : List Expr} {r : Option Expr} {tp : List TypeParam} {s : Scope} {ts : Option Scope} {p : Pos} (_ : st = .FunctionDef n a b ds r tp s ts bd p) : DefRec := ⟨n, a, b, s, p⟩
noncomputable def lawD : DefRec := recOf (st := nS PB 51) rfl
theorem head (call : WalkD vw lo (XL vw []) hk.says PySem.Challenge.rw_no0414_01.row.toRowW lawD []) : PySem.Challenge.rw_no0414_01.Holds :=
  holds_law law_said fun said => PySem.W.holds_open (q := vw) (loose := lo) (Xt := fun s => xlAt vw [] s && recOk (RowW.records PySem.Challenge.rw_no0414_01.row.toRowW) s) (XP := XL vw []) (Yf := hk.obs) (Ya := hk.val) (YP := hk.says) (N := 9096) left_all hk.of hk.keeps
    (fun s e => xl_of s (Bool.and_eq_true_iff.mp e).1) XL.keeps (by kernel_rfl) (by kernel_rfl) (by kernel_rfl) (fun s e => recFacts_of (Bool.and_eq_true_iff.mp e).2) rfl said (by kernel_rfl) ⟨rfl, rfl, rfl, rfl, rfl, by decide +kernel⟩ (by w_witness2) call
end Lw

end
section
open PySem PySem.W PyProof.Rows PySem.Calls PySem.Spec
set_option maxRecDepth 100000
set_option autoImplicit false
set_option linter.unusedVariables false
namespace Lw
namespace F
theorem mro : mroOf (.type "bytearray") = pure [.type "bytearray", .type "object"] := by rw [mroOf_type]; kernel_rfl

theorem lookup_new : typeLookup (.type "bytearray") "__new__" = pure (some (.builtin "bytearray.__new__")) := by rw [typeLookup_type, builtinLookup_eq_fast]; kernel_rfl
theorem slot_init : Slot "bytearray" "__init__" "bytearray.__init__" :=
  .of (owner := "bytearray") (n := "__init__") (by rw [typeLookup_type, builtinLookup_eq_fast]; kernel_rfl) (by decide +kernel) (by decide +kernel) (by decide +kernel)
    (by first | exact .inl (by decide +kernel) | exact .inr (by decide +kernel)) (by rw [isSubtype_type]; kernel_rfl)
theorem called : TypeCalled "bytearray" "bytearray.__new__" "bytearray.__init__" :=
  ⟨by decide +kernel, by decide +kernel, ⟨_, _, mro⟩, madeBy_type mro lookup_new (by decide +kernel), by decide +kernel, by rw [isSubtype_type]; kernel_rfl, slot_init⟩
theorem slot_append : Slot "bytearray" "append" "bytearray.append" :=
  .of (owner := "bytearray") (n := "append") (by rw [typeLookup_type, builtinLookup_eq_fast]; kernel_rfl) (by decide +kernel) (by decide +kernel) (by decide +kernel)
    (by first | exact .inl (by decide +kernel) | exact .inr (by decide +kernel)) (by rw [isSubtype_type]; kernel_rfl)
theorem slot_extend : Slot "bytearray" "extend" "bytearray.extend" :=
  .of (owner := "bytearray") (n := "extend") (by rw [typeLookup_type, builtinLookup_eq_fast]; kernel_rfl) (by decide +kernel) (by decide +kernel) (by decide +kernel)
    (by first | exact .inl (by decide +kernel) | exact .inr (by decide +kernel)) (by rw [isSubtype_type]; kernel_rfl)
theorem getattribute : typeLookup (.type "bytearray") "__getattribute__" = pure (some (.builtin "bytearray.__getattribute__")) := by rw [typeLookup_type, builtinLookup_eq_fast]; kernel_rfl
theorem canon_getattribute : (Manifest.canonical "bytearray.__getattribute__" != "object.__getattribute__") = false := by decide +kernel
theorem getattr_none : typeLookup (.type "bytearray") "__getattr__" = pure none := by rw [typeLookup_type, builtinLookup_eq_fast]; kernel_rfl
theorem type_append : typeOf (.builtin "bytearray.append") = pure (.type "method_descriptor") := by show builtinType _ = _; rw [builtinType_eq_fast]; kernel_rfl
theorem type_extend : typeOf (.builtin "bytearray.extend") = pure (.type "method_descriptor") := by show builtinType _ = _; rw [builtinType_eq_fast]; kernel_rfl
theorem entry_new : entryFor table "bytearray.__new__" = some Builtin.«list.__new__» := entryFor_alias (id' := "list.__new__") (by kernel_rfl) (by decide +kernel) (by decide +kernel) (by kernel_rfl)
theorem plain_new : plainId "bytearray.__new__" = true := by decide +kernel
theorem plain_init : plainId "bytearray.__init__" = true := by decide +kernel

theorem entry_init : entryFor table "bytearray.__init__" = some Builtin.«bytearray.__init__» := by first | exact entryFor_of_fast (by kernel_rfl) | exact entryFor_of_tree (by kernel_rfl)
theorem entry_append : entryFor table "bytearray.append" = some Builtin.«bytearray.append» := by first | exact entryFor_of_fast (by kernel_rfl) | exact entryFor_of_tree (by kernel_rfl)
theorem entry_extend : entryFor table "bytearray.extend" = some Builtin.«bytearray.extend» := by first | exact entryFor_of_fast (by kernel_rfl) | exact entryFor_of_tree (by kernel_rfl)
theorem typeCall0 : checkTypeCall "bytearray" ⟨[], []⟩ = pure () := by kernel_rfl
theorem newCall0 : checkBuiltinCall "bytearray.__new__" ⟨[.type "bytearray"], []⟩ = pure () := by kernel_rfl
theorem bind0 : Builtin.Bytes.bindOptional "bytearray.__init__" "bytearray" ["source", "encoding", "errors"] [] [] = pure [none, none, none] := by kernel_rfl
theorem args_append (a b : Value) : argsOk "bytearray.append" ⟨[a, b], []⟩ := by
  unfold argsOk; kernel_rfl
theorem args_init (a : Value) : argsOk "bytearray.__init__" ⟨[a], []⟩ := by
  unfold argsOk; kernel_rfl
theorem buffer : typeLookup (.type "bytearray") "__buffer__" = pure (some (.builtin "bytearray.__buffer__")) := by rw [typeLookup_type, builtinLookup_eq_fast]; kernel_rfl
theorem release : typeLookup (.type "bytearray") "__release_buffer__" = pure (some (.builtin "bytearray.__release_buffer__")) := by rw [typeLookup_type, builtinLookup_eq_fast]; kernel_rfl
theorem no_bytes : typeLookup (.type "bytearray") "__bytes__" = pure none := by rw [typeLookup_type, builtinLookup_eq_fast]; kernel_rfl
theorem noIdx : typeLookup (.type "bytearray") "__index__" = pure none := by rw [typeLookup_type, builtinLookup_eq_fast]; kernel_rfl
theorem sub : isSubtype (.type "bytearray") (.type "bytearray") = pure true := by rw [isSubtype_type]; kernel_rfl
end F
set_option maxRecDepth 1000000 in
set_option maxHeartbeats 4000000 in
theorem owner_new : ("bytearray.__new__".splitOn ".__new__").headD "" = "bytearray" := by rw [PySem.W.splitQ_eq]; kernel_rfl

/-- no guard, no decoder: the look at the stack finds nothing -/
noncomputable def expF (self : Value) : Code × Pos → Bool := fun
    | (.builtin "bytearray.__contains__" ⟨v :: _, _⟩, _) | (.builtin "bytearray.__mod__" ⟨v :: _, _⟩, _)
    | (.builtin "bytearray.__rmod__" ⟨_ :: v :: _, _⟩, _) | (.builtin "_struct.pack_into.held" ⟨v :: _, _⟩, _) => Builtin.Bytes.sameRef v self
    | (.builtin "bytearray.find.held" ⟨_ :: _ :: held, _⟩, _) => held.any (Builtin.Bytes.sameRef self)
    | (.builtin id ⟨v :: _, _⟩, _) => Builtin.Bytes.sameRef v self && Builtin.Bytes.decodersThatHold.contains id
    | _ => false
theorem expF_no {self : Value} {c : Code} {p : Pos} (hg : c.isGuard = false) (hd : isDec c = false) : expF self (c, p) = false := by
  cases c with
  | builtin id args =>
    have n : ∀ g, guardIds.contains g = true → ¬ id = g := fun g h e => Bool.false_ne_true (hg.symm.trans (e ▸ h))
    obtain ⟨pos, kw⟩ := args
    unfold expF expF.match_1
    with_unfolding_all refine (dif_neg (n "bytearray.__contains__" (by decide +kernel))).trans ?_
    refine (dif_neg (n "bytearray.__mod__" (by decide +kernel))).trans ?_
    refine (dif_neg (n "bytearray.__rmod__" (by decide +kernel))).trans ?_
    refine (dif_neg (n "_struct.pack_into.held" (by decide +kernel))).trans ?_
    refine (dif_neg (n "bytearray.find.held" (by decide +kernel))).trans ?_
    cases pos with
    | nil => rfl
    | cons v t =>
      show (Builtin.Bytes.sameRef v self && Builtin.Bytes.decodersThatHold.contains id) = false
      rw [show Builtin.Bytes.decodersThatHold.contains id = false from hd, Bool.and_false]
  | _ => rfl
theorem exportedN {M : Model} {A : Around} {E : Value → Shared → Prop} {s : Shared} {self : Value} {Q : Bool → Shared → Prop} (hg : A.guards = some []) (h : Q false s) : wpN true M A (Builtin.Bytes.exported self) Q E s := fun Γ p hΓ hn => by
  have e : Builtin.Bytes.exported self = (do return (← stack).any (expF self)) := rfl
  rw [e]
  show Q (((Γ.code, p) :: Γ.below).any (expF self)) s
  have hgs := hΓ.2.2.2.1 [] hg
  have hno := hn rfl
  have all : ∀ l : List (Code × Pos), guardsOf l = [] → (∀ x ∈ l, isDec x.1 = false) → l.any (expF self) = false := by
    intro l
    induction l with
    | nil => intro _ _; rfl
    | cons x r ih =>
      intro h1 h2
      obtain ⟨c, q⟩ := x
      rw [guardsOf_cons] at h1
      obtain ⟨h3, h4⟩ := List.append_eq_nil_iff.mp h1
      have hcg : c.isGuard = false := by
        cases hc : c.isGuard with
        | false => rfl
        | true => simp [Code.guards, hc] at h3
      rw [List.any_cons, expF_no hcg (h2 _ (.head _)), ih h4 fun y hy => h2 y (.tail _ hy)]; rfl
  rw [all _ (by rw [guardsOf_cons]; exact hgs) (fun x hx => by
    rcases List.mem_cons.mp hx with rfl | hx
    · exact hno.1
    · exact hno.2 x hx)]
  exact h
end Lw

end
section
open PySem PySem.W PyProof.Rows PySem.Calls PySem.Spec
set_option maxRecDepth 100000
set_option autoImplicit false
set_option linter.unusedVariables false
namespace Lw
section
variable {prog : Program} {w : World} {A : Around} {E : Value → Shared → Prop} {s : Shared} {R : Result → Shared → Prop}

theorem code_new0 {Q₁ : Value → Shared → Prop} (h : Q₁ (.ref s.heap.objs.size) { s with heap := s.heap.push (barrObj []) }) :
    codeAny (model prog w) A (.call (.builtin "bytearray.__new__") ⟨[.type "bytearray"], []⟩) (wants Q₁ E) s := by
  refine codeAny_of_tree ?_
  show wpAny _ A.in1 (do checkBuiltinCall "bytearray.__new__" ⟨[.type "bytearray"], []⟩; again (.builtin "bytearray.__new__" ⟨[.type "bytearray"], []⟩)) _ _ s
  refine wpAny_bind (wpAny_of_eq F.newCall0 (wpAny_pure ⟨plainId_quiet F.plain_new _, codeAny_builtin_stack F.entry_new rfl fun p st => ?_⟩))
  rw [Around.under_plainId F.plain_new _]
  have hsub := F.sub
  have hown := owner_new
  obtain ⟨hp, g, d, tk, os⟩ := s
  simp only [hown]
  wp_walk
  exact h


theorem own_release_any {M : Model} {a : Addr} {Q : Bool → Shared → Prop} (hT : s.TypeIs (.ref a) "bytearray") (h : Q false s) : wpAny M A (Builtin.Bytes.ownRelease (.ref a)) Q E s := by
  unfold Builtin.Bytes.ownRelease Builtin.Bytes.slotIsOwn
  refine wpAny_bind (wpAny_bind (wpAny_specialOf hT F.release ?_))
  dsimp only
  rw [if_neg (by decide +kernel)]
  rw [show (("bytearray.__release_buffer__".dropRight (("__release_buffer__" : String).length + 1)) : String) = "bytearray" by decide +kernel]
  refine wpAny_isInstance hT F.sub ?_
  exact wpAny_pure h
theorem exportsOf_any {M : Model} {a : Addr} {b : List UInt8} {Q : Nat → Shared → Prop} (ho : s.heap.get? a = some (barrObj b)) (h : Q 0 s) : wpAny M A (Builtin.Bytes.exportsOf (.ref a)) Q E s := by
  unfold Builtin.Bytes.exportsOf
  exact wpAny_bind (wpAny_load ho (wpAny_pure h))
theorem write_any {M : Model} {a : Addr} {b : List UInt8} {f : Array UInt8 → Array UInt8} {c : List UInt8} {Q : Unit → Shared → Prop} (ho : s.heap.get? a = some (barrObj b)) (hf : f b.toArray = c.toArray) (hz : c.length ≤ 16000000)
    (h : ∀ h', Heap.SameBut a s.heap h' → h'.get? a = some (barrObj c) → Q () { s with heap := h' }) : wpAny M A (Builtin.Bytes.write (.ref a) f) Q E s := by
  unfold Builtin.Bytes.write
  have e : Obj.mapBytearray f (barrObj b) = barrObj c := by
    unfold barrObj Obj.mapBytearray
    simp [hf]
  have hg : (s.heap.update a (Obj.mapBytearray f)).get? a = some (barrObj c) := by rw [Heap.get?_update_self _ ho (by rw [e]; rfl), e]
  show wpAny M A (updateBytearray a f) Q E s
  unfold updateBytearray
  refine wpAny_bind (wpAny_load ho ?_)
  show wpAny M A (do update a (Obj.mapBytearray f); lookBehind a) Q E s
  refine wpAny_bind (wpAny_update ho (wpAny_lookBehind hg ?_ (h _ (Heap.SameBut.update ..) hg)))
  show Data.pastItsLine (.bytearray c.toArray 0) = none
  have : ¬ c.toArray.size > sizeLine := by rw [List.size_toArray, sizeLine_eq]; lia
  exact if_neg this
/-- bytearray() -/
theorem nIfFalse {α : Type} {nd : Bool} {M : Model} {c : Bool} {a b : Sem α} {Q : α → Shared → Prop} (hc : c = false) (h : wpN nd M A b Q E s) : wpN nd M A (if c = true then a else b) Q E s := by subst hc; exact h
theorem nIfTrue {α : Type} {nd : Bool} {M : Model} {c : Bool} {a b : Sem α} {Q : α → Shared → Prop} (hc : c = true) (h : wpN nd M A a Q E s) : wpN nd M A (if c = true then a else b) Q E s := by subst hc; exact h
/-- the look whether it is exported -/
theorem lookExp {M : Model} {a : Addr} {b : List UInt8} {Q : Bool → Shared → Prop} (hg : A.guards = some []) (ho : s.heap.get? a = some (barrObj b)) (h : Q false s) :
    wpN true M A (Builtin.Bytes.exported (.ref a) <||> do return (← Builtin.Bytes.exportsOf (.ref a)) > 0) Q E s := by
  unfold orM
  refine nBind (exportedN hg ?_)
  show wpN true M A (Builtin.Bytes.exportsOf (.ref a) >>= fun n => pure (decide (n > 0))) Q E s
  exact nBind (.any (exportsOf_any ho (nPure h)))
theorem nEq {α : Type} {nd : Bool} {M : Model} {A : Around} {m m' : Sem α} {Q : α → Shared → Prop} {E : Value → Shared → Prop} {s : Shared} (e : m = m') (h : wpN nd M A m' Q E s) : wpN nd M A m Q E s := e ▸ h
theorem init0 {Q : Value → Shared → Prop} {a : Addr} (hg : A.guards = some []) (ho : s.heap.get? a = some (barrObj []))
    (h : ∀ h', Heap.SameBut a s.heap h' → h'.get? a = some (barrObj []) → Q .none { s with heap := h' }) :
    wpN true (model prog w) A (Builtin.«bytearray.__init__» ⟨[.ref a], []⟩) (fun fin s' => ∃ v, fin = .done (.ret v) ∧ Q v s') E s := by
  have hT : s.TypeIs (.ref a) "bytearray" := ⟨_, ho, rfl⟩
  refine nBind (.any (own_release_any hT ?_))
  refine nIfFalse rfl ?_
  refine nBind (nEq F.bind0 (nPure ?_))
  refine nBind (.any (wpAny_of_eq (a := ()) rfl ?_))
  refine nBind (.any (wpAny_of_eq (a := ()) rfl ?_))
  refine nBind (lookExp hg ho ?_)
  refine nIfFalse rfl ?_
  refine nBind (.any (write_any (c := []) ho rfl (by decide) fun h' hs hb => ?_))
  exact nBind (nIfFalse rfl (nIfFalse rfl (nPure (nPure ⟨_, rfl, h _ hs hb⟩))))
theorem isDec_no {id : String} {args : Args} (h : Builtin.Bytes.decodersThatHold.contains id = false) : isDec (.builtin id args) = false := by
  unfold isDec
  exact h
/-- a built-in's call -/
theorem codeN_builtin {nd : Bool} {id : String} {args : Args} {b : Builtin} {R : Result → Shared → Prop} (hd : isDec (.builtin id args) = false) (hb : entryFor table id = some b)
    (h : wpN nd (model prog w) (A.under (.builtin id args)) (b args) (fun fin s' => match fin with | .done f => R (.ok f) s' | .again c' => c'.quiet = true ∧ codeN nd (model prog w) A c' R s') (fun e s' => R (.error e) s') s) : codeN nd (model prog w) A (.builtin id args) R s := by
  refine codeN_tree hd ?_
  show wpN nd _ _ (match entryFor table id with | some b => b args | none => unsupported ((withoutEnding? id "#data").getD id)) _ _ s
  rw [hb]
  exact h
theorem nCallEntry {nd : Bool} {T : String} {name : Str} {id : String} {b : Builtin} {self : Value} {rest : List Value} {Q : Value → Shared → Prop} (h : Slot T name id) (hd : isDec (.builtin id ⟨self :: rest, []⟩) = false) (hT : s.TypeIs self T) (hb : entryFor table id = some b)
    (hc : wpN nd (model prog w) A.in1 (b ⟨self :: rest, []⟩) (fun fin s' => ∃ v, fin = .done (.ret v) ∧ Q v s') E s) (ha : argsOk id ⟨self :: rest, []⟩) : wpN nd (model prog w) A (call (.builtin id) (self :: rest)) Q E s := by
  refine nCall (codeN_tree rfl ?_)
  show wpN nd _ A.in1 (do checkBuiltinCall id ⟨self :: rest, []⟩; again (.builtin id ⟨self :: rest, []⟩)) _ _ s
  refine nBind (.any (h.check _ _ _ _ _ _ _ _ hT ha (nPure ⟨plainId_quiet h.plain _, codeN_builtin hd hb ?_⟩)))
  rw [Around.under_plainId h.plain _]
  refine nMonoQ hc fun fin s' h' => ?_
  obtain ⟨v, rfl, hv⟩ := h'
  exact hv
theorem nSpecial {nd : Bool} {M : Model} {self : Value} {T : String} {name : Str} {id : String} {args : List Value} {kw : List (Str × Value)}
    {Q : Option Value → Shared → Prop} (hT : s.TypeIs self T) (h : Slot T name id)
    (hc : wpN nd M A (call (.builtin id) (self :: args) kw) (fun v => Q (some v)) E s) : wpN nd M A (callSpecial? self name args kw) Q E s := by
  simp only [callSpecial?]
  refine nBind (.any (wpAny_specialOf hT h.lookup ?_))
  simp only [h.bind]
  exact nHold (nBind (nPure (nBind (nMono hc (fun v s' h' => nPure h') fun _ _ h' => h'))))
/-- bytearray() -/
theorem call_barr0 {Q : Value → Shared → Prop} (hg : A.guards = some [])
    (h : ∀ h', (∀ b o, s.heap.get? b = some o → h'.get? b = some o) → h'.get? s.heap.objs.size = some (barrObj []) → Q (.ref s.heap.objs.size) { s with heap := h' }) :
    wpN true (model prog w) A (call (.type "bytearray") []) Q E s := by
  refine nCall (codeN_tree rfl ?_)
  show wpN true _ _ (callAny (.type "bytearray") ⟨[], []⟩) _ _ _
  refine nPure ⟨Code.quiet_builtin _ (by decide +kernel), codeN_builtin (by decide +kernel) PySem.F.entry_type_call ?_⟩
  rw [Around.under_plain (weight_type_call_type "bytearray" [] []) rfl]
  unfold Builtin.«type.__call__»
  have hm := F.mro
  have hmade := F.called.made
  have h2 := F.called.canCreate
  simp only [F.typeCall0, h2, hm, hmade]
  refine nIfFalse (by decide) ?_
  refine nIfFalse rfl ?_
  refine nBind (nPure (nBind (nPure ?_)))
  refine nIfFalse rfl ?_
  refine nBind (nPure ?_)
  dsimp only
  refine nBind (nPure (nBind (nHold (nCall (.any (code_new0 ?_))))))
  have hT : ({ s with heap := s.heap.push (barrObj []) } : Shared).TypeIs (.ref s.heap.objs.size) "bytearray" := ⟨_, Heap.get?_push_size _ rfl, rfl⟩
  refine nBind (.any (wpAny_isInstance hT F.sub ?_))
  refine nIfFalse rfl ?_
  have hg1 : A.in1.guards = some [] := hg
  refine nBind (nHold (nSpecial hT F.slot_init (nCallEntry F.slot_init (isDec_no (by decide +kernel)) hT F.entry_init ?_ (F.args_init _))))
  refine init0 (s := { s with heap := s.heap.push (barrObj []) }) hg (Heap.get?_push_size _ rfl) fun h' hs hb => ?_
  refine nIfFalse rfl (nPure ?_)
  exact h h' (fun b o hbo => (hs.2 b (by intro e; subst e; exact absurd (Heap.lt_size hbo) (Nat.lt_irrefl _))).trans (Heap.get?_push_of_some _ hbo)) hb
end
end Lw

end
section
open PySem PySem.W PyProof.Rows PySem.Calls PySem.Spec
set_option maxRecDepth 100000
set_option autoImplicit false
set_option linter.unusedVariables false
namespace Lw
namespace F
theorem args_extend (a b : Value) : argsOk "bytearray.extend" ⟨[a, b], []⟩ := by
  unfold argsOk; kernel_rfl
theorem bytes_bytes : typeLookup (.type "bytes") "__bytes__" = pure (some (.builtin "bytes.__bytes__")) := by rw [typeLookup_type, builtinLookup_eq_fast]; kernel_rfl
end F
section
variable {prog : Program} {w : World} {A : Around} {E : Value → Shared → Prop} {s : Shared} {R : Result → Shared → Prop}

theorem getMethod_barr {M : Model} {l : Addr} {b : List UInt8} {pl : Sem Bool} {name : String} {id : String} {Q : Value × List Value → Shared → Prop} (ho : s.heap.get? l = some (barrObj b)) (hs : Slot "bytearray" (Str.ofString name) id)
    (ht : typeOf (.builtin id) = pure (.type "method_descriptor")) 
    (h : Q (.builtin id, [.ref l]) s) : wpAny M A (getMethod (.ref l) (Str.ofString name) pl) Q E s := by
  have hT : s.TypeIs (.ref l) "bytearray" := ⟨_, ho, rfl⟩
  unfold getMethod
  refine wpAny_bind (wpAny_specialOf hT F.getattribute ?_)
  show wpAny M A (if (Manifest.canonical "bytearray.__getattribute__" != "object.__getattribute__") = true then _ else _) Q E s
  rw [F.canon_getattribute, if_neg Bool.false_ne_true]
  refine wpAny_bind (wpAny_specialOf hT F.getattr_none ?_)
  refine wpAny_bind (wpAny_specialOf hT hs.lookup ?_)
  refine wpAny_bind (wpAny_of_eq ht ?_)
  refine wpAny_bind (wpAny_load ho ?_)
  exact wpAny_bind (wpAny_rule (wpAny_pure h))

/-- a.append(n) -/
theorem call_barr_append {a : Addr} {b : List UInt8} {n : Int} {t : Tok} {Q : Value → Shared → Prop} (hg : A.guards = some []) (ho : s.heap.get? a = some (barrObj b)) (h0 : 0 ≤ n) (h1 : n < 256) (hz : b.length < 16000000)
    (h : ∀ h', Heap.SameBut a s.heap h' → h'.get? a = some (barrObj (b ++ [n.toNat.toUInt8])) → Q .none { s with heap := h' }) :
    wpN true (model prog w) A (call (.builtin "bytearray.append") [.ref a, .int n t]) Q E s := by
  refine nCallEntry F.slot_append (isDec_no (by decide +kernel)) ⟨_, ho, rfl⟩ F.entry_append ?_ (F.args_append _ _)
  have hg1 : A.in1.guards = some [] := hg
  unfold Builtin.«bytearray.append»
  refine nBind (nPure ?_)
  show wpN true _ _ (Builtin.Bytes.byteValue (.int n t) >>= fun c => _) _ _ _
  unfold Builtin.Bytes.byteValue
  refine nBind (nBind (.any (wpAny_of_eq (rfl : asIndex (.int n t) = pure n) ?_)))
  refine nIfFalse (by simp only [Bool.or_eq_false_iff, decide_eq_false_iff_not]; lia) (nPure ?_)
  unfold Builtin.Bytes.checkResize
  refine nBind (nBind (lookExp hg1 ho ?_))
  refine nIfFalse rfl (nPure ?_)
  refine nBind (.any (write_any (c := b ++ [n.toNat.toUInt8]) ho (by simp) (by simp; lia) fun h' hs hb => ?_))
  exact nPure ⟨_, rfl, h h' hs hb⟩

theorem takeQuiet_bytes {M : Model} {x : Array UInt8} {t : Tok} {Q : Option (Array UInt8 × Option Value) → Shared → Prop} (h : Q (some (x, none)) s) : wpAny M A (Builtin.Bytes.takeBufferQuiet? "bytearray.extend" (.bytes x t) 0) Q E s := by
  have e : Builtin.Bytes.takeBufferQuiet? "bytearray.extend" (.bytes x t) 0 = pure (some (x, none)) := by
    unfold Builtin.Bytes.takeBufferQuiet? Builtin.Bytes.takeBuffer?
    have e2 : ((0 : Int) == Builtin.Bytes.fullReadOnly) = false := by decide +kernel
    rw [KBy.special_eq KBy.look_buffer, KBy.own_buffer, e2, KBy.buffer_eq]
    kernel_rfl
  exact wpAny_of_eq e h
/-- a.extend(b) -/
theorem call_barr_extend {a : Addr} {b c : List UInt8} {t : Tok} {Q : Value → Shared → Prop} (hg : A.guards = some []) (ho : s.heap.get? a = some (barrObj b)) (hz : b.length + c.length ≤ 16000000)
    (h : ∀ h', Heap.SameBut a s.heap h' → h'.get? a = some (barrObj (b ++ c)) → Q .none { s with heap := h' }) :
    wpN true (model prog w) A (call (.builtin "bytearray.extend") [.ref a, .bytes c.toArray t]) Q E s := by
  refine nCallEntry F.slot_extend (isDec_no (by decide +kernel)) ⟨_, ho, rfl⟩ F.entry_extend ?_ (F.args_extend _ _)
  have hg1 : A.in1.guards = some [] := hg
  unfold Builtin.«bytearray.extend»
  refine nBind (nPure ?_)
  refine nBind (.any (wpAny_of_eq (KBy.special_eq KBy.look_buffer) ?_))
  refine nIfTrue rfl ?_
  refine nBind (.any (wpAny_rule ?_))
  refine nBind (.any ?_)
  unfold Builtin.Bytes.payload Builtin.Bytes.payload?
  refine wpAny_bind (wpAny_bind (wpAny_load ho ?_))
  refine wpAny_pure (wpAny_pure ?_)
  refine nBind (.any (takeQuiet_bytes ?_))
  refine nIfTrue rfl ?_
  show wpN true _ _ (do
    if !(c.toArray).isEmpty then Builtin.Bytes.checkResize (.ref a)
    Builtin.Bytes.write (.ref a) (· ++ c.toArray)
    ret .none) _ _ _
  have fin : wpN true (model prog w) A.in1 (do Builtin.Bytes.write (.ref a) (· ++ c.toArray); ret .none) (fun fin s' => ∃ v, fin = .done (.ret v) ∧ Q v s') E s := by
    refine nBind (.any (write_any (c := b ++ c) ho (by simp) (by simp; lia) fun h' hs hb => ?_))
    exact nPure ⟨_, rfl, h h' hs hb⟩
  cases hc : (!(c.toArray).isEmpty) with
  | false => exact nIfFalse rfl fin
  | true =>
    refine nIfTrue rfl ?_
    unfold Builtin.Bytes.checkResize
    refine nBind (nBind (lookExp hg1 ho ?_))
    exact nIfFalse rfl (nPure fin)
theorem new_barr {a : Addr} {b : List UInt8} {Q : Value → Shared → Prop} (ho : s.heap.get? a = some (barrObj b)) (hz : b.length ≤ 16000000) (h : ∀ t k, Q (.bytes b.toArray t) { s with toks := k }) :
    codeAny (model prog w) A (.call (.builtin "bytes.__new__") ⟨[.type "bytes", .ref a], []⟩) (wants Q E) s := by
  refine codeAny_of_tree ?_
  show wpAny _ A.in1 (do checkBuiltinCall "bytes.__new__" ⟨[.type "bytes", .ref a], []⟩; again (.builtin "bytes.__new__" ⟨[.type "bytes", .ref a], []⟩)) _ _ s
  refine wpAny_bind (wpAny_of_eq (F.bm_newCall _) (wpAny_pure ⟨plainId_quiet F.bm_plain _, codeAny_builtin F.bm_entry ?_⟩))
  rw [Around.under_plainId F.bm_plain _]
  have hT : s.TypeIs (.ref a) "bytearray" := ⟨_, ho, rfl⟩
  unfold Builtin.«bytes.__new__»
  refine wpAny_bind (wpAny_of_eq (a := true) rfl ?_)
  refine bm_if_false rfl ?_
  refine wpAny_bind (wpAny_of_eq F.bm_sub ?_)
  refine bm_if_false rfl ?_
  refine wpAny_bind (wpAny_of_eq (F.bm_bind _) ?_)
  refine wpAny_bind (wpAny_of_eq (a := ()) rfl ?_)
  refine wpAny_bind (wpAny_of_eq (a := ()) rfl ?_)
  refine bm_if_false rfl ?_
  refine wpAny_bind (wpAny_specialOf hT F.no_bytes ?_)
  refine wpAny_bind (wpAny_bind ?_)
  show wpAny _ _ (load a >>= _) _ _ _
  refine wpAny_bind (wpAny_load ho ?_)
  refine wpAny_pure (wpAny_pure ?_)
  refine bm_if_false rfl ?_
  refine wpAny_bind (wpAny_specialOf hT F.noIdx ?_)
  refine bm_if_true rfl ?_
  show wpAny _ _ (Builtin.Bytes.buffer? "bytes.__new__" (.ref a) true >>= _) _ _ _
  refine wpAny_bind ?_
  unfold Builtin.Bytes.buffer?
  refine wpAny_bind (wpAny_specialOf hT F.buffer ?_)
  dsimp only
  unfold Builtin.Bytes.slotIsOwn
  refine wpAny_bind (wpAny_bind (wpAny_specialOf hT F.buffer ?_))
  dsimp only
  rw [if_neg (by decide +kernel)]
  rw [show (("bytearray.__buffer__".dropRight (("__buffer__" : String).length + 1)) : String) = "bytearray" by decide +kernel]
  refine wpAny_isInstance hT F.sub ?_
  refine bm_if_false rfl ?_
  refine wpAny_bind (wpAny_specialOf hT F.buffer ?_)
  refine wpAny_bind (own_release_any hT ?_)
  refine bm_if_false rfl ?_
  refine wpAny_bind ?_
  unfold Builtin.Bytes.payload Builtin.Bytes.payload?
  refine wpAny_bind (wpAny_bind (wpAny_load ho ?_))
  refine wpAny_pure (wpAny_pure (wpAny_pure ?_))
  refine wpAny_bind (wpAny_rule ?_)
  refine wpAny_bind (wpAny_mkBytes ?_ (by rw [List.size_toArray, sizeLine_eq]; lia))
  show wpAny _ _ (if (Value.type "bytes" == Value.type "bytes") = true then _ else _) _ _ _
  refine bm_if_true (by decide) ?_
  first
    | exact wpAny_pure (h _ _)
    | exact wpAny_bind (wpAny_pure (wpAny_pure (h _ _)))
/-- bytes(a) of a bytearray -/
theorem call_bytes_barr {a : Addr} {b : List UInt8} {Q : Value → Shared → Prop} (ho : s.heap.get? a = some (barrObj b)) (hz : b.length ≤ 16000000) (h : ∀ t k, Q (.bytes b.toArray t) { s with toks := k }) :
    wpAny (model prog w) A (call (.type "bytes") [.ref a]) Q E s := by
  refine callType_codes (Q₁ := fun obj s₁ => s₁.TypeIs obj "bytes" ∧ Q obj s₁) F.bm_called (F.bm_typeCall _) F.entry_object_init
    (new_barr ho hz fun t k => ⟨PySem.W.typeIs_bytes _ _ _, h t k⟩) fun obj s₁ h₁ => ?_
  exact ⟨h₁.1, F.args_object_init_2 obj _, object_init_meets F.bm_called.init.lookup F.bm_called.made (by decide) prog w A.in1 _ s₁ ⟨h₁.1, rfl, h₁.2⟩⟩
theorem new_bytes {b : List UInt8} {t : Tok} {Q : Value → Shared → Prop} (h : Q (.bytes b.toArray t) s) :
    codeAny (model prog w) A (.call (.builtin "bytes.__new__") ⟨[.type "bytes", .bytes b.toArray t], []⟩) (wants Q E) s := by
  refine codeAny_of_tree ?_
  show wpAny _ A.in1 (do checkBuiltinCall "bytes.__new__" ⟨[.type "bytes", .bytes b.toArray t], []⟩; again (.builtin "bytes.__new__" ⟨[.type "bytes", .bytes b.toArray t], []⟩)) _ _ s
  refine wpAny_bind (wpAny_of_eq (F.bm_newCall _) (wpAny_pure ⟨plainId_quiet F.bm_plain _, codeAny_builtin F.bm_entry ?_⟩))
  rw [Around.under_plainId F.bm_plain _]
  unfold Builtin.«bytes.__new__»
  refine wpAny_bind (wpAny_of_eq (a := true) rfl ?_)
  refine bm_if_false rfl ?_
  refine wpAny_bind (wpAny_of_eq F.bm_sub ?_)
  refine bm_if_false rfl ?_
  refine wpAny_bind (wpAny_of_eq (F.bm_bind _) ?_)
  refine wpAny_bind (wpAny_of_eq (a := ()) rfl ?_)
  refine wpAny_bind (wpAny_of_eq (a := ()) rfl ?_)
  refine bm_if_false rfl ?_
  refine wpAny_bind (wpAny_of_eq (KBy.special_eq F.bytes_bytes) ?_)
  refine wpAny_bind (wpAny_rule ?_)
  refine wpAny_bind (wpAny_of_eq (a := .type "bytes") rfl ?_)
  refine bm_if_true (by decide) ?_
  show wpAny _ _ (if (Value.type "bytes" == Value.type "bytes") = true then _ else _) _ _ _
  refine bm_if_true (by decide) ?_
  first
    | exact wpAny_pure h
    | exact wpAny_bind (wpAny_pure (wpAny_pure h))
/-- bytes(b) of bytes -/
theorem call_bytes_bytes {b : List UInt8} {t : Tok} {Q : Value → Shared → Prop} (h : Q (.bytes b.toArray t) s) :
    wpAny (model prog w) A (call (.type "bytes") [.bytes b.toArray t]) Q E s := by
  refine callType_codes (Q₁ := fun obj s₁ => s₁.TypeIs obj "bytes" ∧ Q obj s₁) F.bm_called (F.bm_typeCall _) F.entry_object_init
    (new_bytes ⟨PySem.W.typeIs_bytes _ _ _, h⟩) fun obj s₁ h₁ => ?_
  exact ⟨h₁.1, F.args_object_init_2 obj _, object_init_meets F.bm_called.init.lookup F.bm_called.made (by decide) prog w A.in1 _ s₁ ⟨h₁.1, rfl, h₁.2⟩⟩
end
end Lw

end
section
open PySem PySem.W PyProof.Rows PySem.Calls PySem.Spec
set_option maxRecDepth 100000
set_option autoImplicit false
set_option linter.unusedVariables false
namespace Lw
section
variable {prog : Program} {w : World} {A : Around} {K : Frag} {C : Addr} {R : Result → Shared → Prop} {h : Heap} {g : Array GenState} {d : Drawn} {t : Nat} {os : OsState} {nd : Bool}
theorem nnd_load {M : Model} {α : Type} {Q : α → Shared → Prop} {E : Value → Shared → Prop} {s : Shared} {b : Addr} {part : Option Value} {o : Obj} {k : Obj → Sem α} (ho : s.heap.get? b = some o) (hk : wpN nd M A (k o) Q E s) : wpN nd M A (.load b part k) Q E s := fun Γ p hΓ hn =>
  ⟨o, ho, hk Γ p hΓ hn⟩
theorem nmake_core {rest : List Value} {kw : List (Str × Value)} {init : Value} (Y : Makes (model prog w) h C) (hi : Looks (model prog w) h (typeLookup (.ref C) "__init__") (some init))
    (hb : ∀ self, Looks (model prog w) h (bindSpecial init self) (init, [self])) (hne : (some init != some (Value.builtin "object.__init__")) = true ∨ (rest = [] ∧ kw = []))
    (hq : codeN nd (model prog w) (A.under (.builtin "type.__call__" ⟨.ref C :: rest, kw⟩)) (.call init ⟨.ref (h.objs.size + 1) :: rest, kw⟩) (InitBack (h.objs.size + 1) R) ⟨(h.push emptyDict).push (instObj C h.objs.size), g, d, t, os⟩) :
    codeN nd (model prog w) A (.call (.ref C) ⟨rest, kw⟩) R ⟨h, g, d, t, os⟩ := by
  have Y' := Y
  obtain ⟨⟨oc, od, cd, sl, hC, e1, e2, e4⟩, made, base, self, top, call, typ⟩ := Y
  refine codeN_tree rfl ?_
  show wpN _ _ _ (callAny (.ref C) _) _ _ _
  refine nnd_load hC ?_
  show wpN _ _ _ (callAny.viaDunder (.ref C) _) _ _ _
  unfold callAny.viaDunder
  refine nBind (.any (call.at ?_))
  dsimp only
  rw [tc_bind]
  refine nBind (nPure (nBind (nPure ?_)))
  refine nPure (a := Fin.again (.call (.builtin "type.__call__") ⟨.ref C :: rest, kw⟩)) (And.intro rfl ?_)
  refine codeN_tree rfl ?_
  show wpN nd _ _ (do checkBuiltinCall "type.__call__" ⟨.ref C :: rest, kw⟩; again (.builtin "type.__call__" ⟨.ref C :: rest, kw⟩)) _ _ _
  refine nBind (.any (check_slot tc_kind tc_split typ (tc_args _ _ _) ?_))
  refine nPure ⟨Code.quiet_builtin _ (by decide +kernel), codeN_builtin (isDec_no (by decide +kernel)) entry_typeCall ?_⟩
  unfold Builtin.«type.__call__»
  have hm : Looks (model prog w) h (mroOf (.ref C)) cd.mro := ((Looks.ld (part := none) hC).andThen .now).andThen .now
  refine nIfFalse (by exact beq_false_of_ne (by intro e; cases e)) ?_
  refine nBind (.any (hm.at ?_))
  refine nIfFalse e4 ?_
  refine nBind (.any (made.at ?_))
  refine nBind (nPure ?_)
  refine nBind (nHold (nCall (.any ?_)))
  refine new_K Y' hi hne ?_
  have k : ∀ b o, h.get? b = some o → ((h.push emptyDict).push (instObj C h.objs.size)).get? b = some o := fun b o e => Heap.get?_push_of_some _ (Heap.get?_push_of_some _ e)
  have hx : ((h.push emptyDict).push (instObj C h.objs.size)).get? (h.objs.size + 1) = some (instObj C h.objs.size) := by heap_get
  have t1 : Looks (model prog w) ((h.push emptyDict).push (instObj C h.objs.size)) (typeOf (.ref (h.objs.size + 1))) (.ref C) := (Looks.ld hx).andThen .now
  have s1 := self.keeps k
  have i1 := hi.keeps k
  have b1 := (hb (.ref (h.objs.size + 1))).keeps k
  refine nBind ?_
  unfold isInstance
  refine nBind (.any (t1.at (.any (s1.at ?_))))
  refine nIfFalse rfl ?_
  refine nBind (nHold ?_)
  unfold callSpecial? specialOf
  refine nBind (nBind (.any (t1.at ?_)))
  refine .any (i1.at ?_)
  dsimp only
  refine nHold (nBind (.any (b1.at ?_)))
  dsimp only
  refine nBind (nCall ?_)
  refine codeN_mono hq fun r s' z => ?_
  rcases r with e | (v | _ | _ | _) <;> first | exact z | exact z.elim | skip
  obtain ⟨rfl, z⟩ := z
  exact nPure (nIfFalse rfl (nPure z))
end
end Lw

end
section
open PySem PySem.W PyProof.Rows PySem.Calls PySem.Spec
set_option maxRecDepth 100000
set_option autoImplicit false
set_option linter.unusedVariables false
namespace Lw
section
variable {prog : Program} {w : World} {A : Around} {E : Value → Shared → Prop} {s : Shared} {K : Frag} {L : Addr} {C : Addr} {h₀ : Heap} {m : Str → Option Value} {news : List (Addr × Obj)} {Q : Value → Shared → Prop} {R : Result → Shared → Prop} {nd : Bool}
theorem nmake_K {rest : List Value} {kw : List (Str × Value)} {fI : Addr} (F : Fr h₀ L s.heap m) (N : News h₀ L s.heap news) (X : K.In s.heap) (hm : makesIn K C = true)
    (hi : findIn K (.ref C) "__init__" = some (some (.ref fI))) (hf : typeIn K (.ref fI) = some (.type "function"))
    (h : ∀ x dx h', Fr h₀ L h' m → News h₀ L h' ((x, instObj C dx) :: (dx, emptyDict) :: news) → (∀ p ∈ news, p.1 < dx) → dx < x →
      codeN nd (model prog w) (A.under (.builtin "type.__call__" ⟨.ref C :: rest, kw⟩)) (.call (.ref fI) ⟨.ref x :: rest, kw⟩) (InitBack x R) { s with heap := h' }) :
    codeN nd (model prog w) A (.call (.ref C) ⟨rest, kw⟩) R s := by
  obtain ⟨hh, g, d, t, os⟩ := s
  refine nmake_core (makes_of X hm) (looks_findIn X hi) (fun self => bind_fn X self hf) (.inl rfl) (h _ hh.objs.size _ ((F.push _).push _) ?_ (fun p hp => Heap.lt_size (N p hp).1) (Nat.lt_succ_self _))
  have := (N.push F emptyDict).push (F.push _) (instObj C hh.objs.size)
  rwa [Heap.size_push] at this
theorem ncall_cls {pos : List Value} {kw : List (Str × Value)} {fI : Addr} (F : Fr h₀ L s.heap m) (X₀ : K.In h₀) (N : News h₀ L s.heap news) (hm : makesIn K C = true) (hi : findIn K (.ref C) "__init__" = some (some (.ref fI))) (hf : isFn K (.ref fI) = true)
    (h : ∀ x dx h', Fr h₀ L h' m → News h₀ L h' ((x, instObj C dx) :: (dx, dictOf [] 0) :: news) → (∀ p ∈ news, p.1 < dx) → dx < x →
      codeN nd (model prog w) (A.under (.builtin "type.__call__" ⟨.ref C :: pos, kw⟩)) (.call (.ref fI) ⟨.ref x :: pos, kw⟩) (InitBack x fun r s' => match r with | .ok (.ret v) => Q v s' | .ok _ => False | .error e => E e s') { s with heap := h' }) :
    wpN nd (model prog w) A (call (.ref C) pos kw) Q E s := nCall (nmake_K F N (X₀.keeps F.keep) hm hi (beq_iff_eq.mp hf) h)
end
section
variable {g : Gl} {C : Ctx g} {ρ : Loc} {σ : Store} {Q Qr : V → Store → Prop} {Qn : Loc → Store → Prop} {X : Prop}
noncomputable def Ctx.wN (C : Ctx g) (A : Around) : Ctx g := { C with A := A }
/-- a new thing made and set up by its __init__ -/
theorem wnewN {Cl fI : Addr} {as : List V} (hm : makesIn g.K Cl = true) (hi : findIn g.K (.ref Cl) "__init__" = some (some (.ref fI))) (hf : isFn g.K (.ref fI) = true)
    (h : ∀ a d A', σ a = none → (∀ n, C.Room (n + 1) → (C.wN A').Room n) → WCode (C.wN A') (.raw (.ref fI)) (.ref a :: as) ρ (σ.set a (.inst Cl d [])) (fun v σ' => v = .none ∧ Q (.ref a) σ') X) : WCall C (.raw (.ref Cl)) as ρ σ Q X := fun ok fz hid v vs hv has s Qc Ec st hQ hX => by
  first | refine hv.raw_e ?_ | refine hv.ref_e ?_ | refine hv.int_e fun _ => ?_ | refine hv.bytes_e fun _ => ?_ | refine hv.bool_e ?_ | refine hv.none_e ?_ | refine hv.text_e fun _ _ _ => ?_ | refine hv.nil_e ?_
  refine st.op7 fun m news F N l ow sg sd so => ?_
  refine ncall_cls F ok.X N hm hi hf fun x dx h' F' N' hlt hlx => ?_
  have nσ : σ x = none := by
    cases q : σ x with
    | none => rfl
    | some o =>
      obtain ⟨o2, hm⟩ := objIn_addr (ow.sto x o q)
      exact absurd (Nat.lt_trans (hlt _ hm) hlx) (Nat.lt_irrefl _)
  let A' := C.A.under (.builtin "type.__call__" ⟨.ref Cl :: vs, []⟩)
  have ok' : (C.wN A').Ok := ⟨ok.B, ok.X, ok.T, ok.hA, ok.hh, ok.hk, ok.hg⟩
  have hroom : ∀ n, C.Room (n + 1) → (C.wN A').Room n := fun n r => by
    obtain ⟨r1, r2⟩ := r
    refine ⟨?_, ?_⟩
    · show C.A.depth + 1 + 4 * n + 4 < recursionLimit; lia
    · show C.A.units + (Code.builtin "type.__call__" ⟨.ref Cl :: vs, []⟩).cUnits + 16 * n + 16 < cLine
      have : (Code.builtin "type.__call__" ⟨.ref Cl :: vs, []⟩).cUnits ≤ 8 := Nat.le_of_ble_eq_true rfl
      lia
  have st' : St (C.wN A') ρ (σ.set x (.inst Cl dx [])) fz hid { s with heap := h' } := ⟨⟨m, _, F', N', l, ow.addInst hlt hlx⟩, sg, sd, so⟩
  have := h x dx A' nσ hroom ok' fz hid (.ref fI) (.ref x :: vs) (.raw _) (.cons (.ref _) has) { s with heap := h' } (fun v s' => v = .none ∧ Qc (.ref x) s') Ec st'
    (fun v u σ' fz' s' f1 r1 h1 st1 => by
      obtain ⟨rfl, h1⟩ := h1
      first | refine r1.raw_e ?_ | refine r1.ref_e ?_ | refine r1.int_e fun _ => ?_ | refine r1.bytes_e fun _ => ?_ | refine r1.bool_e ?_ | refine r1.none_e ?_ | refine r1.text_e fun _ _ _ => ?_ | refine r1.nil_e ?_
      exact ⟨rfl, hQ _ _ _ _ _ f1 (.ref _) h1 ⟨st1.ex, st1.gens, st1.drawn, st1.os⟩⟩) (fun hx => fun e s' x => hX hx e s' (by cases x with
        | made a b c d e f g => exact .made a b c d e f g
        | fly a b c d e f g h => exact .fly a b c d e f g h
        | held a b c d e f g h => exact .held a b c d e f g h))
  refine codeN_mono this fun r s' hr => ?_
  cases r with
  | error e => exact hr
  | ok fl => cases fl <;> first | exact hr | exact hr.elim

/-! bytearrays -/
theorem St.none {fz hid : Led} {s : Shared} (st : St C ρ σ fz hid s) : σ s.heap.objs.size = none := by
  cases q : σ s.heap.objs.size with
  | none => rfl
  | some o => exact absurd (st.news_lt _ _ q) (Nat.lt_irrefl _)
theorem St.barr {fz hid : Led} {s : Shared} (st : St C ρ σ fz hid s) {a : Addr} {b : List UInt8} (hi : σ a = some (.barr b)) : s.heap.get? a = some (barrObj b) := by
  refine st.op7 fun m news Fz N l ow sg sd so => ?_
  exact (N _ (ow.sto _ _ hi)).1
theorem St.putBarr {fz hid : Led} {s : Shared} (st : St C ρ σ fz hid s) {a : Addr} {b c : List UInt8} {h' : Heap} (hi : σ a = some (.barr b)) (hs : Heap.SameBut a s.heap h') (ho : h'.get? a = some (barrObj c)) : St C ρ (σ.set a (.barr c)) fz hid { s with heap := h' } := by
  refine st.op7 fun m news Fz N l ow sg sd so => ?_
  have hm : (a, barrObj b) ∈ news := ow.sto _ _ hi
  have U := upd_repl (o' := barrObj c) ow.nd hm
  have ow' := ow.setAt (ob' := .barr c) (o' := barrObj c) hi hm rfl rfl (repl_self hm)
  revert ow'
  generalize hN : repl a (barrObj c) news = news' at U
  intro ow'
  obtain ⟨pre, post, e1, e2, p1, p2⟩ := U.split
  subst e1; subst e2
  have z := N (a, barrObj b) (List.mem_append.mpr (.inr (.head _)))
  exact ⟨⟨m, _, Fz.change hs z.2.1 z.2.2, news_set N p1 p2 hs ho, l, ow'⟩, sg, sd, so⟩
theorem wcall_bytearray (nd : C.nd = true) (h : ∀ a, σ a = none → Q (.ref a) (σ.set a (.barr []))) : WCall C (.raw (.type "bytearray")) [] ρ σ Q X := fun ok fz hid f ws hf hws s Qc Ec st hQ hX => by
  first | refine hf.raw_e ?_ | refine hf.ref_e ?_ | refine hf.int_e fun _ => ?_ | refine hf.bytes_e fun _ => ?_ | refine hf.bool_e ?_ | refine hf.none_e ?_ | refine hf.text_e fun _ _ _ => ?_ | refine hf.nil_e ?_
  first | refine hws.raw_e ?_ | refine hws.ref_e ?_ | refine hws.int_e fun _ => ?_ | refine hws.bytes_e fun _ => ?_ | refine hws.bool_e ?_ | refine hws.none_e ?_ | refine hws.text_e fun _ _ _ => ?_ | refine hws.nil_e ?_
  have nσ := st.none
  refine st.op7 fun m news Fz N l ow sg sd so => ?_
  rw [nd]
  refine call_barr0 ok.hg fun h' hk ho => ?_
  refine hQ _ _ _ _ _ (subRefl fz) (.ref _) (h _ nσ) ⟨⟨m, (s.heap.objs.size, barrObj []) :: news, Fz.keeps hk, ?_, l, ?_⟩, sg, sd, so⟩
  · intro p hp
    cases hp with
    | head => exact ⟨ho, (News.push Fz N (barrObj []) rfl (s.heap.objs.size, barrObj []) (List.mem_cons_self ..)).2⟩
    | tail _ hp => exact ⟨hk _ _ (N p hp).1, (N p hp).2⟩
  · exact ow.add (fun p hp => Nat.ne_of_lt (Heap.lt_size (N p hp).1)) rfl (List.mem_cons_self ..)
theorem wmeth_barr_append {Q' : V → List V → Store → Prop} {a : Addr} {b : List UInt8} (hi : σ a = some (.barr b)) (h : Q' (.raw (.builtin "bytearray.append")) [.ref a] σ) : WMeth C (.ref a) "append" ρ σ Q' X := fun ok fz hid v hr s Qc Ec st hQ hX pl => by
  first | refine hr.raw_e ?_ | refine hr.ref_e ?_ | refine hr.int_e fun _ => ?_ | refine hr.bytes_e fun _ => ?_ | refine hr.bool_e ?_ | refine hr.none_e ?_ | refine hr.text_e fun _ _ _ => ?_ | refine hr.nil_e ?_
  exact .any (getMethod_barr (st.barr hi) F.slot_append F.type_append (hQ _ _ _ _ _ _ _ (subRefl fz) (.raw _) (.cons (.ref _) .nil) h st))
theorem wmeth_barr_extend {Q' : V → List V → Store → Prop} {a : Addr} {b : List UInt8} (hi : σ a = some (.barr b)) (h : Q' (.raw (.builtin "bytearray.extend")) [.ref a] σ) : WMeth C (.ref a) "extend" ρ σ Q' X := fun ok fz hid v hr s Qc Ec st hQ hX pl => by
  first | refine hr.raw_e ?_ | refine hr.ref_e ?_ | refine hr.int_e fun _ => ?_ | refine hr.bytes_e fun _ => ?_ | refine hr.bool_e ?_ | refine hr.none_e ?_ | refine hr.text_e fun _ _ _ => ?_ | refine hr.nil_e ?_
  exact .any (getMethod_barr (st.barr hi) F.slot_extend F.type_extend (hQ _ _ _ _ _ _ _ (subRefl fz) (.raw _) (.cons (.ref _) .nil) h st))
theorem wcall_barr_append (nd : C.nd = true) {a : Addr} {b : List UInt8} {n : Int} (hi : σ a = some (.barr b)) (h0 : 0 ≤ n) (h1 : n < 256) (hz : b.length < 16000000) (h : Q .none (σ.set a (.barr (b ++ [n.toNat.toUInt8])))) : WCall C (.raw (.builtin "bytearray.append")) [.ref a, .int n] ρ σ Q X := fun ok fz hid f ws hf hws s Qc Ec st hQ hX => by
  first | refine hf.raw_e ?_ | refine hf.ref_e ?_ | refine hf.int_e fun _ => ?_ | refine hf.bytes_e fun _ => ?_ | refine hf.bool_e ?_ | refine hf.none_e ?_ | refine hf.text_e fun _ _ _ => ?_ | refine hf.nil_e ?_
  refine hws.two_e fun w0 w r1 r2 => ?_
  first | refine r1.raw_e ?_ | refine r1.ref_e ?_ | refine r1.int_e fun _ => ?_ | refine r1.bytes_e fun _ => ?_ | refine r1.bool_e ?_ | refine r1.none_e ?_ | refine r1.text_e fun _ _ _ => ?_ | refine r1.nil_e ?_
  first | refine r2.raw_e ?_ | refine r2.ref_e ?_ | refine r2.int_e fun _ => ?_ | refine r2.bytes_e fun _ => ?_ | refine r2.bool_e ?_ | refine r2.none_e ?_ | refine r2.text_e fun _ _ _ => ?_ | refine r2.nil_e ?_
  rw [nd]
  exact call_barr_append ok.hg (st.barr hi) h0 h1 hz fun h' hs ho => hQ _ _ _ _ _ (subRefl fz) .none h (st.putBarr hi hs ho)
theorem wcall_barr_extend (nd : C.nd = true) {a : Addr} {b c : List UInt8} (hi : σ a = some (.barr b)) (hz : b.length + c.length ≤ 16000000) (h : Q .none (σ.set a (.barr (b ++ c)))) : WCall C (.raw (.builtin "bytearray.extend")) [.ref a, .bytes c] ρ σ Q X := fun ok fz hid f ws hf hws s Qc Ec st hQ hX => by
  first | refine hf.raw_e ?_ | refine hf.ref_e ?_ | refine hf.int_e fun _ => ?_ | refine hf.bytes_e fun _ => ?_ | refine hf.bool_e ?_ | refine hf.none_e ?_ | refine hf.text_e fun _ _ _ => ?_ | refine hf.nil_e ?_
  refine hws.two_e fun w0 w r1 r2 => ?_
  first | refine r1.raw_e ?_ | refine r1.ref_e ?_ | refine r1.int_e fun _ => ?_ | refine r1.bytes_e fun _ => ?_ | refine r1.bool_e ?_ | refine r1.none_e ?_ | refine r1.text_e fun _ _ _ => ?_ | refine r1.nil_e ?_
  first | refine r2.raw_e ?_ | refine r2.ref_e ?_ | refine r2.int_e fun _ => ?_ | refine r2.bytes_e fun _ => ?_ | refine r2.bool_e ?_ | refine r2.none_e ?_ | refine r2.text_e fun _ _ _ => ?_ | refine r2.nil_e ?_
  rw [nd]
  exact call_barr_extend ok.hg (st.barr hi) hz fun h' hs ho => hQ _ _ _ _ _ (subRefl fz) .none h (st.putBarr hi hs ho)
theorem wcall_bytes_barr {a : Addr} {b : List UInt8} (hi : σ a = some (.barr b)) (hz : b.length ≤ 16000000) (h : Q (.bytes b) σ) : WCall C (.raw (.type "bytes")) [.ref a] ρ σ Q X := fun ok fz hid f ws hf hws s Qc Ec st hQ hX => by
  first | refine hf.raw_e ?_ | refine hf.ref_e ?_ | refine hf.int_e fun _ => ?_ | refine hf.bytes_e fun _ => ?_ | refine hf.bool_e ?_ | refine hf.none_e ?_ | refine hf.text_e fun _ _ _ => ?_ | refine hf.nil_e ?_
  refine hws.one_e fun w0 r1 => ?_
  first | refine r1.raw_e ?_ | refine r1.ref_e ?_ | refine r1.int_e fun _ => ?_ | refine r1.bytes_e fun _ => ?_ | refine r1.bool_e ?_ | refine r1.none_e ?_ | refine r1.text_e fun _ _ _ => ?_ | refine r1.nil_e ?_
  exact .any (call_bytes_barr (st.barr hi) hz fun t k => hQ _ _ _ _ _ (subRefl fz) (.bytes _ _) h (st.toks _))
theorem wcall_bytes_bytes {b : List UInt8} (h : Q (.bytes b) σ) : WCall C (.raw (.type "bytes")) [.bytes b] ρ σ Q X := fun ok fz hid f ws hf hws s Qc Ec st hQ hX => by
  first | refine hf.raw_e ?_ | refine hf.ref_e ?_ | refine hf.int_e fun _ => ?_ | refine hf.bytes_e fun _ => ?_ | refine hf.bool_e ?_ | refine hf.none_e ?_ | refine hf.text_e fun _ _ _ => ?_ | refine hf.nil_e ?_
  refine hws.one_e fun w0 r1 => ?_
  first | refine r1.raw_e ?_ | refine r1.ref_e ?_ | refine r1.int_e fun _ => ?_ | refine r1.bytes_e fun _ => ?_ | refine r1.bool_e ?_ | refine r1.none_e ?_ | refine r1.text_e fun _ _ _ => ?_ | refine r1.nil_e ?_
  exact .any (call_bytes_bytes (hQ _ _ _ _ _ (subRefl fz) (.bytes _ _) h st))
/-- the ints of a list -/
theorem intsAre_of {fz : Led} {ns : List Int} : ∀ {ws : List Value}, Reps fz (ns.map V.int) ws → IntsAre ws ns := by
  induction ns with
  | nil => exact fun h => h.nil_e (Pl := fun ws => IntsAre ws []) .nil
  | cons n r ih => exact fun h => h.cons_e (Pl := fun ws => IntsAre ws (n :: r)) fun w ws h1 h2 => h1.int_e (P := fun w => IntsAre (w :: ws) (n :: r)) fun t => .cons _ _ (ih h2)
theorem wcall_bytes_ints {u : V} {ns : List Int} (hi : IsLst σ u (ns.map V.int)) (hr : ∀ n ∈ ns, 0 ≤ n ∧ n < 256) (hz : ns.length ≤ 16000000) (h : Q (.bytes (ns.map fun n => n.toNat.toUInt8)) σ) : WCall C (.raw (.type "bytes")) [u] ρ σ Q X := fun ok fz hid f ws hf hws s Qc Ec st hQ hX => by
  first | refine hf.raw_e ?_ | refine hf.ref_e ?_ | refine hf.int_e fun _ => ?_ | refine hf.bytes_e fun _ => ?_ | refine hf.bool_e ?_ | refine hf.none_e ?_ | refine hf.text_e fun _ _ _ => ?_ | refine hf.nil_e ?_
  refine hws.one_e fun w0 r1 => ?_
  refine st.lst_e hi r1 fun x ws n hx hrs _ => ?_
  refine st.op7 fun m news Fz N l ow sg sd so => ?_
  refine .any (bytes_K Fz N (isList_of hx) (intsAre_of hrs) hr (by rw [hrs.length, List.length_map, sizeLine_eq]; lia) ok.hh fun h' t k F' N' _ => ?_)
  exact hQ _ _ _ _ _ (subRefl fz) (.bytes _ _) h ⟨⟨m, news, F', N', l, ow⟩, sg, sd, so⟩
end
end Lw

end
section
open PySem PySem.W PyProof.Rows PySem.Calls PySem.Spec
set_option maxRecDepth 100000
set_option autoImplicit false
set_option linter.unusedVariables false
namespace Lw
section
variable {g : Gl} {C : Ctx g} {ρ : Loc} {σ : Store} {Q Qr : V → Store → Prop} {Qn : Loc → Store → Prop} {X : Prop}

/-! texts -/
theorem wbin_text {m n : Nat} (hs : m + n ≤ 1000000) (h : Q (.text (m + n)) σ) : WBin C .Add (.text m) (.text n) ρ σ Q X := fun ok fz hid v w hv hw s Qc Ec st hQ hX => by
  refine hv.text_e fun x t hx => hw.text_e fun y u hy => ?_
  exact .any (KXadd.add hx hy (by lia) fun t' k hl => hQ _ _ _ _ _ (subRefl fz) (.text _ _ (by lia)) h (st.toks _))
theorem int_text {a : Int} (h : a.natAbs < 2 ^ 100) : (Str.ofString (toString a)).length ≤ 2000 ∧ a.natAbs.log2 < 1920 := by
  have h2 : a.natAbs.log2 < 1920 := by
    by_cases e : a.natAbs = 0
    · rw [e]; decide
    · have := (Nat.log2_lt e).mpr h
      lia
  refine ⟨?_, h2⟩
  have e := int_text_length_le (k := 1920) (by decide) h2
  rw [PySem.ofString_length]; lia
theorem wcall_str_int {a : Int} (ha : a.natAbs < 2 ^ 100) (h : Q (.text 2000) σ) : WCall C (.raw (.type "str")) [.int a] ρ σ Q X := fun ok fz hid f ws hf hws s Qc Ec st hQ hX => by
  first | refine hf.raw_e ?_ | refine hf.ref_e ?_ | refine hf.int_e fun _ => ?_ | refine hf.bytes_e fun _ => ?_ | refine hf.bool_e ?_ | refine hf.none_e ?_ | refine hf.text_e fun _ _ _ => ?_ | refine hf.nil_e ?_
  refine hws.one_e fun w0 r1 => ?_
  first | refine r1.raw_e ?_ | refine r1.ref_e ?_ | refine r1.int_e fun _ => ?_ | refine r1.bytes_e fun _ => ?_ | refine r1.bool_e ?_ | refine r1.none_e ?_ | refine r1.text_e fun _ _ _ => ?_ | refine r1.nil_e ?_
  exact .any (P.str_of_int (int_text ha).2 (hQ _ _ _ _ _ (subRefl fz) (.text _ _ (int_text ha).1) h (st.toks _)))
/-- parts of a text -/
noncomputable def WJoin (C : Ctx g) (es : List Expr) (n : Nat) (ρ : Loc) (σ : Store) (Q : V → Store → Prop) (X : Prop) : Prop := C.Ok → ∀ fz hid (out : Str), out.length ≤ n → WTr C (joinParts out (evalEach es C.env)) ρ σ fz hid Q X
theorem wjoin_nil {n : Nat} (hn : n ≤ 1000000) (h : Q (.text n) σ) : WJoin C [] n ρ σ Q X := fun ok fz hid out ho s Qc Ec st hQ hX =>
  .any (joinParts_nil (hQ _ _ _ _ _ (subRefl fz) (.text _ _ ho) h (st.toks _)) (by rw [sizeLine_eq]; lia))
theorem wjoin_cons {e : Expr} {es : List Expr} {n : Nat} (h : WE C e ρ σ (fun v σ₁ => ∃ k, v = .text k ∧ n + k ≤ 1000000 ∧ WJoin C es (n + k) ρ σ₁ Q X) X) : WJoin C (e :: es) n ρ σ Q X := fun ok fz hid out ho s Qc Ec st hQ hX => by
  show wpN _ _ _ (joinParts out (eval e C.env :: evalEach es C.env)) _ _ _
  rw [joinParts]
  refine nBind (h ok fz hid s _ _ st (fun v u σ₁ fz₁ s₁ f1 r1 h1 st1 => ?_) hX)
  obtain ⟨k, rfl, hk, h2⟩ := h1
  refine r1.text_e fun y t hy => ?_
  have hz' : ¬ (out.length + y.length > sizeLine) := by rw [sizeLine_eq]; lia
  refine nBind (nPure ?_)
  show wpN _ _ _ (if out.length + y.length > sizeLine then _ else _) _ _ s₁
  rw [if_neg hz']
  have := h2 ok fz₁ hid (out ++ y) (by rw [PySem.Str.length_append]; lia) s₁ Qc Ec st1 (fun v u σ' fz' s' f r q st' => hQ v u σ' fz' s' (subTrans f1 f) r q st') hX
  first
    | exact this
    | exact nBind (nPure this)
theorem we_fstr {v₁ v₂ : Expr} {rest : List Expr} {pos : Pos} (h : WJoin C (v₁ :: v₂ :: rest) 0 ρ σ Q X) : WE C (.JoinedStr (v₁ :: v₂ :: rest) pos) ρ σ Q X := fun ok fz hid s Qc Ec st hQ hX =>
  h ok fz hid Str.empty (Nat.le_refl 0) s Qc Ec st hQ hX
theorem we_fval {value : Expr} {pos : Pos} (h : WE C value ρ σ (fun v σ₁ => ∃ i, v = .int i ∧ i.natAbs < 2 ^ 100 ∧ Q (.text 2000) σ₁) X) : WE C (.FormattedValue value (-1) none pos) ρ σ Q X := fun ok fz hid s Qc Ec st hQ hX => by
  show wpN _ _ _ (do let v ← eval value C.env; standAt pos; formatted pos (← holding [v] (converted (-1) v)) none) _ _ s
  refine nBind (h ok fz hid s _ _ st (fun v u σ₁ fz₁ s₁ f1 r1 h1 st1 => ?_) hX)
  obtain ⟨i, rfl, hi, h2⟩ := h1
  first | refine r1.raw_e ?_ | refine r1.ref_e ?_ | refine r1.int_e fun _ => ?_ | refine r1.bytes_e fun _ => ?_ | refine r1.bool_e ?_ | refine r1.none_e ?_ | refine r1.text_e fun _ _ _ => ?_ | refine r1.nil_e ?_
  refine nBind (nStand ?_)
  show wpN _ _ _ (do let v' ← holding [_] (pure _); formatField v' Str.empty) _ _ s₁
  refine nBind (nHold (nPure (.any (formatField_int_small (int_text hi).2 ?_))))
  exact hQ _ _ _ _ _ f1 (.text _ _ (int_text hi).1) h2 (st1.toks _)

/-! lists -/
theorem Reps.isEmpty {fz : Led} {vs : List V} {ws : List Value} (h : Reps fz vs ws) : (!ws.toArray.isEmpty) = (!vs.isEmpty) := h.ind (P := fun vs ws => (!ws.toArray.isEmpty) = (!vs.isEmpty)) rfl fun _ _ _ => rfl
theorem wtru_list {Q' : Bool → Store → Prop} {u : V} {vs : List V} (hi : IsLst σ u vs) (hs : vs.length ≤ 16000000) (h : Q' (!vs.isEmpty) σ) : WTru C u ρ σ Q' := fun ok fz hid v hr s Qc Ec st hQ => by
  refine st.lst_e hi hr fun x ws n hx hrs _ => ?_
  have hl := hrs.length
  refine .any (wpAny_truthy_list (isList_of hx) (by rw [List.size_toArray, hl]; lia) ?_)
  rw [hrs.isEmpty]
  exact hQ _ _ _ _ (subRefl fz) h (st.toks _)
theorem wbin_list_add {u v : V} {vs us : List V} (hu : IsLst σ u vs) (hv : IsLst σ v us) (hs : vs.length + us.length ≤ 16000000) (h : ∀ a, σ a = none → Q (.ref a) (σ.set a (.list (vs ++ us)))) : WBin C .Add u v ρ σ Q X := fun ok fz hid p q hp hq s Qc Ec st hQ hX => by
  refine st.lst_e hu hp fun x ws n hx hrs _ => ?_
  refine st.lst_e hv hq fun y zs n2 hy hrz _ => ?_
  refine .any (P.add_list (items := ws.toArray) (items2 := zs.toArray) hx hy ?_ (by rw [List.size_toArray, List.size_toArray, hrs.length, hrz.length, sizeLine_eq]; lia))
  have nσ := st.none
  rw [List.append_toArray]
  exact hQ _ _ _ _ _ (subRefl fz) (.ref _) (h _ nσ) (st.pushList (hrs.append hrz)).1
theorem Reps.rep {fz : Led} {vs : List V} {ws : List Value} (h : Reps fz vs ws) : ∀ k, Reps fz (List.replicate k vs).flatten (List.replicate k ws).flatten
  | 0 => .nil
  | k + 1 => by
    rw [List.replicate_succ, List.replicate_succ, List.flatten_cons, List.flatten_cons]
    exact h.append (h.rep k)
theorem wbin_list_mul {u : V} {vs : List V} {i : Int} (hu : IsLst σ u vs) (h0 : 0 ≤ i) (hs : vs.length * i.toNat ≤ 256) (hb : i < 2 ^ 62) (h : ∀ a, σ a = none → Q (.ref a) (σ.set a (.list (List.replicate i.toNat vs).flatten))) : WBin C .Mult u (.int i) ρ σ Q X := fun ok fz hid p q hp hq s Qc Ec st hQ hX => by
  first | refine hq.raw_e ?_ | refine hq.ref_e ?_ | refine hq.int_e fun _ => ?_ | refine hq.bytes_e fun _ => ?_ | refine hq.bool_e ?_ | refine hq.none_e ?_ | refine hq.text_e fun _ _ _ => ?_ | refine hq.nil_e ?_
  refine st.lst_e hu hp fun x ws n hx hrs _ => ?_
  refine st.op7 fun m news Fz N l ow sg sd so => ?_
  refine .any (KMa.mul Fz N (isList_of hx) (by lia) (by lia) (by rw [hrs.length]; exact hs) rfl fun D h' F' N' hlt => ?_)
  have hn : ∀ p ∈ news, p.1 ≠ D := fun p hp => Nat.ne_of_lt (hlt p hp)
  have nσ : σ D = none := by
    cases q : σ D with
    | none => rfl
    | some o => obtain ⟨o2, hm⟩ := objIn_addr (ow.sto _ o q); exact absurd rfl (hn _ hm)
  exact hQ _ _ _ _ _ (subRefl fz) (.ref _) (h _ nσ) ⟨⟨m, _, F', N', l, ow.add hn rfl ⟨_, 0, .head _, hrs.rep _⟩⟩, sg, sd, so⟩
theorem wcall_tuple {u : V} {vs : List V} (hu : IsLst σ u vs) (hs : vs.length ≤ 16000000) (h : Q (.tup vs) σ) : WCall C (.raw (.type "tuple")) [u] ρ σ Q X := fun ok fz hid f ws hf hws s Qc Ec st hQ hX => by
  first | refine hf.raw_e ?_ | refine hf.ref_e ?_ | refine hf.int_e fun _ => ?_ | refine hf.bytes_e fun _ => ?_ | refine hf.bool_e ?_ | refine hf.none_e ?_ | refine hf.text_e fun _ _ _ => ?_ | refine hf.nil_e ?_
  refine hws.one_e fun w0 r1 => ?_
  refine st.lst_e hu r1 fun x ws n hx hrs _ => ?_
  refine .any (call_tuple_list (isList_of hx) (fun h' hk => ?_) (by rw [List.size_toArray, hrs.length, sizeLine_eq]; lia))
  refine st.op7 fun m news Fz N l ow sg sd so => ?_
  have F' : Fr C.h₀ C.L h' m := Fz.keeps hk
  have N' : News C.h₀ C.L h' news := fun p hp => ⟨hk _ _ (N p hp).1, (N p hp).2⟩
  have st' : St C ρ σ fz hid { s with heap := h' } := ⟨⟨m, news, F', N', l, ow⟩, sg, sd, so⟩
  have st2 := st'.pushFz ({ cls := .type "tuple", data := .seq ws.toArray } : Obj)
  exact hQ _ _ _ _ _ (fun p hp => .tail _ hp) (.tup (.head _) (hrs.mono fun p hp => .tail _ hp)) h st2
theorem wcmp_bytes_ne {a b : List UInt8} (h : Q (.bool (a != b)) σ) : WCmp C .NotEq (.bytes a) (.bytes b) ρ σ Q X := fun ok fz hid v w hv hw s Qc Ec st hQ hX => by
  first | refine hv.raw_e ?_ | refine hv.ref_e ?_ | refine hv.int_e fun _ => ?_ | refine hv.bytes_e fun _ => ?_ | refine hv.bool_e ?_ | refine hv.none_e ?_ | refine hv.text_e fun _ _ _ => ?_ | refine hv.nil_e ?_
  first | refine hw.raw_e ?_ | refine hw.ref_e ?_ | refine hw.int_e fun _ => ?_ | refine hw.bytes_e fun _ => ?_ | refine hw.bool_e ?_ | refine hw.none_e ?_ | refine hw.text_e fun _ _ _ => ?_ | refine hw.nil_e ?_
  exact .any (ne_bytes (hQ _ _ _ _ _ (subRefl fz) (.bool _) h st))
/-- sorted ints -/
noncomputable def sortI (l : List Int) : List Int := l.mergeSort
theorem sortI_eq {l r : List Int} (h : r.Perm l) (hs : r.Pairwise (· ≤ ·)) : r = sortI l := by
  have h1 : (sortI l).Perm l := List.mergeSort_perm l _
  have h2 : (sortI l).Pairwise (· ≤ ·) := by
    have := List.pairwise_mergeSort (le := fun a b : Int => decide (a ≤ b)) (by simp; intro a b c; lia) (by simp; intro a b; lia) l
    exact this.imp (by simp)
  exact (h.trans h1.symm).eq_of_pairwise (le := (· ≤ ·)) (fun a b _ _ h1 h2 => Int.le_antisymm h1 h2) hs h2
theorem wcall_sorted {u : V} {ns : List Int} (hu : IsLst σ u (ns.map V.int)) (hs : ns.length < 64) (h : ∀ a, σ a = none → Q (.ref a) (σ.set a (.list ((sortI ns).map V.int)))) : WCall C (.raw (.builtin "sorted")) [u] ρ σ Q X := fun ok fz hid f ws hf hws s Qc Ec st hQ hX => by
  first | refine hf.raw_e ?_ | refine hf.ref_e ?_ | refine hf.int_e fun _ => ?_ | refine hf.bytes_e fun _ => ?_ | refine hf.bool_e ?_ | refine hf.none_e ?_ | refine hf.text_e fun _ _ _ => ?_ | refine hf.nil_e ?_
  refine hws.one_e fun w0 r1 => ?_
  refine st.lst_e hu r1 fun x ws n hx hrs _ => ?_
  refine st.op7 fun m news Fz N l ow sg sd so => ?_
  refine .any (kso_sorted Fz N (isList_of hx) (intsAre_of hrs) hs fun D vs' ns' c h' F' N' hlt hi _ hp hw _ => ?_)
  have hn : ∀ p ∈ news, p.1 ≠ D := fun p hp => Nat.ne_of_lt (hlt p hp)
  have nσ : σ D = none := by
    cases q : σ D with
    | none => rfl
    | some o => obtain ⟨o2, hm⟩ := objIn_addr (ow.sto _ o q); exact absurd rfl (hn _ hm)
  have e := sortI_eq hp hw
  subst e
  have hr : Reps fz ((sortI ns).map V.int) vs' := by
    clear N' hp hw hs h
    generalize sortI ns = l at hi
    induction hi with
    | nil => exact .nil
    | cons n t _ ih => exact .cons (.int _ _) ih
  exact hQ _ _ _ _ _ (subRefl fz) (.ref _) (h _ nσ) ⟨⟨m, _, F', N', l, ow.add hn rfl ⟨_, c, .head _, hr⟩⟩, sg, sd, so⟩
end
end Lw

end
section
open PySem PySem.W PyProof.Rows PySem.Calls PySem.Spec
set_option maxRecDepth 100000
set_option autoImplicit false
set_option linter.unusedVariables false
namespace Lw
section
variable {g : Gl} {C : Ctx g} {ρ : Loc} {σ : Store} {Q Qr : V → Store → Prop} {Qn : Loc → Store → Prop} {X : Prop}
theorem St.freezeList {fz hid : Led} {s : Shared} (st : St C ρ σ fz hid s) {a : Addr} {vs : List V} (ha : σ a = some (.list vs)) : ∃ fz', (∀ p ∈ fz, p ∈ fz') ∧ Rep fz' (.lst vs) (.ref a) ∧ St C ρ (σ.del a) fz' hid s := by
  refine st.op7 fun m news Fz N l ow sg sd so => ?_
  obtain ⟨fz', h1, h2, h3⟩ := ow.freezeList ha
  exact ⟨fz', h1, h2, ⟨⟨m, news, Fz, N, l.mono h1, h3⟩, sg, sd, so⟩⟩
theorem St.freezeInst {fz hid : Led} {s : Shared} (st : St C ρ σ fz hid s) {a Cl d : Addr} {fs : Flds} (ha : σ a = some (.inst Cl d fs)) : ∃ fz', (∀ p ∈ fz, p ∈ fz') ∧ Rep fz' (.obj Cl fs) (.ref a) ∧ St C ρ (σ.del a) fz' hid s := by
  refine st.op7 fun m news Fz N l ow sg sd so => ?_
  obtain ⟨fz', h1, h2, h3⟩ := ow.freezeInst ha
  exact ⟨fz', h1, h2, ⟨⟨m, news, Fz, N, l.mono h1, h3⟩, sg, sd, so⟩⟩
/-- a value that may be read as frozen -/
inductive Frz (σ : Store) : V → V → Store → Prop where
  | same {u : V} : Frz σ u u σ
  | list {a : Addr} {vs : List V} : σ a = some (.list vs) → Frz σ (.ref a) (.lst vs) (σ.del a)
  | inst {a Cl d : Addr} {fs : Flds} : σ a = some (.inst Cl d fs) → Frz σ (.ref a) (.obj Cl fs) (σ.del a)
theorem St.frz {fz hid : Led} {s : Shared} (st : St C ρ σ fz hid s) {u u' : V} {v : Value} {σ' : Store} (k : Frz σ u u' σ') (r : Rep fz u v) : ∃ fz', (∀ p ∈ fz, p ∈ fz') ∧ Rep fz' u' v ∧ St C ρ σ' fz' hid s := by
  cases k with
  | same => exact ⟨fz, fun _ h => h, r, st⟩
  | list e => cases r; exact st.freezeList e
  | inst e => cases r; exact st.freezeInst e
theorem WTr.frz {t : Sem Value} {fz hid : Led} (h : WTr C t ρ σ fz hid (fun v σ' => ∃ u σ'', Frz σ' v u σ'' ∧ Q u σ'') X) : WTr C t ρ σ fz hid Q X := fun s Qc Ec st hQ hX =>
  h s Qc Ec st (fun v u σ' fz' s' f r q st' => by
    obtain ⟨u', σ'', k, q⟩ := q
    obtain ⟨fz'', f2, r2, st2⟩ := st'.frz k r
    exact hQ _ _ _ _ _ (subTrans f f2) r2 q st2) hX
theorem WE.frz {e : Expr} (h : WE C e ρ σ (fun v σ' => ∃ u σ'', Frz σ' v u σ'' ∧ Q u σ'') X) : WE C e ρ σ Q X := fun ok fz hid => (h ok fz hid).frz
theorem WCall.frz {f : V} {as : List V} (h : WCall C f as ρ σ (fun v σ' => ∃ u σ'', Frz σ' v u σ'' ∧ Q u σ'') X) : WCall C f as ρ σ Q X := fun ok fz hid v vs r rs => (h ok fz hid v vs r rs).frz
end
end Lw

end
section
open PySem PySem.W PyProof.Rows PySem.Calls PySem.Spec
set_option maxRecDepth 100000
set_option autoImplicit false
set_option linter.unusedVariables false
namespace Lw
section
variable {g : Gl} {C : Ctx g} {ρ : Loc} {σ : Store} {Q Qr : V → Store → Prop} {Qn : Loc → Store → Prop} {X : Prop}
/-! what is behind a step, by name -/
@[reducible] noncomputable def KS (C : Ctx g) (Qr : V → Store → Prop) (X : Prop) (ss : List Stmt) (Qn : Loc → Store → Prop) : Loc → Store → Prop := fun ρ σ => WXs C ss ρ σ Qn Qr X
@[reducible] noncomputable def KIf (C : Ctx g) (Qr : V → Store → Prop) (X : Prop) (Qn : Loc → Store → Prop) (b o : List Stmt) (ρ : Loc) : Bool → Store → Prop := fun c σ => if c = true then WXs C b ρ σ Qn Qr X else WXs C o ρ σ Qn Qr X
@[reducible] noncomputable def KAs (C : Ctx g) (Qr : V → Store → Prop) (X : Prop) (ss : List Stmt) (Qn : Loc → Store → Prop) (x : Str) (ρ : Loc) : V → Store → Prop := fun v σ => WXs C ss (fput x v ρ) σ Qn Qr X
@[reducible] noncomputable def KEx (C : Ctx g) (Qr : V → Store → Prop) (X : Prop) (ss : List Stmt) (Qn : Loc → Store → Prop) (ρ : Loc) : V → Store → Prop := fun v σ => v = .none ∧ WXs C ss ρ σ Qn Qr X
@[reducible] noncomputable def KSet2 (C : Ctx g) (Qr : V → Store → Prop) (X : Prop) (ss : List Stmt) (Qn : Loc → Store → Prop) (x : Str) (v : V) (ρ : Loc) : V → Store → Prop := fun ov σ => WSet C ov x v ρ σ (KS C Qr X ss Qn ρ) X
@[reducible] noncomputable def KSet1 (C : Ctx g) (Qr : V → Store → Prop) (X : Prop) (ss : List Stmt) (Qn : Loc → Store → Prop) (o : Expr) (x : Str) (ρ : Loc) : V → Store → Prop := fun v σ => WE C o ρ σ (KSet2 C Qr X ss Qn x v ρ) X
@[reducible] noncomputable def KAt (C : Ctx g) (Qr : V → Store → Prop) (X : Prop) (ss : List Stmt) (Qn : Loc → Store → Prop) (t : Expr) (ρ : Loc) : V → Store → Prop := fun v σ => WAsg C t v ρ σ fun ρ' => WXs C ss ρ' σ Qn Qr X
@[reducible] noncomputable def KB2 (C : Ctx g) (Q : V → Store → Prop) (X : Prop) (op : Operator) (ρ : Loc) (a : V) : V → Store → Prop := fun b σ => WBin C op a b ρ σ Q X
@[reducible] noncomputable def KB1 (C : Ctx g) (Q : V → Store → Prop) (X : Prop) (op : Operator) (r : Expr) (ρ : Loc) : V → Store → Prop := fun a σ => WE C r ρ σ (KB2 C Q X op ρ a) X
@[reducible] noncomputable def KT3 (C : Ctx g) (Q : Bool → Store → Prop) (ρ : Loc) : V → Store → Prop := fun c σ => WTru C c ρ σ Q
@[reducible] noncomputable def KT2 (C : Ctx g) (Q : Bool → Store → Prop) (X : Prop) (op : CmpOp) (ρ : Loc) (a : V) : V → Store → Prop := fun b σ => WCmp C op a b ρ σ (KT3 C Q ρ) X
@[reducible] noncomputable def KT1 (C : Ctx g) (Q : Bool → Store → Prop) (X : Prop) (op : CmpOp) (r : Expr) (ρ : Loc) : V → Store → Prop := fun a σ => WE C r ρ σ (KT2 C Q X op ρ a) X
@[reducible] noncomputable def KU2 (C : Ctx g) (Q : V → Store → Prop) (X : Prop) (value slice : Expr) (ρ : Loc) (a : V) : V → Store → Prop := fun b σ => WSub C value slice a b ρ σ Q X
@[reducible] noncomputable def KU1 (C : Ctx g) (Q : V → Store → Prop) (X : Prop) (value slice : Expr) (ρ : Loc) : V → Store → Prop := fun a σ => WE C slice ρ σ (KU2 C Q X value slice ρ a) X
@[reducible] noncomputable def KGet (C : Ctx g) (Q : V → Store → Prop) (X : Prop) (x : Str) (ρ : Loc) : V → Store → Prop := fun a σ => WGet C a x ρ σ Q X
@[reducible] noncomputable def KA2 (Q : List V → Store → Prop) (a : V) : List V → Store → Prop := fun as σ => Q (a :: as) σ
@[reducible] noncomputable def KA1 (C : Ctx g) (Q : List V → Store → Prop) (X : Prop) (es : List Expr) (ρ : Loc) : V → Store → Prop := fun a σ => WArgs C es ρ σ (KA2 Q a) X
@[reducible] noncomputable def KTup (Q : V → Store → Prop) : List V → Store → Prop := fun vs σ => vs.length ≤ 100 ∧ Q (.tup vs) σ
@[reducible] noncomputable def KC2 (C : Ctx g) (Q : V → Store → Prop) (X : Prop) (ρ : Loc) (f : V) : List V → Store → Prop := fun vs σ => WCall C f vs ρ σ Q X
@[reducible] noncomputable def KC1 (C : Ctx g) (Q : V → Store → Prop) (X : Prop) (es : List Expr) (ρ : Loc) : V → Store → Prop := fun f σ => Callee g.K f ∧ WArgs C es ρ σ (KC2 C Q X ρ f) X
@[reducible] noncomputable def KM3 (C : Ctx g) (Q : V → Store → Prop) (X : Prop) (ρ : Loc) (f : V) (first : List V) : List V → Store → Prop := fun vs σ => WCall C f (first ++ vs) ρ σ Q X
@[reducible] noncomputable def KM2 (C : Ctx g) (Q : V → Store → Prop) (X : Prop) (es : List Expr) (ρ : Loc) : V → List V → Store → Prop := fun f first σ => Callee g.K f ∧ WArgs C es ρ σ (KM3 C Q X ρ f first) X
@[reducible] noncomputable def KM1 (C : Ctx g) (Q : V → Store → Prop) (X : Prop) (name : Str) (es : List Expr) (ρ : Loc) : V → Store → Prop := fun ov σ => WMeth C ov name ρ σ (KM2 C Q X es ρ) X
@[reducible] noncomputable def KAnd (C : Ctx g) (Q : Bool → Store → Prop) (X : Prop) (xs : List Expr) (ρ : Loc) : Bool → Store → Prop := fun b σ => if b = true then WAll C .And xs ρ σ Q X else Q false σ
@[reducible] noncomputable def KOr (C : Ctx g) (Q : Bool → Store → Prop) (X : Prop) (xs : List Expr) (ρ : Loc) : Bool → Store → Prop := fun b σ => if b = true then Q true σ else WAll C .Or xs ρ σ Q X

theorem x_cons {s : Stmt} {ss : List Stmt} (h : WX C s ρ σ (KS C Qr X ss Qn) Qr X) : WXs C (s :: ss) ρ σ Qn Qr X := wxs_cons h
theorem x_if {t : Expr} {b o ss : List Stmt} {pos : Pos} (h : WTest C t ρ σ (KIf C Qr X (KS C Qr X ss Qn) b o ρ) X) : WXs C (.If t b o pos :: ss) ρ σ Qn Qr X := wxs_cons (wx_if h)
theorem x_assign {x : Str} {np pos : Pos} {e : Expr} {ss : List Stmt} (h : WE C e ρ σ (KAs C Qr X ss Qn x ρ) X) (hx : C.env.kindOf x = some .local := by rfl)
    (hs : swapsWith e (some (.Name x np)) pos.line C.env = pure false := by rfl) : WXs C (.Assign [.Name x np] e pos :: ss) ρ σ Qn Qr X := wxs_cons (wx_assign h hx hs)
theorem x_expr {e : Expr} {pos : Pos} {ss : List Stmt} (h : WE C e ρ σ (KEx C Qr X ss Qn ρ) X) (hi : interactive C.env = false := by rfl) (hs : swapsWith e none pos.line C.env = pure false := by rfl) : WXs C (.Expr e pos :: ss) ρ σ Qn Qr X := wxs_cons (wx_expr h hi hs)
theorem x_return {e : Expr} {pos : Pos} {ss : List Stmt} (h : WE C e ρ σ Qr X) : WXs C (.Return (some e) pos :: ss) ρ σ Qn Qr X := wxs_cons (wx_return h)
theorem x_setattr {o e : Expr} {x : Str} {ap pos : Pos} {ss : List Stmt} (h : WE C e ρ σ (KSet1 C Qr X ss Qn o x ρ) X)
    (hs : swapsWith e (some (.Attribute o x ap)) pos.line C.env = pure false := by rfl) : WXs C (.Assign [.Attribute o x ap] e pos :: ss) ρ σ Qn Qr X := wxs_cons (wx_setattr h hs)
theorem x_assign_t {elts : List Expr} {k : Nat} {tpos pos : Pos} {e : Expr} {ss : List Stmt} (h : WE C e ρ σ (KAt C Qr X ss Qn (.Tuple elts k tpos) ρ) X)
    (hs : swapsWithSole [.Tuple elts k tpos] e pos.line C.env = pure false := by rfl)
    (hw : swappedStores [.Tuple elts k tpos] e C.env = pure none := by rfl) : WXs C (.Assign [.Tuple elts k tpos] e pos :: ss) ρ σ Qn Qr X := wxs_cons (wx_assign_t h hs hw)
theorem k_bin {l r : Expr} {op : Operator} {pos : Pos} (h : WE C l ρ σ (KB1 C Q X op r ρ) X) : WE C (.BinOp l op r pos) ρ σ Q X := we_bin h
theorem k_cmp {Q' : Bool → Store → Prop} {l r : Expr} {op : CmpOp} {pos : Pos} (h : WE C l ρ σ (KT1 C Q' X op r ρ) X) (hm : behindInMarks op r = false := by with_unfolding_all rfl) : WTest C (.Compare l [op] [r] pos) ρ σ Q' X := wtest_cmp h hm
theorem k_sub {value slice : Expr} {pos : Pos} (h : WE C value ρ σ (KU1 C Q X value slice ρ) X) : WE C (.Subscript value slice pos) ρ σ Q X := we_sub h
theorem k_attr {value : Expr} {x : Str} {pos : Pos} (h : WE C value ρ σ (KGet C Q X x ρ) X)
    (he : eval (.Attribute value x pos) C.env = (do
      let o ← eval value C.env
      standAt pos.atName
      let r ← holding [o] (getAttr o x true)
      letTemporaryGo value o r
      pure r) := by with_unfolding_all rfl) : WE C (.Attribute value x pos) ρ σ Q X := we_attr h he
theorem k_args {e : Expr} {es : List Expr} {Q : List V → Store → Prop} (h : WE C e ρ σ (KA1 C Q X es ρ) X) (he : starEach (e :: es) C.env = (false, eval e C.env) :: starEach es C.env := by rfl) : WArgs C (e :: es) ρ σ Q X := wargs_cons h he
theorem k_tuple {es : List Expr} {k : Nat} {pos : Pos} (h : WArgs C es ρ σ (KTup Q) X) : WE C (.Tuple es k pos) ρ σ Q X := we_tuple h
theorem k_call {x : Str} {np pos : Pos} {e : Expr} {es : List Expr} (h : WE C (.Name x np) ρ σ (KC1 C Q X (e :: es) ρ) X)
    (he : starEach (e :: es) C.env = (false, eval e C.env) :: starEach es C.env := by rfl) (hplain : (backTo pos (starEach es C.env)).any (·.1) = false := by rfl) : WE C (.Call (.Name x np) (e :: es) [] pos) ρ σ Q X := we_call h he hplain
theorem t_or {Q' : Bool → Store → Prop} {x : Expr} {xs : List Expr} {pos : Pos} (h : WTest C x ρ σ (KOr C Q' X xs ρ) X) : WTest C (.BoolOp .Or (x :: xs) pos) ρ σ Q' X := wtest_bool (wall_or h)
theorem t_and {Q' : Bool → Store → Prop} {x : Expr} {xs : List Expr} {pos : Pos} (h : WTest C x ρ σ (KAnd C Q' X xs ρ) X) : WTest C (.BoolOp .And (x :: xs) pos) ρ σ Q' X := wtest_bool (wall_and h)
theorem a_or {Q' : Bool → Store → Prop} {x : Expr} {xs : List Expr} (h : WTest C x ρ σ (KOr C Q' X xs ρ) X) : WAll C .Or (x :: xs) ρ σ Q' X := wall_or h
theorem a_and {Q' : Bool → Store → Prop} {x : Expr} {xs : List Expr} (h : WTest C x ρ σ (KAnd C Q' X xs ρ) X) : WAll C .And (x :: xs) ρ σ Q' X := wall_and h
/-- a comparison of ints whose end is known -/
theorem p_or_f {Q' : Bool → Store → Prop} {l r : Expr} {op : CmpOp} {p : Pos} {xs : List Expr} {c : Bool} (h : pcmp op (pev C ρ 4 l) (pev C ρ 4 r) = some c) (hc : c = false) (k : WAll C .Or xs ρ σ Q' X) : WAll C .Or (.Compare l [op] [r] p :: xs) ρ σ Q' X :=
  wall_or (wtest_pcmp 4 h (by subst hc; exact k))
theorem p_or_t {Q' : Bool → Store → Prop} {l r : Expr} {op : CmpOp} {p : Pos} {xs : List Expr} {c : Bool} (h : pcmp op (pev C ρ 4 l) (pev C ρ 4 r) = some c) (hc : c = true) (k : Q' true σ) : WAll C .Or (.Compare l [op] [r] p :: xs) ρ σ Q' X :=
  wall_or (wtest_pcmp 4 h (by subst hc; exact k))
theorem p_and_t {Q' : Bool → Store → Prop} {l r : Expr} {op : CmpOp} {p : Pos} {xs : List Expr} {c : Bool} (h : pcmp op (pev C ρ 4 l) (pev C ρ 4 r) = some c) (hc : c = true) (k : WAll C .And xs ρ σ Q' X) : WAll C .And (.Compare l [op] [r] p :: xs) ρ σ Q' X :=
  wall_and (wtest_pcmp 4 h (by subst hc; exact k))
theorem p_and_f {Q' : Bool → Store → Prop} {l r : Expr} {op : CmpOp} {p : Pos} {xs : List Expr} {c : Bool} (h : pcmp op (pev C ρ 4 l) (pev C ρ 4 r) = some c) (hc : c = false) (k : Q' false σ) : WAll C .And (.Compare l [op] [r] p :: xs) ρ σ Q' X :=
  wall_and (wtest_pcmp 4 h (by subst hc; exact k))
/-- an if whose test is a comparison of ints with a known end -/
theorem p_if_t {l r : Expr} {op : CmpOp} {p pos : Pos} {b o ss : List Stmt} {c : Bool} (h : pcmp op (pev C ρ 4 l) (pev C ρ 4 r) = some c) (hc : c = true) (k : WXs C b ρ σ (KS C Qr X ss Qn) Qr X) : WXs C (.If (.Compare l [op] [r] p) b o pos :: ss) ρ σ Qn Qr X :=
  x_if (wtest_pcmp 4 h (by subst hc; exact k))
theorem p_if_f {l r : Expr} {op : CmpOp} {p pos : Pos} {b o ss : List Stmt} {c : Bool} (h : pcmp op (pev C ρ 4 l) (pev C ρ 4 r) = some c) (hc : c = false) (k : WXs C o ρ σ (KS C Qr X ss Qn) Qr X) : WXs C (.If (.Compare l [op] [r] p) b o pos :: ss) ρ σ Qn Qr X :=
  x_if (wtest_pcmp 4 h (by subst hc; exact k))
theorem b_f {c : Bool} {b o : List Stmt} (hc : c = false) (k : WXs C o ρ σ Qn Qr X) : KIf C Qr X Qn b o ρ c σ := by subst hc; exact k
/-- a call of a named thing with arguments that ask nothing -/
theorem e_call {x : Str} {np pos : Pos} {e : Expr} {es : List Expr} {f : V} {vs : List V} (hf : pev C ρ 1 (.Name x np) = some f) (hc : Callee g.K f) (hv : pevs C ρ (e :: es) = some vs) (h : WCall C f vs ρ σ Q X)
    (he : starEach (e :: es) C.env = (false, eval e C.env) :: starEach es C.env := by rfl) (hplain : (backTo pos (starEach es C.env)).any (·.1) = false := by rfl) : WE C (.Call (.Name x np) (e :: es) [] pos) ρ σ Q X :=
  we_call (we_pure 1 hf ⟨hc, wargs_pure hv h⟩) he hplain
end
end Lw

end
section
open PySem PySem.W PyProof.Rows PySem.Calls PySem.Spec
set_option maxRecDepth 100000
set_option autoImplicit false
set_option linter.unusedVariables false
namespace Lw
section
variable {g : Gl} {C : Ctx g} {ρ : Loc} {σ : Store} {Q Qr : V → Store → Prop} {Qn : Loc → Store → Prop} {X : Prop}
theorem we_neg {x : Expr} {pos : Pos} (h : WE C x ρ σ (fun v σ₁ => ∃ i, v = .int i ∧ Q (.int (-i)) σ₁) X) : WE C (.UnaryOp .USub x pos) ρ σ Q X := fun ok fz hid s Qc Ec st hQ hX => by
  show wpN _ _ _ (do let v ← eval x C.env; standAt pos; holding [v] (unaryOp .USub v)) _ _ s
  refine nBind (h ok fz hid s _ _ st (fun v u σ₁ fz₁ s₁ f1 r1 h1 st1 => ?_) hX)
  obtain ⟨i, rfl, h2⟩ := h1
  first | refine r1.raw_e ?_ | refine r1.ref_e ?_ | refine r1.int_e fun _ => ?_ | refine r1.bytes_e fun _ => ?_ | refine r1.bool_e ?_ | refine r1.none_e ?_ | refine r1.text_e fun _ _ _ => ?_ | refine r1.nil_e ?_
  exact nBind (nStand (nHold (.any (PyProof.Rows.neg_int (hQ _ _ _ _ _ f1 (.int _ _) h2 (st1.toks _))))))
end
end Lw

end
section
open PySem PySem.W PyProof.Rows PySem.Calls PySem.Spec
set_option maxRecDepth 100000
set_option autoImplicit false
set_option linter.unusedVariables false
namespace Lw
theorem beqT {i j : Int} (h : i = j) : (i == j) = true := by simpa using h
theorem beqF {i j : Int} (h : i ≠ j) : (i == j) = false := by simpa using h
theorem bneT {i j : Int} (h : i ≠ j) : (i != j) = true := by simpa using h
theorem bneF {i j : Int} (h : i = j) : (i != j) = false := by simpa using h
section
variable {prog : Program} {w : World} {A : Around} {E : Value → Shared → Prop} {s : Shared}
theorem tail_swap {value slice : Expr} {x : Str} {pos : Pos} {o i : Value} {Q : Value → Shared → Prop} (h : wpAny (model prog w) A (subscriptTail (.Name x pos) slice o i) Q E s) : wpAny (model prog w) A (subscriptTail value slice o i) Q E s := fun Γ p hΓ => by
  have h1 := h Γ p hΓ
  unfold subscriptTail at h1 ⊢
  rw [Sem.wp_bind'] at h1 ⊢
  refine Sem.wp_mono _ Γ _ (fun g p' s' h' => ?_) (fun _ _ _ h' => h') p s h1
  rw [Sem.wp_bind'] at h' ⊢
  refine Sem.wp_mono _ Γ _ (fun r p'' s'' h'' => ?_) (fun _ _ _ h' => h') p' s' h'
  have h3 : Q r s'' := h''
  have h4 : wpAny (model prog w) A (letTemporaryGo value o r) (fun _ s' => wpAny (model prog w) A (pure r) Q E s') E s'' := wpAny_letTemporaryGo (wpAny_pure h3)
  exact (wpAny_bind h4) Γ p'' hΓ
end
section
variable {g : Gl} {C : Ctx g} {ρ : Loc} {σ : Store} {Q Qr : V → Store → Prop} {Qn : Loc → Store → Prop} {X : Prop}
theorem we_slice_listA {value : Expr} {hi : Expr} {sp pos : Pos}
    (h : WE C value ρ σ (fun a σ₁ => WE C hi ρ σ₁ (fun u σ₂ => ∃ vs j, IsLst σ₂ a vs ∧ u = .int j ∧ 0 ≤ j ∧ vs.length ≤ 1000000 ∧ ∀ x, σ₂ x = none → Q (.ref x) (σ₂.set x (.list (vs.take j.toNat)))) X) X)
    (hsub : ∀ (x a : Addr), subscripted (.Slice none (some hi) none sp) false (.ref x) (.ref a) = operate [.ref a, .ref x] (getItem (.ref x) (.ref a)) := by intro _ _; with_unfolding_all rfl) :
    WE C (.Subscript value (.Slice none (some hi) none sp) pos) ρ σ Q X := fun ok fz hid s Qc Ec st hQ hX => by
  refine nSubscript (h ok fz hid s _ Ec st (fun v u σ₁ fz₁ s₁ f1 r1 h1 st1 => nSlice (.any (evalPart_none_step (h1 ok fz₁ hid s₁ _ Ec st1 (fun v2 u2 σ₂ fz₂ s₂ f2 r2 h2 st2 => ?_) hX)))) hX)
  obtain ⟨vs, j, hi', rfl, hj, hlen, hq⟩ := h2
  first | refine r2.raw_e ?_ | refine r2.ref_e ?_ | refine r2.int_e fun _ => ?_ | refine r2.bytes_e fun _ => ?_ | refine r2.bool_e ?_ | refine r2.none_e ?_ | refine r2.text_e fun _ _ _ => ?_ | refine r2.nil_e ?_
  refine st2.lst_e hi' (r1.mono f2) fun x ws n hx hr _ => ?_
  have st2' := st2
  refine st2.op7 fun m news F N lc ow sg sd so => ?_
  refine .any (tail_swap (x := "x") (pos := pos) (slice_list F N (isList_of hx) .none (.int _ _) (fun h' F' N' => ?_) (hsub _ _) (by intro _; rfl) (by rw [List.size_toArray, hr.length, sizeLine_eq]; lia)))
  have hn : ∀ p ∈ news, p.1 ≠ s₂.heap.objs.size + 1 := fun p hp => Nat.ne_of_lt (Nat.lt_succ_of_lt (Heap.lt_size (N p hp).1))
  have nσ : σ₂ (s₂.heap.objs.size + 1) = none := by
    cases q : σ₂ (s₂.heap.objs.size + 1) with
    | none => rfl
    | some o => obtain ⟨o2, hm⟩ := objIn_addr (ow.sto _ o q); exact absurd rfl (hn _ hm)
  have epick : slicePick ws.toArray none (some j) none = (ws.take j.toNat).toArray := by
    have ey : j = (j.toNat : Int) := by lia
    rw [ey, slicePick_upto' ws.toArray j.toNat]
    simp [← ey]
  refine hQ _ _ _ _ _ (subTrans f1 f2) (.ref _) (hq _ nσ) ⟨⟨m, _, F', N', lc, ow.add hn rfl ⟨ws.take j.toNat, 0, ?_, hr.take _⟩⟩, sg, sd, so⟩
  rw [epick]
  exact .head _
end
end Lw

end
section
open PySem PySem.W PyProof.Rows PySem.Calls PySem.Spec PySem.SeqAt
set_option maxRecDepth 100000
set_option autoImplicit false
set_option linter.unusedVariables false
namespace Lw
theorem eqAt_bytes {A : Around} {s : Shared} (b : List UInt8) (t u : Tok) : EqAt A s (.bytes b.toArray t) (.bytes b.toArray u) true := fun prog w E Q h => by
  unfold eqBool
  refine wpAny_holding ?_
  refine wpAny_ite_split (fun _ => wpAny_bind (wpAny_rule (wpAny_pure h))) (fun _ => ?_)
  refine wpAny_bind (eq_bytes ?_)
  have e : (b.toArray.toList == b.toArray.toList) = true := beq_self_eq_true _
  rw [e]
  exact wpAny_truthy_bool h
/-- plain data, no deeper than n -/
noncomputable def dat : Nat → V → Bool
  | _, .int _ => true
  | _, .bool _ => true
  | _, .bytes _ => true
  | n + 1, .tup vs => vs.all (dat n)
  | n + 1, .lst vs => vs.all (dat n)
  | _, _ => false
theorem Reps.getBoth {fz : Led} {vs : List V} {ws : List Value} (h : Reps fz vs ws) (j : Nat) (hj : j < ws.length) : ∃ v, vs[j]? = some v ∧ Rep fz v ws[j] := by
  have h1 : j < vs.length := h.length ▸ hj
  obtain ⟨w, h2, h3⟩ := h.get (List.getElem?_eq_getElem h1)
  rw [List.getElem?_eq_getElem hj] at h2
  exact ⟨_, List.getElem?_eq_getElem h1, Option.some.inj h2 ▸ h3⟩
theorem all_true : ∀ l : List Nat, l.all (fun _ => true) = true
  | [] => rfl
  | _ :: r => all_true r
theorem Reps.each {fz : Led} {vs : List V} {ws us : List Value} {A : Around} {s : Shared} {p : V → Bool} (r1 : Reps fz vs ws) (r2 : Reps fz vs us) (h : vs.all p = true) (k : ∀ v a b, p v = true → Rep fz v a → Rep fz v b → EqAt A s a b true)
    (j : Nat) (h1 : j < ws.toArray.size) (h2 : j < us.toArray.size) : EqAt A s ws.toArray[j] us.toArray[j] true := by
  obtain ⟨v1, e1, q1⟩ := r1.getBoth j h1
  obtain ⟨v2, e2, q2⟩ := r2.getBoth j h2
  have e : v2 = v1 := Option.some.inj (e2.symm.trans e1)
  exact k v1 _ _ (List.all_eq_true.mp h _ (List.mem_of_getElem? e1)) q1 (e ▸ q2)
theorem eqAt_flat {fz : Led} {s : Shared} {A : Around} {v : V} {a b : Value} (h : dat 0 v = true) (ha : Rep fz v a) (hb : Rep fz v b) : EqAt A s a b true := by
  cases v with
  | int i => exact ha.int_e (P := fun a => EqAt A s a b true) fun t => hb.int_e (P := fun b => EqAt A s (.int i t) b true) fun u => (beq_self_eq_true i) ▸ EqAt.int_int (A := A) (s := s) i t i u
  | bool i => exact ha.bool_e (P := fun a => EqAt A s a b true) (hb.bool_e (P := fun b => EqAt A s (.bool i) b true) (EqAt.same _))
  | bytes i => exact ha.bytes_e (P := fun a => EqAt A s a b true) fun t => hb.bytes_e (P := fun b => EqAt A s (.bytes i.toArray t) b true) fun u => eqAt_bytes _ _ _
  | _ => exact absurd h Bool.false_ne_true
theorem eqAt_dat {fz : Led} {s : Shared} (hf : ∀ p ∈ fz, s.heap.get? p.1 = some p.2) : ∀ (n : Nat) (A : Around) (v : V) (a b : Value), dat n v = true → Rep fz v a → Rep fz v b → A.units + n < cLine → EqAt A s a b true := by
  intro n
  induction n with
  | zero => exact fun A v a b h ha hb _ => eqAt_flat h ha hb
  | succ n ih =>
    intro A v a b h ha hb hu
    cases v with
    | int i => exact eqAt_flat (v := .int i) rfl ha hb
    | bool i => exact eqAt_flat (v := .bool i) rfl ha hb
    | bytes i => exact eqAt_flat (v := .bytes i) rfl ha hb
    | tup vs =>
      refine ha.tup_e fun ws x m1 r1 => hb.tup_e fun us y m2 r2 => ?_
      by_cases e : x = y
      · exact e ▸ EqAt.same _
      · have el : ws.toArray.size = us.toArray.size := r1.length.trans r2.length.symm
        have key := RcAt.tuples (A := A) (e := fun _ => true) ⟨_, hf _ m1, rfl, 0, rfl⟩ ⟨_, hf _ m2, rfl, 0, rfl⟩ (by lia) (r1.each r2 (p := dat n) h fun v a b h1 h2 h3 => ih A.in1 v a b h1 h2 h3 (by show A.units + 1 + n < cLine; lia))
        rw [all_true, el, beq_self_eq_true] at key
        exact EqAt.of_refs e key
    | lst vs =>
      refine ha.lst_e fun ws x n1 m1 r1 => hb.lst_e fun us y n2 m2 r2 => ?_
      by_cases e : x = y
      · exact e ▸ EqAt.same _
      · have key := RcAt.lists (A := A) (e := fun _ => true) ⟨_, hf _ m1, rfl, _, rfl⟩ ⟨_, hf _ m2, rfl, _, rfl⟩ (r1.length.trans r2.length.symm) (by lia) (r1.each r2 (p := dat n) h fun v a b h1 h2 h3 => ih A.in1 v a b h1 h2 h3 (by show A.units + 1 + n < cLine; lia))
        rw [all_true] at key
        exact EqAt.of_refs e key
    | _ => exact absurd h Bool.false_ne_true
section
variable {g : Gl} {C : Ctx g} {ρ : Loc} {σ : Store} {Q Qr : V → Store → Prop} {Qn : Loc → Store → Prop} {X : Prop}
theorem wcmp_same_ne {n : Nat} {vs : List V} (room : C.Room 1) (hd : vs.all (dat n) = true) (hn : n ≤ 8) (h : Q (.bool false) σ) : WCmp C .NotEq (.tup vs) (.tup vs) ρ σ Q X := fun ok fz hid v w hv hw s Qc Ec st hQ hX => by
  have st0 := st
  refine st.op fun m news F N l ow => ?_
  have hf : ∀ p ∈ fz, s.heap.get? p.1 = some p.2 := fun p hp => (N p (ow.inF p hp)).1
  have hu := room.2
  refine hv.tup_e fun ws x m1 r1 => hw.tup_e fun us y m2 r2 => ?_
  have el : ws.toArray.size = us.toArray.size := r1.length.trans r2.length.symm
  have key := RcNeAt.tuples (A := C.A) (e := fun _ => true) ⟨_, hf _ m1, rfl, 0, rfl⟩ ⟨_, hf _ m2, rfl, 0, rfl⟩ (by lia) (r1.each r2 (p := dat n) hd fun v a b h1 h2 h3 => eqAt_dat hf n C.A.in1 v a b h1 h2 h3 (by show C.A.units + 1 + n < cLine; lia))
  rw [all_true, el, beq_self_eq_true] at key
  exact .any (key g.prog g.w Ec Qc (hQ _ _ _ _ _ (subRefl fz) (.bool false) h st0))
end
end Lw

end
section
open PySem PySem.W PyProof.Rows PySem.Calls PySem.Spec
set_option maxRecDepth 100000
set_option autoImplicit false
set_option linter.unusedVariables false
namespace Lw
theorem Own.perm {σ : Store} {fz hid hid' news : Led} (h : Own σ fz hid news) (p : hid'.Perm hid) : Own σ fz hid' news :=
  ⟨h.nd, h.inF, fun q hq => h.inH q (p.mem_iff.mp hq), h.sto, fun a o e q hq => h.ap a o e q (hq.imp id p.mem_iff.mp), h.own, fun q hq r hr => h.fh q hq r (p.mem_iff.mp hr), (p.map _).nodup_iff.mpr h.hn⟩
section
variable {g : Gl} {C : Ctx g} {ρ : Loc} {σ : Store} {Q Qr : V → Store → Prop} {Qn : Loc → Store → Prop} {X : Prop}
theorem St.perm {fz hid hid' : Led} {s : Shared} (st : St C ρ σ fz hid s) (p : hid'.Perm hid) : St C ρ σ fz hid' s := by
  refine st.op7 fun m news F N l ow a b c => ?_
  exact ⟨⟨m, news, F, N, l, ow.perm p⟩, a, b, c⟩
theorem St.getAny {fz hid : Led} {s : Shared} {p : Addr × Obj} (st : St C ρ σ fz hid s) (hp : p ∈ hid) : s.heap.get? p.1 = some p.2 := by
  refine st.op7 fun m news F N l ow a b c => ?_
  exact (N _ (ow.inH _ hp)).1
/-- an iterator that is stepped through -/
structure ItOk (C : Ctx g) (ρ : Loc) (σ₁ : Store) (fz₁ : Led) (it : Addr) (vs : List V) (ItO : Nat → Obj → Prop) : Prop where
  next : ∀ i v, vs[i]? = some v → ∀ σ fz hid o s Q E, Store.Le σ₁ σ → (∀ p ∈ fz₁, p ∈ fz) → St C ρ σ fz ((it, o) :: hid) s → ItO i o → (∀ w s' o', Rep fz v w → ItO (i + 1) o' → St C ρ σ fz ((it, o') :: hid) s' → Q (some w) s') → wpAny g.M C.A (pyNext (.ref it)) Q E s
  done : ∀ σ fz hid o s Q E, Store.Le σ₁ σ → (∀ p ∈ fz₁, p ∈ fz) → St C ρ σ fz ((it, o) :: hid) s → ItO vs.length o → (∀ s', St C ρ σ fz hid s' → Q none s') → wpAny g.M C.A (pyNext (.ref it)) Q E s
  self : ∀ i σ fz hid o s Q E, St C ρ σ fz ((it, o) :: hid) s → ItO i o → Q (.ref it) s → wpAny g.M C.A (pyIter (.ref it)) Q E s
theorem itOk_list {σ₁ : Store} {fz₁ : Led} {u : V} {l it : Addr} {vs : List V} (ok : C.Ok) (hu : ∀ σ, Store.Le σ₁ σ → IsLst σ u vs) (hr : Rep fz₁ u (.ref l)) : ItOk C ρ σ₁ fz₁ it vs (fun i o => o.cls = .type "list_iterator" ∧ o.data = .fields #[.ref l, .int i 0]) where
  next := fun i v hv σ fz hid o s Q E hle hf st ho hQ => by
    have hit : s.heap.IsListIter it l i := ⟨o, st.getHid, ho.1, ho.2⟩
    obtain ⟨l', ws, n, e, hx2, hrs2⟩ := st.lst (hu _ hle) (hr.mono hf)
    cases e
    obtain ⟨w, hw, hrw⟩ := hrs2.get hv
    refine wpAny_pyNext_list_item hit (isList_of hx2) (by simpa using hw) fun h' hit' hsb => ?_
    obtain ⟨o', ho', hc', hd'⟩ := hit'
    exact hQ w _ o' hrw ⟨hc', hd'⟩ (st.turnHid (k := s.toks) hsb ho')
  done := fun σ fz hid o s Q E hle hf st ho hQ => by
    have hit : s.heap.IsListIter it l vs.length := ⟨o, st.getHid, ho.1, ho.2⟩
    obtain ⟨l', ws, n, e, hx2, hrs2⟩ := st.lst (hu _ hle) (hr.mono hf)
    cases e
    exact wpAny_pyNext_list_end ok.hh hit (isList_of hx2) (by simp [hrs2.length]) fun h' he => hQ _ (st.loseHid (k := s.toks) he)
  self := fun i σ fz hid o s Q E st ho hQ => wpAny_pyIter_listiter (l := l) (i := i) ⟨o, st.getHid, ho.1, ho.2⟩ hQ
theorem itOk_range {σ₁ : Store} {fz₁ : Led} {it : Addr} {n : Nat} (ok : C.Ok) : ItOk C ρ σ₁ fz₁ it ((List.range n).map fun i : Nat => V.int (i : Int)) (fun i o => i ≤ n ∧ o = { cls := .type "range_iterator", dict := none, data := .fields #[rawInt i, rawInt ((n : Int) - i), rawInt 1], slots := #[] }) where
  next := fun i v hv σ fz hid o s Q E hle hf st ho hQ => by
    obtain ⟨hi, rfl⟩ := ho
    have hlt : i < n := by
      have := (List.getElem?_eq_some_iff.mp hv).1
      simpa using this
    obtain rfl : V.int (i : Int) = v := by simpa [hlt] using hv
    have hit : IsRangeIter s.heap it i ((n : Int) - i) 1 := st.getHid
    refine wpAny_pyNext_range_item hit (by lia) fun h' hit' hsb => ?_
    refine hQ _ _ _ (.int _ _) ⟨hlt, rfl⟩ (st.turnHid (k := s.toks + 1) hsb ?_)
    rw [show (((i + 1 : Nat) : Int)) = (i : Int) + 1 by lia, show (n : Int) - ((i : Int) + 1) = (n : Int) - i - 1 by lia]
    exact hit'
  done := fun σ fz hid o s Q E hle hf st ho hQ => by
    obtain ⟨hi, rfl⟩ := ho
    have hit : IsRangeIter s.heap it ((((List.range n).map fun i : Nat => V.int (i : Int)).length : Nat) : Int) ((n : Int) - ((((List.range n).map fun i : Nat => V.int (i : Int)).length : Nat) : Int)) 1 := st.getHid
    exact wpAny_pyNext_range_end ok.hh hit (by simp) fun h' he => hQ _ (st.loseHid (k := s.toks) he)
  self := fun i σ fz hid o s Q E st ho hQ => by
    obtain ⟨hi, rfl⟩ := ho
    exact wpAny_pyIter_rangeiter (show IsRangeIter s.heap it i ((n : Int) - i) 1 from st.getHid) hQ
end
end Lw

end
section
open PySem PySem.W PyProof.Rows PySem.Calls PySem.Spec
set_option maxRecDepth 100000
set_option autoImplicit false
set_option linter.unusedVariables false
namespace Lw
section
variable {g : Gl} {C : Ctx g} {ρ : Loc} {σ : Store} {Q Qr : V → Store → Prop} {Qn : Loc → Store → Prop} {X : Prop}
theorem St.offC {fz hid : Led} {s : Shared} (st : St C ρ σ fz hid s) : St C.off ρ σ fz hid s := ⟨st.ex, st.gens, st.drawn, st.os⟩
theorem St.onC {fz hid : Led} {s : Shared} (st : St C.off ρ σ fz hid s) : St C ρ σ fz hid s := ⟨st.ex, st.gens, st.drawn, st.os⟩
theorem Ctx.Ok.off (ok : C.Ok) : C.off.Ok := ⟨ok.B, ok.X, ok.T, ok.hA, ok.hh, ok.hk, ok.hg⟩
noncomputable def NsO (o : Obj) (m : Str → Option Value) : Prop := ∃ es ep, o.data = .dict es ep ∧ StrKeys es ∧ ∀ name, nsFind es name = m name
theorem NsO.ns {o : Obj} {m : Str → Option Value} {h : Heap} {D : Addr} (n : NsO o m) (hD : h.get? D = some o) : h.Ns D m := by
  obtain ⟨es, ep, a, b, c⟩ := n
  exact ⟨o, es, ep, hD, a, b, c⟩
theorem NsO.of {m : Str → Option Value} {h : Heap} {D : Addr} (n : h.Ns D m) : ∃ o, h.get? D = some o ∧ NsO o m := by
  obtain ⟨o, es, ep, hD, a, b, c⟩ := n
  exact ⟨o, hD, es, ep, a, b, c⟩
/-- what is asked of a comprehension's tests, its element and what is behind it -/
noncomputable def CompTest (C : Ctx g) (ρ : Loc) (σ₁ : Store) (fz₁ hid : Led) (x : Str) (ifs : List Expr) (scope : Scope) (cl : List (Str × Addr)) (vs : List V) (p : V → Bool) : Prop :=
  ∀ v ∈ vs, ∀ σ' fz' hid' D m w s' Q E, Store.Le σ₁ σ' → (∀ q ∈ fz₁, q ∈ fz') → (∀ q ∈ hid, q ∈ hid') → St C ρ σ' fz' hid' s' → s'.heap.Ns D m → m x = some w → Rep fz' v w → (∀ k, Q (p v) { s' with toks := k }) →
        wpAny g.M C.A (forIn ifs true fun c r => if r = true then do let ok ← isTrue c (compEnvC scope cl D C.env) (eval c (compEnvC scope cl D C.env)); pure (ForInStep.yield ok) else pure (ForInStep.yield r)) Q E s'
noncomputable def CompElt (C : Ctx g) (ρ : Loc) (σ₁ : Store) (fz₁ hid : Led) (x : Str) (elt : Expr) (scope : Scope) (cl : List (Str × Addr)) (vs : List V) (p : V → Bool) (F : V → V) : Prop :=
  ∀ v ∈ vs, p v = true → ∀ σ' fz' hid' D m w s' Q E, Store.Le σ₁ σ' → (∀ q ∈ fz₁, q ∈ fz') → (∀ q ∈ hid, q ∈ hid') → St C ρ σ' fz' hid' s' → s'.heap.Ns D m → m x = some w → Rep fz' v w →
        (∀ b fz'' s'', (∀ q ∈ fz', q ∈ fz'') → Rep fz'' (F v) b → St C ρ σ' fz'' hid' s'' → Q b s'') → wpAny g.M C.A (eval elt (compEnvC scope cl D C.env)) Q E s'
noncomputable def CompFin (C : Ctx g) (ρ : Loc) (σ₁ : Store) (fz₁ hid : Led) (y : Str) (vs : List V) (p : V → Bool) (F : V → V) (Qc : Flow → Shared → Prop) : Prop :=
  ∀ D fz' s', σ₁ D = none → (∀ q ∈ fz₁, q ∈ fz') → St C (fput y (.ref D) ρ) (σ₁.set D (.list ((vs.filter p).map F))) fz' hid s' → Qc .next s'
structure CompAt (C : Ctx g) (ρ : Loc) (hid : Led) (x y : Str) (ifs : List Expr) (elt : Expr) (scope : Scope) (cl : List (Str × Addr)) (Qc : Flow → Shared → Prop) (itv : Value) (s₂ : Shared) (fz₁ : Led) (σ₁ : Store) (it : Addr) (vs : List V) (ItO : Nat → Obj → Prop) (o : Obj) (p : V → Bool) (F : V → V) : Prop where
  e : itv = .ref it
  st : St C ρ σ₁ fz₁ ((it, o) :: hid) s₂
  ho : ItO 0 o
  W : ItOk C ρ σ₁ fz₁ it vs ItO
  hlen : vs.length ≤ 1000
  htest : CompTest C ρ σ₁ fz₁ hid x ifs scope cl vs p
  helt : CompElt C ρ σ₁ fz₁ hid x elt scope cl vs p F
  hfin : CompFin C ρ σ₁ fz₁ hid y vs p F Qc
@[reducible] noncomputable def CompI (C : Ctx g) (ρ : Loc) (σ₁ : Store) (fz₁ hid : Led) (D it acc : Addr) (vs : List V) (p : V → Bool) (F : V → V) (ItO : Nat → Obj → Prop) (n : Nat) (s : Shared) : Prop :=
  ∃ i fz' o' oD' m', n = vs.length - i ∧ i ≤ vs.length ∧ (∀ q ∈ fz₁, q ∈ fz') ∧ ItO i o' ∧ NsO oD' m' ∧ St C ρ (σ₁.set acc (.list (((vs.take i).filter p).map F))) fz' ((D, oD') :: (it, o') :: hid) s
theorem comp_raw {fz hid : Led} {s : Shared} {elt iter : Expr} {x y : Str} {px py : Pos} {ifs : List Expr} {scope : Scope} {cpos pos : Pos} {cl : List (Str × Addr)} {Qc : Flow → Shared → Prop} {Ec : Value → Shared → Prop} (ok : C.Ok)
    (h : wpAny g.M C.A (eval iter C.env) (fun xv s₁ => wpAny g.M C.A (pyIter xv) (fun itv s₂ => ∃ (fz₁ : Led) (σ₁ : Store) (it : Addr) (vs : List V) (ItO : Nat → Obj → Prop) (o : Obj) (p : V → Bool) (F : V → V),
      CompAt C ρ hid x y ifs elt scope cl Qc itv s₂ fz₁ σ₁ it vs ItO o p F) Ec s₁) Ec s)
    (hsw : swapsWith (.ListComp elt [⟨.Name x px, iter, ifs, 0⟩] scope cpos) (some (.Name y py)) pos.line C.env = pure true)
    (hclos : closureFor scope C.env = pure cl) (hcell : ∀ z ∈ scope.names, z.2 ≠ .cell) (hkind : scope.kind = .function)
    (hnames : ∀ z ∈ scope.names, z.2 = .local → scope.names.lookup z.1 = some .local) (hx : scope.names.lookup x = some .local) (hy : C.env.kindOf y = some .local)
    (hs : ∀ x, foldedSetIterable iter C.env x = pure x) :
    wpAny g.M C.A (exec (.Assign [.Name y py] (.ListComp elt [⟨.Name x px, iter, ifs, 0⟩] scope cpos) pos) C.env) Qc Ec s := by
  rw [exec_Assign_Name_used _ _ _ _ hsw]
  refine wpAny_bind (wpAny_standAt (wpAny_bind ?_))
  show wpAny _ C.A (do let _ ← comprehension (.ListComp elt [⟨.Name x px, iter, ifs, 0⟩] scope cpos) scope C.env _ (newList []) false (eval iter C.env) (some (assign (.Name y py) C.env))) _ _ s
  refine wpAny_bind (wpAny_mono (wpAny_comprehension_free (use := some (assign (.Name y py) C.env)) (Q := fun _ s' => Qc .next s') rfl hs hclos hkind hnames
    (wpAny_mono h (fun xv s₁ h₁ => wpAny_mono h₁ (fun itv s₂ h₂ => ?_) fun _ _ e => e) fun _ _ e => e)) (fun _ s' hq => wpAny_pure (wpAny_pure hq)) fun _ _ e => e)
  refine Ex4 h₂ fun fz₁ σ₁ it vs h => Ex4 h fun ItO o p F h => ?_
  clear h₂
  obtain ⟨rfl, st2, ho, W, hlen, htest, helt, hfin⟩ := h
  refine wpAny_newObj_type (wpAny_newFunctionEnv hcell (by intro y hy; simp at hy) (fun h₁ hns₁ hsb₁ => ?_) hkind)
  dsimp only at hns₁ hsb₁ ⊢
  obtain ⟨stA, nacc⟩ := st2.pushList (vs := []) (ws := []) .nil
  generalize hacc : s₂.heap.objs.size = acc at stA nacc hns₁ hsb₁ ⊢
  have stB := stA.pushHid { cls := .type "dict", data := .dict #[] }
  have hns₁' := hns₁
  obtain ⟨oD, hoD, nD⟩ := NsO.of hns₁'
  have stC := stB.turnHid (k := s₂.toks + ([] : List (Str × Value)).length) hsb₁ hoD
  generalize hDD : ({ s₂ with heap := s₂.heap.push (listOf ([] : List Value).toArray 0) } : Shared).heap.objs.size = D at stC hoD
  have main : ∀ s₃ m₃, St C ρ (σ₁.set acc (.list [])) fz₁ ((D, oD) :: (it, o) :: hid) s₃ → NsO oD m₃ →
      codeAny g.M C.A (.compLoop (.ListComp elt [⟨.Name x px, iter, ifs, 0⟩] scope cpos) 0 (.ref it) (.ref acc) (compEnvC scope cl D C.env))
        (compPost g.M C.A Ec (some (assign (.Name y py) C.env)) (fun _ s' => Qc .next s') (.ref acc) D) s₃ := by
    intro s₃ m₃ st3 n3
    refine codeAny_compLoop_tests (CompI C ρ σ₁ fz₁ hid D it acc vs p F ItO) ?_ _ ⟨0, fz₁, o, oD, m₃, rfl, Nat.zero_le _, fun _ q => q, ho, n3, st3⟩
    intro n s hI
    refine Ex5 hI fun i fz' o' oD' m' h => An6 h fun en hi hf ho' hn' st => ?_
    clear h hI
    subst en
    have hle : ∀ l, Store.Le σ₁ (σ₁.set acc l) := fun l => Store.le_set nacc l
    have hout : (((vs.take i).filter p).map F).length ≤ 1000 := by
      rw [List.length_map]
      have h1 := List.length_filter_le p (vs.take i)
      have h2 := List.length_take_le' i vs
      lia
    cases hv : vs[i]? with
    | some v =>
      have hmem := List.mem_of_getElem? hv
      have hlt : i < vs.length := (List.getElem?_eq_some_iff.mp hv).1
      refine W.next i v hv _ fz' _ o' s _ _ (hle _) hf (st.perm (List.Perm.swap ..)) ho' fun w s' o'' hrw ho'' st' => ?_
      have st' := st'.perm (List.Perm.swap (it, o'') (D, oD') hid)
      have hidm : ∀ oD'' : Obj, ∀ q ∈ hid, q ∈ (D, oD'') :: (it, o'') :: hid := fun _ q hq => .tail _ (.tail _ hq)
      refine wpAny_assign_Name (wpAny_storeName_local (env := compEnvC scope cl D C.env) (lookup_relabel_local hx) (hn'.ns st'.getHid) (fun h' hn'' hs' => ?_) (by show ((relabel scope C.env).kind == .class || ((relabel scope C.env).kind == .module && _)) = false; rw [show (relabel scope C.env).kind = scope.kind from rfl, hkind]; rfl))
      obtain ⟨oD2, hoD2, nD2⟩ := NsO.of hn''
      have st2' := st'.turnHid (k := s'.toks + 1) hs' hoD2
      have nD2' := nD2.ns (h := h') hoD2
      refine htest v hmem _ fz' _ D _ w _ _ _ (hle _) hf (hidm oD2) st2' nD2' (if_pos rfl) hrw fun k => ?_
      have htk := take_succ_filter p vs i v hv
      cases hpv : p v with
      | false =>
        rw [hpv] at htk
        refine (if_neg (by decide)).mpr ?_
        refine ⟨vs.length - (i + 1), by lia, i + 1, fz', o'', oD2, _, rfl, by lia, hf, ho'', nD2, ?_⟩
        rw [htk]
        simpa using st2'.toks k
      | true =>
        rw [hpv] at htk
        refine (if_pos rfl).mpr ?_
        refine helt v hmem hpv _ fz' _ D _ w _ _ _ (hle _) hf (hidm oD2) (st2'.toks k) nD2' (if_pos rfl) hrw fun b fz'' s3 hsub hrb st3' => ?_
        have := (wcall_append (C := C.off) (ρ := ρ) (Q := fun u σ' => u = .none ∧ σ' = (σ₁.set acc (.list (((vs.take i).filter p).map F))).set acc (.list (((vs.take i).filter p).map F ++ [F v]))) (X := False) (Store.set_self ..) (by lia) ⟨rfl, rfl⟩) ok.off fz'' _ (.builtin "list.append") [.ref acc, b] (.raw _) (.cons (.ref _) (.cons hrb .nil)) s3
          (fun _ s5 => ∃ m, m < vs.length - i ∧ CompI C ρ σ₁ fz₁ hid D it acc vs p F ItO m s5) (notedBy g.M C.A (compEnvC scope cl D C.env) fun e s' => compPost g.M C.A Ec (some (assign (.Name y py) C.env)) (fun _ s' => Qc .next s') (.ref acc) D (.error e) s') st3'.offC
          (fun u uu σ' fz3 s5 hs3 hr3 hq st5 => by
            obtain ⟨rfl, rfl⟩ := hq
            refine ⟨vs.length - (i + 1), by lia, i + 1, fz3, o'', oD2, _, rfl, by lia, fun q hq => hs3 _ (hsub _ (hf _ hq)), ho'', nD2, ?_⟩
            rw [htk, List.map_append]
            rw [Store.set_set] at st5
            exact st5.onC) (fun f => f.elim)
        exact this.toAny
    | none =>
      have hie : i = vs.length := by
        have := List.getElem?_eq_none_iff.mp hv
        lia
      subst hie
      refine W.done _ fz' _ o' s _ _ (hle _) hf (st.perm (List.Perm.swap ..)) ho' fun s' st' => ?_
      rw [List.take_length] at st'
      show wpAny g.M C.A (assign (.Name y py) C.env (.ref acc)) (fun _ s'' => ∃ m, s''.heap.Ns D m ∧ ∀ h', Heap.SameBut D s''.heap h' → Qc .next { s'' with heap := h' }) Ec s'
      refine wpAny_assign_Name (wpN.toAny (St.store (C := C.off) st'.offC ok.off (x := y) (u := .ref acc) (.ref _) (fun s'' st'' => ?_) hy))
      exact ⟨_, hn'.ns st''.getHid, fun h' hs' => hfin acc fz' _ nacc hf (st''.onC.loseHid (k := s''.toks) hs'.extBut)⟩
  subst hDD
  refine codeAny_compStart_list (main _ _ stC nD) (W.self 0 _ fz₁ _ o _ _ _ (stC.perm (List.Perm.swap ..)) ho (main _ _ stC nD))
end
end Lw

end
section
open PySem PySem.W PyProof.Rows PySem.Calls PySem.Spec
set_option maxRecDepth 100000
set_option autoImplicit false
set_option linter.unusedVariables false
namespace Lw
section
variable {g : Gl} {C : Ctx g} {ρ : Loc} {σ : Store} {Q Qr : V → Store → Prop} {Qn : Loc → Store → Prop} {X : Prop}
/-- what a comprehension may run over -/
inductive Src (σ₁ : Store) : V → List V → Prop where
  | lst {u : V} {vs : List V} : (∀ σ, Store.Le σ₁ σ → IsLst σ u vs) → Src σ₁ u vs
  | rng (n : Nat) : n < 2 ^ 62 → Src σ₁ (.rng 0 n 1) ((List.range n).map fun i : Nat => V.int (i : Int))
theorem comp_st {fz hid : Led} {s : Shared} {elt iter : Expr} {x y : Str} {px py : Pos} {ifs : List Expr} {scope : Scope} {cpos pos : Pos} {cl : List (Str × Addr)} {Qc : Flow → Shared → Prop} {Ec : Value → Shared → Prop} (ok : C.Ok) (st : St C ρ σ fz hid s)
    (h : WE C.off iter ρ σ (fun u σ₁ => ∃ (vs : List V) (p : V → Bool) (F : V → V), Src σ₁ u vs ∧ vs.length ≤ 1000 ∧
      CompTest C ρ σ₁ fz hid x ifs scope cl vs p ∧ CompElt C ρ σ₁ fz hid x elt scope cl vs p F ∧ CompFin C ρ σ₁ fz hid y vs p F Qc) False)
    (hsw : swapsWith (.ListComp elt [⟨.Name x px, iter, ifs, 0⟩] scope cpos) (some (.Name y py)) pos.line C.env = pure true)
    (hclos : closureFor scope C.env = pure cl) (hcell : ∀ z ∈ scope.names, z.2 ≠ .cell) (hkind : scope.kind = .function)
    (hnames : ∀ z ∈ scope.names, z.2 = .local → scope.names.lookup z.1 = some .local) (hx : scope.names.lookup x = some .local) (hy : C.env.kindOf y = some .local)
    (hs : ∀ x, foldedSetIterable iter C.env x = pure x) :
    wpAny g.M C.A (exec (.Assign [.Name y py] (.ListComp elt [⟨.Name x px, iter, ifs, 0⟩] scope cpos) pos) C.env) Qc Ec s := by
  refine comp_raw (ρ := ρ) (fz := fz) (hid := hid) ok ?_ hsw hclos hcell hkind hnames hx hy hs
  refine wpN.toAny (h ok.off fz hid s _ _ st.offC (fun v u σ₁ fz₁ s₁ f1 r1 hq st1 => ?_) fun f => f.elim)
  refine Ex3 hq fun vs p F h => An5 h fun src hlen htest helt hfin => ?_
  clear hq h
  have st1 := st1.onC
  cases src with
  | lst hu =>
    obtain ⟨l, ws, n, e, hx', hrs⟩ := st1.lst (hu _ fun _ _ h => h) r1
    subst e
    refine wpAny_pyIter_list (isList_of hx') ?_
    refine ⟨fz₁, σ₁, s₁.heap.objs.size, vs, _, _, p, F, rfl, st1.pushHid _ rfl, ?_, itOk_list ok hu r1, hlen, ?_, ?_, ?_⟩
    · exact ⟨rfl, rfl⟩
    · exact fun v hv σ' fz' hid' D m w s' Q E a b => htest v hv σ' fz' hid' D m w s' Q E a (subTrans f1 b)
    · exact fun v hv hp σ' fz' hid' D m w s' Q E a b => helt v hv hp σ' fz' hid' D m w s' Q E a (subTrans f1 b)
    · exact fun D fz' s' a b => hfin D fz' s' a (subTrans f1 b)
  | rng n hn =>
    refine r1.rng_e fun t1 t2 t3 r hm => ?_
    have hx' : IsRange s₁.heap r 0 n 1 t1 t2 t3 := by
      refine st1.op fun m news F N l ow => ?_
      exact (N _ (ow.inF _ hm)).1
    refine wpAny_pyIter_range hx' (small_one (by decide) (by decide) (by lia) (by lia)) ?_
    refine ⟨fz₁, σ₁, s₁.heap.objs.size, _, _, _, p, F, rfl, st1.pushHid _ rfl, ?_, itOk_range ok, hlen, ?_, ?_, ?_⟩
    · refine ⟨Nat.zero_le _, ?_⟩
      rw [show Builtin.Range.rangeSize 0 n 1 = (n : Int) - ((0 : Nat) : Int) by unfold Builtin.Range.rangeSize; simp; lia]
      rfl
    · exact fun v hv σ' fz' hid' D m w s' Q E a b => htest v hv σ' fz' hid' D m w s' Q E a (subTrans f1 b)
    · exact fun v hv hp σ' fz' hid' D m w s' Q E a b => helt v hv hp σ' fz' hid' D m w s' Q E a (subTrans f1 b)
    · exact fun D fz' s' a b => hfin D fz' s' a (subTrans f1 b)
/-- without tests -/
theorem tests_nil {env : Env} {A : Around} {s' : Shared} {Q : Bool → Shared → Prop} {E : Value → Shared → Prop} (h : ∀ k, Q true { s' with toks := k }) :
    wpAny g.M A (forIn ([] : List Expr) true fun c r => if r = true then do let ok ← isTrue c env (eval c env); pure (ForInStep.yield ok) else pure (ForInStep.yield r)) Q E s' :=
  wpAny_tests_nil (h s'.toks)
/-- what is asked of the element of a comprehension without tests -/
noncomputable def CompW (C : Ctx g) (ρ : Loc) (σ₁ : Store) (x : Str) (elt : Expr) (scope : Scope) (vs : List V) (F : V → V) : Prop :=
  C.Ok → ∀ v ∈ vs, ∀ σ' fz' hid' D m w s' Q E, Store.Le σ₁ σ' → St C ρ σ' fz' hid' s' → s'.heap.Ns D m → m x = some w → Rep fz' v w →
        (∀ b fz'' s'', (∀ q ∈ fz', q ∈ fz'') → Rep fz'' (F v) b → St C ρ σ' fz'' hid' s'' → Q b s'') → wpAny g.M C.A (eval elt (compEnvC scope [] D C.env)) Q E s'
theorem wx_comp {elt iter : Expr} {x y : Str} {px py : Pos} {scope : Scope} {cpos pos : Pos}
    (h : WE C.off iter ρ σ (fun u σ₁ => ∃ (vs : List V) (F : V → V), Src σ₁ u vs ∧ vs.length ≤ 1000 ∧
      CompW C ρ σ₁ x elt scope vs F ∧
      (∀ D, σ₁ D = none → Qn (fput y (.ref D) ρ) (σ₁.set D (.list (vs.map F))))) False)
    (hsw : swapsWith (.ListComp elt [⟨.Name x px, iter, [], 0⟩] scope cpos) (some (.Name y py)) pos.line C.env = pure true := by rfl)
    (hclos : closureFor scope C.env = pure [] := by rfl) (hcell : ∀ z ∈ scope.names, z.2 ≠ .cell := by decide) (hkind : scope.kind = .function := by rfl)
    (hnames : ∀ z ∈ scope.names, z.2 = .local → scope.names.lookup z.1 = some .local := by decide) (hx : scope.names.lookup x = some .local := by rfl) (hy : C.env.kindOf y = some .local := by rfl)
    (hs : ∀ x, foldedSetIterable iter C.env x = pure x := by intro _; rfl) :
    WX C (.Assign [.Name y py] (.ListComp elt [⟨.Name x px, iter, [], 0⟩] scope cpos) pos) ρ σ Qn Qr X := fun ok fz hid s Qc Ec st hn hr hX => by
  refine .any (comp_st ok st (h.mono (fun u σ₁ hq => ?_) fun x => x) hsw hclos hcell hkind hnames hx hy hs)
  obtain ⟨vs, F, src, hlen, helt, hfin⟩ := hq
  refine ⟨vs, fun _ => true, F, src, hlen, fun v hv σ' fz' hid' D m w s' Q E _ _ _ _ _ _ _ hq => tests_nil hq, fun v hv _ σ' fz' hid' D m w s' Q E a _ _ st' hns hm hr hq => helt ok v hv σ' fz' hid' D m w s' Q E a st' hns hm hr hq, fun D fz' s' a b st' => ?_⟩
  rw [show vs.filter (fun _ => true) = vs from by simp] at st'
  exact hn _ _ _ _ b (hfin D a) st'
end
end Lw

end
section
set_option autoImplicit false
namespace Lw
/-- the law's own reading of a number -/
noncomputable def ln (b : List UInt8) : Nat → Nat → Nat → Nat → Option (Nat × Nat)
  | 0, _, _, _ => none
  | f + 1, p, n, sc => if p ≥ b.length then none else
    let o := (b.getD p 0).toNat
    let n' := n + o % 128 * sc
    if o < 128 then some (n', p + 1) else ln b f (p + 1) n' (sc * 128)
noncomputable def LN (b : List UInt8) (p most : Nat) : Option (Nat × Nat) := ln b most p 0 1
theorem ln_bounds {b : List UInt8} : ∀ {k p n sc m q : Nat}, ln b k p n sc = some (m, q) → p < q ∧ q ≤ b.length ∧ q ≤ p + k
  | 0, p, n, sc, m, q, h => by cases h
  | k + 1, p, n, sc, m, q, h => by
    rw [ln] at h
    split at h
    · cases h
    · dsimp only at h
      split at h
      · cases h; lia
      · have := ln_bounds h; lia
theorem LN_bounds {b : List UInt8} {p k m q : Nat} (h : LN b p k = some (m, q)) : p < q ∧ q ≤ b.length ∧ q ≤ p + k := ln_bounds h
noncomputable def lastGe (out : List Nat) (n : Nat) : Bool := match out.getLast? with
  | some l => decide (n ≤ l)
  | none => false
theorem lastGe_nil {n : Nat} : lastGe [] n = false := rfl
theorem lastGe_snoc {L : List Nat} {l n : Nat} : lastGe (L ++ [l]) n = decide (n ≤ l) := by simp [lastGe]
/-- k ids, each above the one before it, as the law reads them -/
noncomputable def LTI (b : List UInt8) : Nat → Nat → List Nat → Option (List Nat × Nat)
  | 0, p, out => some (out, p)
  | k + 1, p, out => match LN b p 10 with
    | none => none
    | some (n, q) => if lastGe out n = true then none else LTI b k q (out ++ [n])
noncomputable def LIDS (b : List UInt8) (p : Nat) : Option (List Nat × Nat) := match LN b p 10 with
  | none => none
  | some (n, q) => LTI b n q []
noncomputable def LPs (b : List UInt8) : Nat → Nat → List (List Nat) → Option (List (List Nat) × Nat)
  | 0, p, out => some (out, p)
  | k + 1, p, out => match LIDS b p with
    | none => none
    | some (ids, q) => LPs b k q (out ++ [ids])
noncomputable def LM (b : List UInt8) : Option (List (List Nat) × Bool) := match LPs b 4 0 [] with
  | none => none
  | some (ls, p) => if p + 1 ≠ b.length ∨ 1 < (b.getD p 0).toNat then none else some (ls, (b.getD p 0).toNat == 1)
inductive Row where
  | base (i t : Nat) (ls : List (List Nat)) (f : Bool)
  | hard (t v c : Nat)
  | ent (t i k : Nat) (d : List UInt8)
/-- the law's reading of a record -/
noncomputable def LRk (b : List UInt8) (k : Nat) : Option Row := if k ≠ 1 ∧ k ≠ 2 ∧ k ≠ 4 then none else match LN b 1 10 with
  | none => none
  | some (one, p) => match LN b p 10 with
    | none => none
    | some (two, p) => if k = 4 then (match LN b p 5 with
        | none => none
        | some (n, p) => if p + n ≠ b.length then none else match LM (b.drop p) with
          | none => none
          | some (ls, f) => some (.base one two ls f)) else match LN b p 10 with
      | none => none
      | some (three, p) => if k = 1 then (if p ≠ b.length then none else some (.hard one two three)) else match LN b p 5 with
        | none => none
        | some (n, p) => if p + n ≠ b.length then none else if three ≠ 0 ∧ three ≠ 2 then none else some (.ent one two three (b.drop p))
noncomputable def LR (b : List UInt8) : Option Row := if b.length = 0 then none else LRk b (b.getD 0 0).toNat
noncomputable def entsOk (base : Nat) : Nat → List Row → Bool
  | _, [] => true
  | last, .ent _ i _ _ :: r => if i ≤ base ∨ i > last + 1 then false else entsOk base i r
  | last, _ :: r => entsOk base last r
noncomputable def Row.kind : Row → Nat
  | .base .. => 4
  | .hard .. => 1
  | .ent .. => 2
noncomputable def Row.bi : Row → Nat
  | .base i _ _ _ => i
  | _ => 0
noncomputable def LET (rows : List Row) (new : Option Row) : Bool := match new with
  | none => false
  | some r => match rows with
    | [] => decide (r.kind = 4)
    | [_] => decide (r.kind = 1)
    | b :: _ :: _ => if r.kind ≠ 1 then decide (r.kind = 2) else entsOk b.bi b.bi rows
structure Say where
  hard : Nat × Nat × Nat
  closed : Bool
  stand : List (Nat × Nat × Nat × List UInt8)
  pending : List (Nat × Nat × Nat × List UInt8)
noncomputable def say1 (a : Say) : Row → Say
  | .hard t v c => { a with hard := if a.closed then a.hard else (t, v, c), closed := true }
  | .ent t i k d => if a.closed = false then { a with pending := (t, i, k, d) :: a.pending } else
      if (match a.stand with | [] => true | e :: _ => decide (i < e.2.1)) then { a with stand := (t, i, k, d) :: a.stand } else a
  | .base .. => a
/-- the rows behind the base, looked at from the last -/
noncomputable def SAY (rs : List Row) : Say := rs.foldr (fun r a => say1 a r) ⟨(0, 0, 0), false, [], []⟩
end Lw

end
section
open PySem PySem.W PyProof.Rows PySem.Calls PySem.Spec
set_option autoImplicit false
set_option linter.unusedVariables false
namespace Lw
noncomputable def G0 (prog : Program) (w : World) (mean : ExcName → Option Value) (mg mb : Str → Option Value) : Gl :=
  { prog := prog, w := w, K := KK w.params, p := vw, loose := looseW vw lo, mean := mean, mg := mg, mb := mb, exc := [56, 68] }
local macro_rules | `(tactic| walk_at "wst") => `(tactic| first | assumption | with_reducible exact Store.set_self .. | (with_reducible refine (Store.set_ne _ _ (by first | assumption | (apply Ne.symm; assumption))).trans ?_; walk_at "wst"))
section
variable {prog : Program} {w : World} {mean : ExcName → Option Value} {mg mb : Str → Option Value} {C : Ctx (G0 prog w mean mg mb)} {ρ : Loc} {σ : Store} {Q Qr : V → Store → Prop} {Qn : Loc → Store → Prop} {X : Prop}


/-- the octets of a number, seven bits each -/
noncomputable def lebF : Nat → Nat → List UInt8
  | 0, n => [n.toUInt8]
  | f + 1, n => if n < 128 then [n.toUInt8] else (n % 128 + 128).toUInt8 :: lebF f (n / 128)
noncomputable def leb (n : Nat) : List UInt8 := lebF n n
theorem lebF_z {n : Nat} (f : Nat) (h : n < 128) : lebF f n = [n.toUInt8] := by
  cases f with
  | zero => rfl
  | succ f => exact if_pos h
theorem lebF_eq : ∀ (f g n : Nat), n ≤ f → n ≤ g → lebF f n = lebF g n
  | 0, g, n, h, _ => by rw [lebF_z 0 (by lia), lebF_z g (by lia)]
  | f + 1, 0, n, _, h => by rw [lebF_z (f + 1) (by lia), lebF_z 0 (by lia)]
  | f + 1, g + 1, n, h, h' => by
    by_cases c : n < 128
    · rw [lebF_z _ c, lebF_z _ c]
    · exact (if_neg c).trans ((congrArg _ (lebF_eq f g (n / 128) (by lia) (by lia))).trans (if_neg c).symm)

theorem b0 {K : Frag} {fd : FuncData} (h : bindArgs fd ⟨[], []⟩ = pure []) : ∀ (fz : Led) (s : Shared) ws, Reps fz [] ws → K.In s.heap → ∃ bs, BindsTo s fd ⟨ws, []⟩ bs ∧ RepB fz [] bs := fun fz s ws hr _ => by
  cases hr
  exact ⟨_, BindsTo.of_eq h, .nil⟩
theorem b1 {K : Frag} {fd : FuncData} {x : Str} {u : V} (h : ∀ a : Value, bindArgs fd ⟨[a], []⟩ = pure [(x, a)]) : ∀ (fz : Led) (s : Shared) ws, Reps fz [u] ws → K.In s.heap → ∃ bs, BindsTo s fd ⟨ws, []⟩ bs ∧ RepB fz [(x, u)] bs := fun fz s ws hr _ => by
  obtain ⟨a, rfl, h1⟩ := hr.one
  exact ⟨_, BindsTo.of_eq (h a), .cons h1 .nil⟩
theorem b2 {K : Frag} {fd : FuncData} {x y : Str} {u v : V} (h : ∀ a b : Value, bindArgs fd ⟨[a, b], []⟩ = pure [(x, a), (y, b)]) : ∀ (fz : Led) (s : Shared) ws, Reps fz [u, v] ws → K.In s.heap → ∃ bs, BindsTo s fd ⟨ws, []⟩ bs ∧ RepB fz [(x, u), (y, v)] bs := fun fz s ws hr _ => by
  obtain ⟨a, b, rfl, h1, h2⟩ := hr.two
  exact ⟨_, BindsTo.of_eq (h a b), .cons h1 (.cons h2 .nil)⟩
theorem b3 {K : Frag} {fd : FuncData} {x y z : Str} {u v t : V} (h : ∀ a b c : Value, bindArgs fd ⟨[a, b, c], []⟩ = pure [(x, a), (y, b), (z, c)]) : ∀ (fz : Led) (s : Shared) ws, Reps fz [u, v, t] ws → K.In s.heap → ∃ bs, BindsTo s fd ⟨ws, []⟩ bs ∧ RepB fz [(x, u), (y, v), (z, t)] bs := fun fz s ws hr _ => by
  obtain ⟨a, b, c, rfl, h1, h2, h3⟩ := hr.three
  exact ⟨_, BindsTo.of_eq (h a b c), .cons h1 (.cons h2 (.cons h3 .nil))⟩
theorem b4 {K : Frag} {fd : FuncData} {x y z p : Str} {u v t q : V} (h : ∀ a b c d : Value, bindArgs fd ⟨[a, b, c, d], []⟩ = pure [(x, a), (y, b), (z, c), (p, d)]) : ∀ (fz : Led) (s : Shared) ws, Reps fz [u, v, t, q] ws → K.In s.heap → ∃ bs, BindsTo s fd ⟨ws, []⟩ bs ∧ RepB fz [(x, u), (y, v), (z, t), (p, q)] bs := fun fz s ws hr _ => by
  cases hr with
  | cons h0 hr =>
  obtain ⟨a, b, c, rfl, h1, h2, h3⟩ := hr.three
  exact ⟨_, BindsTo.of_eq (h _ a b c), .cons h0 (.cons h1 (.cons h2 (.cons h3 .nil)))⟩
theorem b5 {K : Frag} {fd : FuncData} {x y z p k : Str} {u v t q l : V} (h : ∀ a b c d e : Value, bindArgs fd ⟨[a, b, c, d, e], []⟩ = pure [(x, a), (y, b), (z, c), (p, d), (k, e)]) : ∀ (fz : Led) (s : Shared) ws, Reps fz [u, v, t, q, l] ws → K.In s.heap → ∃ bs, BindsTo s fd ⟨ws, []⟩ bs ∧ RepB fz [(x, u), (y, v), (z, t), (p, q), (k, l)] bs := fun fz s ws hr _ => by
  cases hr with
  | cons h00 hr =>
  cases hr with
  | cons h0 hr =>
  obtain ⟨a, b, c, rfl, h1, h2, h3⟩ := hr.three
  exact ⟨_, BindsTo.of_eq (h _ _ a b c), .cons h00 (.cons h0 (.cons h1 (.cons h2 (.cons h3 .nil))))⟩
/-- a function of the program: its names are given as a list -/
theorem wfun {g : Gl} {C : Ctx g} {ρ : Loc} {σ : Store} {Q : V → Store → Prop} {X : Prop} (xs : List Str) (ρ' : Loc) {n : Nat} {name qual : Str} {params : Arguments} {body : List Stmt} {scope : Scope} {dV kV doc pm cdv ct oc : Value} {an od : Option Addr} {osl : Array (Option Value)} {f : Addr} {as : List V}
    (ho : g.K.lookup f = some ⟨oc, od, .func (fnOf name qual params body scope dV kV doc pm an cdv ct), osl⟩) (hcd : codeIn g.K cdv qual = true) (room : C.Room (n + 1))
    (hb : ∀ fz s ws, Reps fz as ws → g.K.In s.heap → ∃ bs, BindsTo s (fnOf name qual params body scope dV kV doc pm an cdv ct) ⟨ws, []⟩ bs ∧ RepB fz ρ' bs)
    (hxs : ρ'.map (·.1) = xs) (hloc : (xs.all fun y => scope.names.lookup y == some .local) = true) (hnd : xs.Nodup)
    (h : ∀ L' gh, (C.sub qual scope f cdv L' gh).Room n → WXs (C.sub qual scope f cdv L' gh) body ρ' σ (fun _ σ' => ∃ σ'', Store.Le σ'' σ' ∧ Q .none σ'') (fun v σ' => ∃ σ'', Store.Le σ'' σ' ∧ Q v σ'') X)
    (hk : scope.kind = .function := by rfl) (hco : scope.isCoroutine = false := by rfl) (hgen : scope.isGenerator = false := by rfl) (hcell : ∀ x ∈ scope.names, x.2 ≠ .cell := by decide) :
    WCode C (.raw (.ref f)) as ρ σ Q X := by
  refine wcode_def ho hcd room hb ?_ (hxs ▸ hnd) h hk hco hgen hcell
  subst hxs
  rw [List.all_map] at hloc
  exact hloc

theorem ifT {c : Bool} {A B : Prop} (hc : c = true) (h : A) : if c = true then A else B := by subst hc; exact h
theorem ifF {c : Bool} {A B : Prop} (hc : c = false) (h : B) : if c = true then A else B := by subst hc; exact h
theorem ifC {c : Bool} {A B : Prop} (ht : c = true → A) (hf : c = false → B) : if c = true then A else B := by
  cases c
  · exact hf rfl
  · exact ht rfl
theorem dF {p : Prop} [Decidable p] (h : ¬p) : decide p = false := decide_eq_false h
theorem dT {p : Prop} [Decidable p] (h : p) : decide p = true := decide_eq_true h

theorem Loc.le_refl (ρ : Loc) : Loc.Le ρ ρ := fun _ _ h => h
theorem Loc.le_nil (τ : Loc) : Loc.Le [] τ := fun _ _ h => by cases h
theorem Loc.le_cons {x : Str} {v : V} {ρ τ : Loc} (h : fget x τ = some v) (r : Loc.Le ρ τ) : Loc.Le ((x, v) :: ρ) τ := fun y u e => by
  unfold fget at e
  split at e
  · rename_i hy
    rw [beq_iff_eq] at hy
    subst hy
    rw [← e]; exact h
  · exact r y u e
theorem wx_whileF {g : Gl} {C : Ctx g} {ρ : Loc} {σ : Store} {Qn : Loc → Store → Prop} {Qr : V → Store → Prop} {X : Prop} {t : Expr} {b : List Stmt} {pos : Pos} {ι : Type} (R : ι → Loc) (S : ι → Store) (P : ι → Prop) (μ : ι → Nat) (i₀ : ι) (hR : Loc.Le (R i₀) ρ) (hS : Store.Le (S i₀) σ) (hP : P i₀)
    (turn : ∀ i, P i → WTest C t (R i) (S i) (fun c σ₁ => if c then WXs C b (R i) σ₁ (fun ρ' σ' => ∃ j, μ j < μ i ∧ P j ∧ Loc.Le (R j) ρ' ∧ Store.Le (S j) σ') Qr X else Qn (R i) σ₁) X) : WX C (.While t b [] pos) ρ σ Qn Qr X := by
  refine WS.le (wx_while (fun i ρ σ => ρ = R i ∧ σ = S i ∧ P i) μ i₀ ⟨rfl, rfl, hP⟩ ?_) hR hS
  rintro i _ _ ⟨rfl, rfl, hp⟩
  exact fun ok fz hid s Qc Ec st hQ hX => turn i hp ok fz hid s Qc Ec st (fun c σ₁ fz' s' f q st' => hQ c σ₁ fz' s' f (by
    cases c with
    | false => exact q
    | true => exact WS.mono q (fun ρ' σ' ⟨j, h1, h2, h3, h4⟩ => ⟨j, _, _, h1, ⟨rfl, rfl, h2⟩, h3, h4⟩) (fun _ _ h => h) fun x => x) st') hX
theorem Loc.le_fput {ρ τ : Loc} {x : Str} {v : V} (h : Loc.Le ρ τ) : Loc.Le (fput x v ρ) (fput x v τ) := fun y u e => by
  by_cases hy : y = x
  · subst hy
    rw [fget_fput_self] at e ⊢
    exact e
  · rw [fget_fput_ne v hy] at e ⊢
    exact h y u e
theorem rangeSize_upto (n : Nat) : Builtin.Range.rangeSize 0 n 1 = (n : Int) := by
  unfold Builtin.Range.rangeSize
  simp
  lia
theorem wx_for_range0 {g : Gl} {C : Ctx g} {ρ : Loc} {σ : Store} {Qn : Loc → Store → Prop} {Qr : V → Store → Prop} {X : Prop} {x : Str} {np pos : Pos} {iter : Expr} {body : List Stmt} {ι : Type} (n : Nat) (R : ι → Loc) (S : ι → Store) (P : Nat → ι → Prop) (hn : n < 2 ^ 62)
    (h : WE C iter ρ σ (fun u σ₁ => u = .rng 0 n 1 ∧ ∃ j, P 0 j ∧ Loc.Le (R j) ρ ∧ Store.Le (S j) σ₁) X)
    (turn : ∀ i j, i < n → P i j → WXs C body (fput x (.int i) (R j)) (S j) (fun ρ₂ σ₂ => ∃ j', P (i + 1) j' ∧ Loc.Le (R j') ρ₂ ∧ Store.Le (S j') σ₂) Qr X)
    (fin : ∀ j ρ σ, P n j → Loc.Le (R j) ρ → Store.Le (S j) σ → Qn ρ σ) (hx : C.env.kindOf x = some .local := by rfl)
    (hs : ∀ x, foldedSetIterable iter C.env x = pure x := by intro _; rfl) : WX C (.For (.Name x np) iter body [] pos) ρ σ Qn Qr X := by
  refine wx_for_range (h.mono (fun u σ₁ hu => ?_) fun x => x) letGo_name hs
  obtain ⟨rfl, j, h0, l0, s0⟩ := hu
  refine ⟨0, n, 1, n, fun i ρ σ => ∃ j, P i j ∧ Loc.Le (R j) ρ ∧ Store.Le (S j) σ, rfl, ?_, small_one (by decide) (by decide) (by lia) (by lia), ⟨j, h0, l0, s0⟩, fun i ρ σ hi hI => ?_, fun ρ σ hI => ?_⟩
  · exact rangeSize_upto n
  · obtain ⟨j, hj, hl, hs⟩ := hI
    refine wasg_name ?_ hx
    have e : (0 : Int) + 1 * (i : Int) = (i : Int) := by lia
    rw [e]
    refine WS.le (ρ' := fput x (.int i) (R j)) (σ' := S j) ?_ (Loc.le_fput hl) hs
    exact (turn i j hi hj).mono (fun ρ₂ σ₂ ⟨j', a, b, c⟩ => ⟨R j', S j', ⟨j', a, fun _ _ h => h, fun _ _ h => h⟩, b, c⟩) (fun _ _ h => h) fun x => x
  · obtain ⟨j, hj, hl, hs⟩ := hI
    exact fin j ρ σ hj hl hs
theorem wx_for_list0 {g : Gl} {C : Ctx g} {ρ : Loc} {σ : Store} {Qn : Loc → Store → Prop} {Qr : V → Store → Prop} {X : Prop} {x : Str} {np pos : Pos} {iter : Expr} {body : List Stmt} {ι : Type} (vs : List V) (R : ι → Loc) (S : ι → Store) (P : Nat → ι → Prop)
    (h : WE C iter ρ σ (fun u σ₁ => (∀ i j σ, P i j → Store.Le (S j) σ → IsLst σ u vs) ∧ ∃ j, P 0 j ∧ Loc.Le (R j) ρ ∧ Store.Le (S j) σ₁) X)
    (turn : ∀ i v j, vs[i]? = some v → P i j → WXs C body (fput x v (R j)) (S j) (fun ρ₂ σ₂ => ∃ j', P (i + 1) j' ∧ Loc.Le (R j') ρ₂ ∧ Store.Le (S j') σ₂) Qr X)
    (fin : ∀ j ρ σ, P vs.length j → Loc.Le (R j) ρ → Store.Le (S j) σ → Qn ρ σ) (hx : C.env.kindOf x = some .local := by rfl)
    (hs : ∀ x, foldedSetIterable iter C.env x = pure x := by intro _; rfl) : WX C (.For (.Name x np) iter body [] pos) ρ σ Qn Qr X := by
  refine wx_for_list (h.mono (fun u σ₁ hu => ?_) fun x => x) letGo_name hs
  obtain ⟨hI, j, h0, l0, s0⟩ := hu
  refine ⟨vs, fun i ρ σ => ∃ j, P i j ∧ Loc.Le (R j) ρ ∧ Store.Le (S j) σ, fun i ρ σ ⟨j, hj, _, hs⟩ => hI i j σ hj hs, ⟨j, h0, l0, s0⟩, fun i v ρ σ hi hI => ?_, fun ρ σ hI => ?_⟩
  · obtain ⟨j, hj, hl, hs⟩ := hI
    refine wasg_name ?_ hx
    refine WS.le (ρ' := fput x v (R j)) (σ' := S j) ?_ (Loc.le_fput hl) hs
    exact (turn i v j hi hj).mono (fun ρ₂ σ₂ ⟨j', a, b, c⟩ => ⟨R j', S j', ⟨j', a, fun _ _ h => h, fun _ _ h => h⟩, b, c⟩) (fun _ _ h => h) fun x => x
  · obtain ⟨j, hj, hl, hs⟩ := hI
    exact fin j ρ σ hj hl hs
theorem leb_small {n : Nat} (h : n < 128) : leb n = [n.toUInt8] := lebF_z n h
theorem leb_big {n : Nat} (h : ¬ n < 128) : leb n = (n % 128 + 128).toUInt8 :: leb (n / 128) := by
  cases n with
  | zero => exact absurd (by decide) h
  | succ m => exact (if_neg h).trans (congrArg _ (lebF_eq m ((m + 1) / 128) ((m + 1) / 128) (by lia) (Nat.le_refl _)))
theorem or128 (n : Nat) : (n &&& 127) ||| 128 = n % 128 + 128 := by
  rw [show 127 = 2 ^ 7 - 1 by rfl, Nat.and_two_pow_sub_one_eq_mod, show 128 = 2 ^ 7 by rfl, Nat.or_comm, Nat.add_comm]
  have := Nat.two_pow_add_eq_or_of_lt (i := 7) (b := n % 2 ^ 7) (Nat.mod_lt _ (by decide)) 1
  simpa using this.symm
theorem leb_len : ∀ (k : Nat) {n : Nat}, n < 2 ^ (7 * k) → 0 < k → (leb n).length ≤ k
  | 0, n, h, hk => absurd hk (by decide)
  | k + 1, n, h, _ => by
    by_cases hn : n < 128
    · rw [leb_small hn]; simp
    · rw [leb_big hn, List.length_cons]
      have h2 : n / 128 < 2 ^ (7 * k) := by
        rw [Nat.div_lt_iff_lt_mul (by decide)]
        have : 2 ^ (7 * (k + 1)) = 2 ^ (7 * k) * 128 := by rw [Nat.mul_add, Nat.pow_add]
        lia
      have hk : 0 < k := by
        rcases Nat.eq_zero_or_pos k with e | e
        · subst e; lia
        · exact e
      have := leb_len k h2 hk
      lia
theorem wx_corrupt {np cpos pos : Pos} {e : Expr} (hcl : C.cl = []) (hX : X) (h : WArgs C.off [e] ρ σ (fun vs _ => vs.length ≤ 100) X)
    (he : starEach [e] C.env = (false, eval e C.env) :: starEach [] C.env := by rfl)
    (hx : C.env.kindOf "Corrupt" = some .globalImplicit := by rfl) :
    WX C (.Raise (some (.Call (.Name "Corrupt" np) [e] [] cpos)) none pos) ρ σ Qn Qr X :=
  wx_raise (c := 56) (bmB := [.type "Exception", .type "BaseException", .type "object"]) (newId := "Exception.__new__") hcl hX (by exact rfl) (by exact .head _) (by kernel_rfl) PySem.F.excBase_Exception h he rfl hx (by decide)
theorem wx_short {np cpos pos : Pos} {e : Expr} (hcl : C.cl = []) (hX : X) (h : WArgs C.off [e] ρ σ (fun vs _ => vs.length ≤ 100) X)
    (he : starEach [e] C.env = (false, eval e C.env) :: starEach [] C.env := by rfl)
    (hx : C.env.kindOf "ShortOctets" = some .globalImplicit := by rfl) :
    WX C (.Raise (some (.Call (.Name "ShortOctets" np) [e] [] cpos)) none pos) ρ σ Qn Qr X :=
  wx_raise (c := 68) (bmB := [.type "Exception", .type "BaseException", .type "object"]) (newId := "Exception.__new__") hcl hX (by exact rfl) (by exact .tail _ (.head _)) (by kernel_rfl) PySem.F.excBase_Exception h he rfl hx (by decide)

theorem s_write_groups {n most : Nat} (nd : C.nd = true) (room : C.Room 1) (hn : n ≤ most) (hb : n < 2 ^ 64) (h : Q (.bytes (leb n)) σ) :
    WCode C (.raw (.ref 89)) [.int n, .int most] ρ σ Q X := by
  refine wfun ["n", "most"] [("n", .int n), ("most", .int most)] (n := 0) (by exact rfl) (by exact rfl) room (b2 fun a b => by exact rfl) (by exact rfl) (by decide +kernel) (by decide +kernel) fun L' gh room' => ?_
  refine wxs_cons ?_; refine wx_if ?_; refine wtest_bool ?_; refine wall_or ?_; refine wtest_pcmp 4 (by exact rfl) ?_; refine ifF (dF (by lia)) ?_; refine wall_or ?_; refine wtest_pcmp 4 (by exact rfl) ?_; refine ifF (dF (by lia)) ?_; refine wall_or_nil ?_; refine ifF rfl ?_; refine wxs_nil ?_; refine wxs_cons ?_; refine wx_assign ?_; refine we_call0 ?_; refine we_b_bytearray (by exact rfl) ?_; refine ⟨(by first | exact .builtin _ | exact .type _ | exact .K _ (by exact rfl)), ?_⟩
  refine wcall_bytearray (by exact nd) fun a ha => ?_
  refine wxs_cons ?_
  have len10 : (leb n).length ≤ 10 := leb_len 10 (by lia) (by decide)
  refine wx_whileF (ι := Nat × List UInt8) (fun i => [("n", .int (i.1 : Nat)), ("most", .int most), ("out", .ref a)]) (fun i => σ.set a (.barr i.2)) (fun i => i.2 ++ leb i.1 = leb n) (fun i => i.1) (n, []) (Loc.le_refl _) (fun _ _ h => h) rfl ?_
  rintro ⟨m, b⟩ hc
  dsimp only at hc ⊢
  have hlen : b.length + (leb m).length ≤ 10 := by rw [← List.length_append, hc]; exact len10
  refine wtest_pcmp 4 (by exact rfl) ?_
  refine ifC (fun hge => ?_) fun hlt => ?_
  · have hge := of_decide_eq_true hge
    have hm : ¬ m < 128 := by lia
    refine wxs_cons ?_; refine wx_expr ?_; refine we_meth ?_; refine we_pure 1 (by exact rfl) ?_; refine wmeth_barr_append (by walk_at "wst") ?_; refine ⟨(by first | exact .builtin _ | exact .type _ | exact .K _ (by exact rfl)), ?_⟩; refine wargs_cons ?_; refine we_bin ?_; refine we_bin ?_; refine we_pure 1 (by exact rfl) ?_; refine we_int ?_
    refine wbin_and (b := 127) ?_
    refine we_int ?_
    refine wbin_or (b := 128) ?_
    refine wargs_pure (by exact rfl) ?_
    rw [or128]
    refine wcall_barr_append (by exact nd) (Store.set_self ..) (by lia) (by lia) (by lia) ⟨rfl, ?_⟩
    refine wxs_cons ?_; refine wx_aug (by exact rfl) ?_; refine we_int ?_
    refine winp_shr (n := 7) ?_
    refine wxs_nil ?_
    refine ⟨(m / 128, b ++ [(m % 128 + 128).toUInt8]), by dsimp only; lia, ?_, Loc.le_refl _, ?_⟩
    · rw [← hc, leb_big hm]; simp
    · rw [Store.set_set]
      intro a o e
      exact e
  · have hm : m < 128 := by have := of_decide_eq_false hlt; lia
    refine wxs_cons ?_; refine wx_expr ?_; refine we_meth ?_; refine we_pure 1 (by exact rfl) ?_; refine wmeth_barr_append (by walk_at "wst") ?_; refine ⟨(by first | exact .builtin _ | exact .type _ | exact .K _ (by exact rfl)), ?_⟩; refine wargs_pure (by exact rfl) ?_
    refine wcall_barr_append (by exact nd) (Store.set_self ..) (by lia) (by lia) (by lia) ⟨rfl, ?_⟩
    refine wxs_cons ?_; refine wx_return ?_; refine we_call ?_; refine we_b_bytes (by exact rfl) ?_; refine ⟨(by first | exact .builtin _ | exact .type _ | exact .K _ (by exact rfl)), ?_⟩; refine wargs_pure (by exact rfl) ?_
    refine wcall_bytes_barr (Store.set_self ..) (by simp; lia) ⟨σ, ?_, ?_⟩
    · rw [Store.set_set]; exact Store.le_set ha _
    · rw [leb_small hm] at hc
      rw [← hc] at h
      exact h

end
local macro_rules | `(tactic| walk_at "lel") => `(tactic| repeat (first | exact Loc.le_nil _ | refine Loc.le_cons (by exact rfl) ?_))
section
variable {prog : Program} {w : World} {mean : ExcName → Option Value} {mg mb : Str → Option Value} {C : Ctx (G0 prog w mean mg mb)} {ρ : Loc} {σ : Store} {Q Qr : V → Store → Prop} {Qn : Loc → Store → Prop} {X : Prop}
/-- a number of groups of seven bits: at most k octets, read from place at -/
noncomputable def rg (data : List UInt8) (most : Nat) : Nat → Nat → Nat → Nat → Option (Nat × Nat)
  | 0, _, _, _ => none
  | k + 1, at', n, sh => if at' ≥ data.length then none else
    let o := (data.getD at' 0).toNat
    let n' := n + o % 128 * 2 ^ sh
    if o < 128 then (if n' > most then none else some (n', at' + 1)) else rg data most k (at' + 1) n' (sh + 7)
theorem and127 (n : Nat) : n &&& 127 = n % 128 := by
  rw [show 127 = 2 ^ 7 - 1 by rfl, Nat.and_two_pow_sub_one_eq_mod]
theorem orShift {n x sh : Nat} (h : n < 2 ^ sh) : n ||| (x * 2 ^ sh) = n + x * 2 ^ sh := by
  rw [Nat.or_comm, Nat.mul_comm, Nat.add_comm]
  exact (Nat.two_pow_add_eq_or_of_lt h x).symm
theorem s_read_groups {data : List UInt8} {at' octets most : Nat} (room : C.Room 1) (hd : data.length ≤ 16000000) (ho : octets ≤ 10) (hmost : most < 2 ^ 64) (h : ∀ n p, rg data most octets at' 0 0 = some (n, p) → Q (.tup [.int (n : Nat), .int (p : Nat)]) σ) (hx : rg data most octets at' 0 0 = none → X) :
    WCode C (.raw (.ref 96)) [.bytes data, .int (at' : Nat), .int (octets : Nat), .int (most : Nat)] ρ σ Q X := by
  refine wfun ["data", "at", "octets", "most"] [("data", .bytes data), ("at", .int (at' : Nat)), ("octets", .int (octets : Nat)), ("most", .int (most : Nat))] (n := 0) (by exact rfl) (by exact rfl) room (b4 fun a b c d => by exact rfl) (by exact rfl) (by decide +kernel) (by decide +kernel) fun L' gh room' => ?_
  refine p_if_f (by exact rfl) (dF (by lia)) ?_; refine wxs_nil ?_; refine x_assign ?_; refine we_int ?_; refine x_assign ?_; refine we_int ?_; refine x_cons ?_
  refine wx_for_range0 (ι := Nat × Nat × Nat) octets (fun j => [("data", .bytes data), ("at", .int (j.1 : Nat)), ("octets", .int (octets : Nat)), ("most", .int (most : Nat)), ("n", .int (j.2.1 : Nat)), ("shift", .int (j.2.2 : Nat))]) (fun _ => σ)
    (fun i j => j.2.1 < 2 ^ j.2.2 ∧ j.2.2 = 7 * i ∧ rg data most (octets - i) j.1 j.2.1 j.2.2 = rg data most octets at' 0 0) (by lia) ?_ ?_ ?_
  · refine k_call ?_; refine we_b_range (by exact rfl) ?_; refine ⟨(by first | exact .builtin _ | exact .type _ | exact .K _ (by exact rfl)), ?_⟩; refine wargs_pure (by exact rfl) ?_
    exact wrange1 ⟨rfl, (at', 0, 0), ⟨by simp, rfl, rfl⟩, Loc.le_refl _, fun _ _ h => h⟩
  · rintro i ⟨p, m, sh⟩ hi ⟨hm, hsh, hrg⟩
    dsimp only at hm hsh hrg ⊢
    obtain ⟨k, hk⟩ : ∃ k, octets - i = k + 1 := ⟨octets - i - 1, by lia⟩
    rw [hk] at hrg
    have hpow : 2 ^ sh ≤ 2 ^ 63 := Nat.pow_le_pow_right (by decide) (by lia)
    refine x_if ?_; refine k_cmp ?_; refine we_pure 1 (by exact rfl) ?_; refine k_call ?_; refine we_b_len (by exact rfl) ?_; refine ⟨(by first | exact .builtin _ | exact .type _ | exact .K _ (by exact rfl)), ?_⟩; refine wargs_pure (by exact rfl) ?_; refine wlen_bytes (by first | assumption | lia) ?_; refine wcmp_ge ?_; refine wtru_bool ?_
    refine ifC (fun hge => ?_) fun hlt => ?_
    · have hge := of_decide_eq_true hge
      refine x_cons ?_
      refine wx_short rfl ?_ ?_
      · refine hx ?_
        rw [← hrg]
        unfold rg
        rw [if_pos (by lia)]
      · refine k_args ?_; refine we_str (n := 200) (by decide +kernel) ?_; refine wargs_pure (by exact rfl) ?_; exact Nat.le_of_ble_eq_true rfl
    · have hlt := of_decide_eq_false hlt
      have hin : ¬ p ≥ data.length := by lia
      refine wxs_nil ?_; refine x_assign ?_; refine k_sub ?_; refine we_pure 1 (by exact rfl) ?_; refine we_pure 1 (by exact rfl) ?_; refine wsub_bytes (by first | assumption | lia) (by lia) (by lia) ?_; refine x_cons ?_; refine wx_aug (by exact rfl) ?_; refine we_int ?_; refine winp_add ?_; refine x_cons ?_; refine wx_aug (by exact rfl) ?_; refine k_bin ?_; refine k_bin ?_; refine we_pure 1 (by exact rfl) ?_; refine we_int ?_
      have e1 : (Int.ofNat p).toNat = p := rfl
      generalize ho' : (data.getD (Int.toNat (p : Int)) 0).toNat = o
      have ho2 : o < 256 := by rw [← ho']; exact UInt8.toNat_lt _
      have ho3 : (data.getD p 0).toNat = o := ho'
      have hr : rg data most (k + 1) p m sh = if o < 128 then (if m + o % 128 * 2 ^ sh > most then none else some (m + o % 128 * 2 ^ sh, p + 1)) else rg data most k (p + 1) (m + o % 128 * 2 ^ sh) (sh + 7) := by
        rw [rg, if_neg hin]
        simp only [ho3]
      rw [hr] at hrg
      have hb : o % 128 * 2 ^ sh ≤ 127 * 2 ^ sh := Nat.mul_le_mul_right _ (by lia)
      have hb2 : 2 ^ (sh + 7) = 128 * 2 ^ sh := by rw [Nat.pow_add, Nat.mul_comm]
      refine wbin_and (b := 127) ?_
      refine we_pure 1 (by exact rfl) ?_
      refine wbin_shl (by rw [and127]; lia) (by lia) ?_
      refine winp_or ?_
      rw [and127, orShift hm]
      refine x_if ?_; refine wtest_pcmp 4 (by exact rfl) ?_
      refine ifC (fun h1 => ?_) fun h1 => ?_
      · have h1 := of_decide_eq_true h1
        rw [if_pos (by lia)] at hrg
        refine x_if ?_; refine wtest_pcmp 4 (by exact rfl) ?_
        refine ifC (fun h2 => ?_) fun h2 => ?_
        · have h2 := of_decide_eq_true h2
          rw [if_pos (by lia)] at hrg
          refine wxs_cons (wx_corrupt rfl (hx hrg.symm) ?_)
          generalize hv : m + o % 128 * 2 ^ sh = v at *
          have hv2 : v < 2 ^ 100 := by lia
          refine k_args ?_; refine we_fstr ?_; refine wjoin_cons ?_; refine we_str (n := 200) (by decide +kernel) ?_; refine ⟨_, rfl, Nat.le_of_ble_eq_true rfl, ?_⟩; refine wjoin_cons ?_; refine we_fval ?_; refine we_pure 1 (by exact rfl) ?_; refine ⟨_, rfl, (by first | lia | assumption), ?_⟩; refine ⟨_, rfl, Nat.le_of_ble_eq_true rfl, ?_⟩; refine wjoin_cons ?_; refine we_str (n := 200) (by decide +kernel) ?_; refine ⟨_, rfl, Nat.le_of_ble_eq_true rfl, ?_⟩; refine wjoin_cons ?_; refine we_fval ?_; refine we_pure 1 (by exact rfl) ?_; refine ⟨_, rfl, (by first | lia | assumption), ?_⟩; refine ⟨_, rfl, Nat.le_of_ble_eq_true rfl, ?_⟩; refine wjoin_nil (by decide) ?_; refine wargs_pure (by exact rfl) ?_; exact Nat.le_of_ble_eq_true rfl
        · have h2 := of_decide_eq_false h2
          rw [if_neg (by lia)] at hrg
          refine wxs_nil ?_; refine x_return ?_; refine k_tuple ?_; refine wargs_pure (by exact rfl) ?_; refine ⟨Nat.le_of_ble_eq_true rfl, ?_⟩
          exact ⟨σ, fun _ _ h => h, h _ _ hrg.symm⟩
      · have h1 := of_decide_eq_false h1
        rw [if_neg (by lia)] at hrg
        refine wxs_nil ?_; refine x_cons ?_; refine wx_aug (by exact rfl) ?_; refine we_int ?_; refine winp_add ?_; refine wxs_nil ?_
        refine ⟨(p + 1, m + o % 128 * 2 ^ sh, sh + 7), ⟨?_, by dsimp only; lia, ?_⟩, ?_, fun _ _ h => h⟩
        · dsimp only; lia
        · dsimp only
          rw [show octets - (i + 1) = k by lia]
          exact hrg
        · exact Loc.le_cons (by exact rfl) (Loc.le_cons (by exact rfl) (Loc.le_cons (by exact rfl) (Loc.le_cons (by exact rfl) (Loc.le_cons (by exact rfl) (Loc.le_cons (by exact rfl) (Loc.le_nil _))))))
  · rintro ⟨p, m, sh⟩ ρ₂ σ₂ ⟨hm, hsh, hrg⟩ hl hs
    dsimp only at hm hsh hrg hl hs
    refine WS.le ?_ hl hs
    refine x_cons ?_
    refine wx_corrupt rfl ?_ ?_
    · refine hx ?_
      rw [← hrg, Nat.sub_self]
      rfl
    · refine k_args ?_; refine we_fstr ?_; refine wjoin_cons ?_; refine we_str (n := 200) (by decide +kernel) ?_; refine ⟨_, rfl, Nat.le_of_ble_eq_true rfl, ?_⟩; refine wjoin_cons ?_; refine we_fval ?_; refine we_pure 1 (by exact rfl) ?_; refine ⟨_, rfl, (by first | lia | assumption), ?_⟩; refine ⟨_, rfl, Nat.le_of_ble_eq_true rfl, ?_⟩; refine wjoin_cons ?_; refine we_str (n := 200) (by decide +kernel) ?_; refine ⟨_, rfl, Nat.le_of_ble_eq_true rfl, ?_⟩; refine wjoin_nil (by decide) ?_; refine wargs_pure (by exact rfl) ?_; exact Nat.le_of_ble_eq_true rfl

end
section
variable {prog : Program} {w : World} {mean : ExcName → Option Value} {mg mb : Str → Option Value} {C : Ctx (G0 prog w mean mg mb)} {ρ : Loc} {σ : Store} {Q Qr : V → Store → Prop} {Qn : Loc → Store → Prop} {X : Prop}
noncomputable def R10 (data : List UInt8) (p : Nat) : Option (Nat × Nat) := rg data 18446744073709551615 10 p 0 0
noncomputable def R5 (data : List UInt8) (p : Nat) : Option (Nat × Nat) := rg data 4294967295 5 p 0 0
theorem rg_fast {data : List UInt8} {most k p : Nat} (hk : 0 < k) (hm : 128 ≤ most) (hp : p < data.length) (ho : (data.getD p 0).toNat < 128) : rg data most k p 0 0 = some ((data.getD p 0).toNat, p + 1) := by
  obtain ⟨k, rfl⟩ : ∃ j, k = j + 1 := ⟨k - 1, by lia⟩
  rw [rg, if_neg (by lia)]
  simp only [Nat.zero_add, Nat.pow_zero, Nat.mul_one]
  rw [if_pos ho, Nat.mod_eq_of_lt ho, if_neg (by lia)]
theorem s_put_varint {n : Nat} (nd : C.nd = true) (room : C.Room 2) (hn : n < 2 ^ 64) (h : Q (.bytes (leb n)) σ) : WCode C (.raw (.ref 103)) [.int n] ρ σ Q X := by
  refine wfun ["n"] [("n", .int n)] (n := 1) (by exact rfl) (by exact rfl) room (b1 fun a => by exact rfl) (by exact rfl) (by decide +kernel) (by decide +kernel) fun L' gh room' => ?_
  refine x_if ?_; refine t_and ?_; refine wtest_pcmp 4 (by exact rfl) ?_; refine ifT (dT (by lia)) ?_; refine a_and ?_; refine wtest_pcmp 4 (by exact rfl) ?_
  refine ifC (fun h1 => ?_) fun h1 => ?_
  · have h1 := of_decide_eq_true h1
    refine wall_and_nil ?_; refine ifT rfl ?_; refine x_return ?_; refine k_call ?_; refine we_b_bytes (by exact rfl) ?_; refine ⟨(by first | exact .builtin _ | exact .type _ | exact .K _ (by exact rfl)), ?_⟩; refine k_args ?_; refine we_list ?_; refine wargs_pure (by exact rfl) ?_; refine ⟨Nat.le_of_ble_eq_true rfl, ?_⟩
    intro a ha
    refine wargs_pure (by exact rfl) ?_
    refine wcall_bytes_ints (ns := [(n : Int)]) (.ref (Store.set_self ..)) (by simp; lia) (Nat.le_of_ble_eq_true rfl) ⟨σ, Store.le_set ha _, ?_⟩
    rw [leb_small (by lia)] at h
    exact h
  · have h1 := of_decide_eq_false h1
    refine ifF rfl ?_; refine wxs_nil ?_; refine x_return ?_; refine e_call (by exact rfl) (by first | exact .builtin _ | exact .type _ | exact .K _ (by exact rfl)) (by exact rfl) ?_
    exact (s_write_groups (most := 18446744073709551615) (by exact nd) room' (by lia) hn ⟨σ, fun _ _ h => h, h⟩).call
theorem s_put_varint32 {n : Nat} (nd : C.nd = true) (room : C.Room 2) (hn : n < 2 ^ 32) (h : Q (.bytes (leb n)) σ) : WCode C (.raw (.ref 117)) [.int n] ρ σ Q X := by
  refine wfun ["n"] [("n", .int n)] (n := 1) (by exact rfl) (by exact rfl) room (b1 fun a => by exact rfl) (by exact rfl) (by decide +kernel) (by decide +kernel) fun L' gh room' => ?_
  refine x_if ?_; refine t_and ?_; refine wtest_pcmp 4 (by exact rfl) ?_; refine ifT (dT (by lia)) ?_; refine a_and ?_; refine wtest_pcmp 4 (by exact rfl) ?_
  refine ifC (fun h1 => ?_) fun h1 => ?_
  · have h1 := of_decide_eq_true h1
    refine wall_and_nil ?_; refine ifT rfl ?_; refine x_return ?_; refine k_call ?_; refine we_b_bytes (by exact rfl) ?_; refine ⟨(by first | exact .builtin _ | exact .type _ | exact .K _ (by exact rfl)), ?_⟩; refine k_args ?_; refine we_list ?_; refine wargs_pure (by exact rfl) ?_; refine ⟨Nat.le_of_ble_eq_true rfl, ?_⟩
    intro a ha
    refine wargs_pure (by exact rfl) ?_
    refine wcall_bytes_ints (ns := [(n : Int)]) (.ref (Store.set_self ..)) (by simp; lia) (Nat.le_of_ble_eq_true rfl) ⟨σ, Store.le_set ha _, ?_⟩
    rw [leb_small (by lia)] at h
    exact h
  · have h1 := of_decide_eq_false h1
    refine ifF rfl ?_; refine wxs_nil ?_; refine x_return ?_; refine e_call (by exact rfl) (by first | exact .builtin _ | exact .type _ | exact .K _ (by exact rfl)) (by exact rfl) ?_
    exact (s_write_groups (most := 4294967295) (by exact nd) room' (by lia) (by lia) ⟨σ, fun _ _ h => h, h⟩).call
theorem s_read_varint {data : List UInt8} {p : Nat} (room : C.Room 2) (hd : data.length ≤ 16000000) (h : ∀ n q, R10 data p = some (n, q) → Q (.tup [.int (n : Nat), .int (q : Nat)]) σ) (hx : R10 data p = none → X) :
    WCode C (.raw (.ref 110)) [.bytes data, .int (p : Nat)] ρ σ Q X := by
  refine wfun ["data", "at"] [("data", .bytes data), ("at", .int (p : Nat))] (n := 1) (by exact rfl) (by exact rfl) room (b2 fun a b => by exact rfl) (by exact rfl) (by decide +kernel) (by decide +kernel) fun L' gh room' => ?_
  refine x_if ?_; refine t_and ?_; refine wtest_pcmp 4 (by exact rfl) ?_; refine ifT (dT (by lia)) ?_; refine a_and ?_; refine k_cmp ?_; refine we_pure 1 (by exact rfl) ?_; refine k_call ?_; refine we_b_len (by exact rfl) ?_; refine ⟨(by first | exact .builtin _ | exact .type _ | exact .K _ (by exact rfl)), ?_⟩; refine wargs_pure (by exact rfl) ?_; refine wlen_bytes (by first | assumption | lia) ?_; refine wcmp_lt ?_; refine wtru_bool ?_
  refine ifC (fun h1 => ?_) fun h1 => ?_
  · have h1 := of_decide_eq_true h1
    refine a_and ?_; refine k_cmp ?_; refine k_sub ?_; refine we_pure 1 (by exact rfl) ?_; refine we_pure 1 (by exact rfl) ?_; refine wsub_bytes (by first | assumption | lia) (by lia) (by lia) ?_; refine we_int ?_; refine wcmp_lt ?_; refine wtru_bool ?_
    refine ifC (fun h2 => ?_) fun h2 => ?_
    · have h2 := of_decide_eq_true h2
      refine wall_and_nil ?_; refine ifT rfl ?_; refine x_return ?_; refine k_tuple ?_; refine k_args ?_; refine k_sub ?_; refine we_pure 1 (by exact rfl) ?_; refine we_pure 1 (by exact rfl) ?_; refine wsub_bytes (by first | assumption | lia) (by lia) (by lia) ?_; refine wargs_pure (by exact rfl) ?_; refine ⟨Nat.le_of_ble_eq_true rfl, ?_⟩
      exact ⟨σ, fun _ _ h => h, h _ _ (rg_fast (by decide) (by decide) (by lia) (by have e : (Int.toNat (p : Int)) = p := rfl; rw [e] at h2; lia))⟩
    · refine ifF rfl ?_; refine wxs_nil ?_; refine x_return ?_; refine e_call (by exact rfl) (by first | exact .builtin _ | exact .type _ | exact .K _ (by exact rfl)) (by exact rfl) ?_
      exact (s_read_groups (octets := 10) (most := 18446744073709551615) room' hd (by decide) (by decide) (fun n q e => ⟨σ, fun _ _ h => h, h n q e⟩) hx).call
  · refine ifF rfl ?_; refine wxs_nil ?_; refine x_return ?_; refine e_call (by exact rfl) (by first | exact .builtin _ | exact .type _ | exact .K _ (by exact rfl)) (by exact rfl) ?_
    exact (s_read_groups (octets := 10) (most := 18446744073709551615) room' hd (by decide) (by decide) (fun n q e => ⟨σ, fun _ _ h => h, h n q e⟩) hx).call
theorem s_read_varint32 {data : List UInt8} {p : Nat} (room : C.Room 2) (hd : data.length ≤ 16000000) (h : ∀ n q, R5 data p = some (n, q) → Q (.tup [.int (n : Nat), .int (q : Nat)]) σ) (hx : R5 data p = none → X) :
    WCode C (.raw (.ref 124)) [.bytes data, .int (p : Nat)] ρ σ Q X := by
  refine wfun ["data", "at"] [("data", .bytes data), ("at", .int (p : Nat))] (n := 1) (by exact rfl) (by exact rfl) room (b2 fun a b => by exact rfl) (by exact rfl) (by decide +kernel) (by decide +kernel) fun L' gh room' => ?_
  refine x_if ?_; refine t_and ?_; refine wtest_pcmp 4 (by exact rfl) ?_; refine ifT (dT (by lia)) ?_; refine a_and ?_; refine k_cmp ?_; refine we_pure 1 (by exact rfl) ?_; refine k_call ?_; refine we_b_len (by exact rfl) ?_; refine ⟨(by first | exact .builtin _ | exact .type _ | exact .K _ (by exact rfl)), ?_⟩; refine wargs_pure (by exact rfl) ?_; refine wlen_bytes (by first | assumption | lia) ?_; refine wcmp_lt ?_; refine wtru_bool ?_
  refine ifC (fun h1 => ?_) fun h1 => ?_
  · have h1 := of_decide_eq_true h1
    refine a_and ?_; refine k_cmp ?_; refine k_sub ?_; refine we_pure 1 (by exact rfl) ?_; refine we_pure 1 (by exact rfl) ?_; refine wsub_bytes (by first | assumption | lia) (by lia) (by lia) ?_; refine we_int ?_; refine wcmp_lt ?_; refine wtru_bool ?_
    refine ifC (fun h2 => ?_) fun h2 => ?_
    · have h2 := of_decide_eq_true h2
      refine wall_and_nil ?_; refine ifT rfl ?_; refine x_return ?_; refine k_tuple ?_; refine k_args ?_; refine k_sub ?_; refine we_pure 1 (by exact rfl) ?_; refine we_pure 1 (by exact rfl) ?_; refine wsub_bytes (by first | assumption | lia) (by lia) (by lia) ?_; refine wargs_pure (by exact rfl) ?_; refine ⟨Nat.le_of_ble_eq_true rfl, ?_⟩
      exact ⟨σ, fun _ _ h => h, h _ _ (rg_fast (by decide) (by decide) (by lia) (by have e : (Int.toNat (p : Int)) = p := rfl; rw [e] at h2; lia))⟩
    · refine ifF rfl ?_; refine wxs_nil ?_; refine x_return ?_; refine e_call (by exact rfl) (by first | exact .builtin _ | exact .type _ | exact .K _ (by exact rfl)) (by exact rfl) ?_
      exact (s_read_groups (octets := 5) (most := 4294967295) room' hd (by decide) (by decide) (fun n q e => ⟨σ, fun _ _ h => h, h n q e⟩) hx).call
  · refine ifF rfl ?_; refine wxs_nil ?_; refine x_return ?_; refine e_call (by exact rfl) (by first | exact .builtin _ | exact .type _ | exact .K _ (by exact rfl)) (by exact rfl) ?_
    exact (s_read_groups (octets := 5) (most := 4294967295) room' hd (by decide) (by decide) (fun n q e => ⟨σ, fun _ _ h => h, h n q e⟩) hx).call
/-- a part behind its length -/
noncomputable def RL (data : List UInt8) (p : Nat) : Option (List UInt8 × Nat) := match R5 data p with
  | none => none
  | some (n, q) => if q + n > data.length then none else some ((data.drop q).take n, q + n)
theorem rg_bounds {data : List UInt8} {most : Nat} : ∀ {k p n sh m q : Nat}, rg data most k p n sh = some (m, q) → m ≤ most ∧ p < q ∧ q ≤ p + k ∧ q ≤ data.length
  | 0, p, n, sh, m, q, h => by cases h
  | k + 1, p, n, sh, m, q, h => by
    rw [rg] at h
    split at h
    · cases h
    · rename_i hp
      dsimp only at h
      split at h
      · split at h
        · cases h
        · cases h; lia
      · have := rg_bounds h; lia
theorem s_read_lengthed {data : List UInt8} {p : Nat} (room : C.Room 3) (hd : data.length ≤ 16000000) (h : ∀ b q, RL data p = some (b, q) → Q (.tup [.bytes b, .int (q : Nat)]) σ) (hx : RL data p = none → X) :
    WCode C (.raw (.ref 138)) [.bytes data, .int (p : Nat)] ρ σ Q X := by
  refine wfun ["data", "at"] [("data", .bytes data), ("at", .int (p : Nat))] (n := 2) (by exact rfl) (by exact rfl) room (b2 fun a b => by exact rfl) (by exact rfl) (by decide +kernel) (by decide +kernel) fun L' gh room' => ?_
  refine x_assign_t ?_; refine e_call (by exact rfl) (by first | exact .builtin _ | exact .type _ | exact .K _ (by exact rfl)) (by exact rfl) ?_
  refine (s_read_varint32 room' hd (fun n q e => ?_) (fun e => hx (by unfold RL; rw [e]))).call
  obtain ⟨b1, b2, b3, b4⟩ := rg_bounds e
  have hRL : RL data p = if q + n > data.length then none else some ((data.drop q).take n, q + n) := by unfold RL; rw [e]
  refine wasg_tup2 ?_
  refine x_if ?_; refine k_cmp ?_; refine we_pure 4 (by exact rfl) ?_; refine k_call ?_; refine we_b_len (by exact rfl) ?_; refine ⟨(by first | exact .builtin _ | exact .type _ | exact .K _ (by exact rfl)), ?_⟩; refine wargs_pure (by exact rfl) ?_; refine wlen_bytes (by first | assumption | lia) ?_; refine wcmp_gt ?_; refine wtru_bool ?_
  refine ifC (fun h1 => ?_) fun h1 => ?_
  · have h1 := of_decide_eq_true h1
    refine x_cons ?_
    refine wx_short rfl (hx ?_) ?_
    · rw [hRL, if_pos (by lia)]
    · refine k_args ?_; refine we_fstr ?_; refine wjoin_cons ?_; refine we_fval ?_; refine we_pure 1 (by exact rfl) ?_; refine ⟨_, rfl, (by first | lia | assumption), ?_⟩; refine ⟨_, rfl, Nat.le_of_ble_eq_true rfl, ?_⟩; refine wjoin_cons ?_; refine we_str (n := 200) (by decide +kernel) ?_; refine ⟨_, rfl, Nat.le_of_ble_eq_true rfl, ?_⟩; refine wjoin_cons ?_; refine we_fval ?_; refine k_bin ?_; refine k_call ?_; refine we_b_len (by exact rfl) ?_; refine ⟨(by first | exact .builtin _ | exact .type _ | exact .K _ (by exact rfl)), ?_⟩; refine wargs_pure (by exact rfl) ?_; refine wlen_bytes (by first | assumption | lia) ?_; refine we_pure 1 (by exact rfl) ?_; refine wbin_sub ?_; refine ⟨_, rfl, (by first | lia | assumption), ?_⟩; refine ⟨_, rfl, Nat.le_of_ble_eq_true rfl, ?_⟩; refine wjoin_cons ?_; refine we_str (n := 200) (by decide +kernel) ?_; refine ⟨_, rfl, Nat.le_of_ble_eq_true rfl, ?_⟩; refine wjoin_nil (by decide) ?_; refine wargs_pure (by exact rfl) ?_; exact Nat.le_of_ble_eq_true rfl
  · have h1 := of_decide_eq_false h1
    refine wxs_nil ?_; refine x_return ?_; refine k_tuple ?_; refine k_args ?_; refine k_call ?_; refine we_b_bytes (by exact rfl) ?_; refine ⟨(by first | exact .builtin _ | exact .type _ | exact .K _ (by exact rfl)), ?_⟩; refine k_args ?_; refine we_slice_bytes ?_; refine we_pure 1 (by exact rfl) ?_; refine wpart_some ?_; refine we_pure 1 (by exact rfl) ?_; refine ⟨_, rfl, ?_⟩; refine wpart_some ?_; refine we_pure 4 (by exact rfl) ?_; refine ⟨_, rfl, ?_⟩; refine ⟨_, rfl, (by first | assumption | lia), (by intro i e; cases e; first | done | lia), (by intro i e; cases e; first | done | lia), ?_⟩; refine wargs_pure (by exact rfl) ?_; refine wcall_bytes_bytes ?_; refine wargs_pure (by exact rfl) ?_; refine ⟨Nat.le_of_ble_eq_true rfl, ?_⟩
    refine ⟨σ, fun _ _ h => h, ?_⟩
    have e2 : cutL data (some (q : Int)) (some ((q : Int) + (n : Int))) = (data.drop q).take n := by
      show (data.drop (Int.toNat (q : Int))).take (((q : Int) + (n : Int)).toNat - Int.toNat (q : Int)) = _
      rw [show ((q : Int) + (n : Int)).toNat - Int.toNat (q : Int) = n by lia]
      rfl
    rw [e2]
    exact h _ _ (by rw [hRL, if_neg (by lia)])

end
section
variable {prog : Program} {w : World} {mean : ExcName → Option Value} {mg mb : Str → Option Value} {C : Ctx (G0 prog w mean mg mb)} {ρ : Loc} {σ : Store} {Q Qr : V → Store → Prop} {Qn : Loc → Store → Prop} {X : Prop}
noncomputable abbrev curF (b : List UInt8) (k : Nat) : Flds := [("data", .bytes b), ("at", .int (k : Nat))]
theorem s_Cursor2 {data : List UInt8} {p : Nat} (room : C.Room 2) (hd : data.length ≤ 16000000) (hp : p < 2 ^ 64) (h : ∀ a d, σ a = none → p ≤ data.length → Q (.ref a) (σ.set a (.inst 219 d (curF data p)))) (hx : data.length < p → X) :
    WCall C (.raw (.ref 219)) [.bytes data, .int (p : Nat)] ρ σ Q X := by
  refine wnewN (fI := 153) (by kernel_rfl) (by exact rfl) (by kernel_rfl) fun a d A' ha hroom => ?_
  refine wfun ["self", "data", "at"] [("self", .ref a), ("data", .bytes data), ("at", .int (p : Nat))] (n := 0) (by exact rfl) (by exact rfl) (hroom _ room) (fun fz s ws hr X => ?_) (by exact rfl) (by decide +kernel) (by decide +kernel) fun L' gh room' => ?_
  · obtain ⟨a, b, c, rfl, h1, h2, h3⟩ := hr.three
    exact ⟨_, BindsTo.of_defaults (T := 146) rfl (X _ _ (by exact rfl)) rfl rfl rfl, .cons h1 (.cons h2 (.cons h3 .nil))⟩
  refine x_if ?_; refine t_or ?_; refine wtest_pcmp 4 (by exact rfl) ?_; refine ifF (dF (by lia)) ?_; refine a_or ?_; refine k_cmp ?_; refine we_pure 1 (by exact rfl) ?_; refine k_call ?_; refine we_b_len (by exact rfl) ?_; refine ⟨(by first | exact .builtin _ | exact .type _ | exact .K _ (by exact rfl)), ?_⟩; refine wargs_pure (by exact rfl) ?_; refine wlen_bytes (by first | assumption | lia) ?_; refine wcmp_gt ?_; refine wtru_bool ?_
  refine ifC (fun h1 => ?_) fun h1 => ?_
  · have h1 := of_decide_eq_true h1
    refine ifT rfl ?_; refine x_cons ?_
    refine wx_short rfl (hx (by lia)) ?_
    refine k_args ?_; refine we_fstr ?_; refine wjoin_cons ?_; refine we_str (n := 200) (by decide +kernel) ?_; refine ⟨_, rfl, Nat.le_of_ble_eq_true rfl, ?_⟩; refine wjoin_cons ?_; refine we_fval ?_; refine we_pure 1 (by exact rfl) ?_; refine ⟨_, rfl, (by first | lia | assumption), ?_⟩; refine ⟨_, rfl, Nat.le_of_ble_eq_true rfl, ?_⟩; refine wjoin_cons ?_; refine we_str (n := 200) (by decide +kernel) ?_; refine ⟨_, rfl, Nat.le_of_ble_eq_true rfl, ?_⟩; refine wjoin_cons ?_; refine we_fval ?_; refine k_call ?_; refine we_b_len (by exact rfl) ?_; refine ⟨(by first | exact .builtin _ | exact .type _ | exact .K _ (by exact rfl)), ?_⟩; refine wargs_pure (by exact rfl) ?_; refine wlen_bytes (by first | assumption | lia) ?_; refine ⟨_, rfl, (by first | lia | assumption), ?_⟩; refine ⟨_, rfl, Nat.le_of_ble_eq_true rfl, ?_⟩; refine wjoin_cons ?_; refine we_str (n := 200) (by decide +kernel) ?_; refine ⟨_, rfl, Nat.le_of_ble_eq_true rfl, ?_⟩; refine wjoin_nil (by decide) ?_; refine wargs_pure (by exact rfl) ?_; exact Nat.le_of_ble_eq_true rfl
  · have h1 := of_decide_eq_false h1
    refine wall_or_nil ?_; refine ifF rfl ?_; refine wxs_nil ?_; refine x_setattr ?_; refine we_pure 1 (by exact rfl) ?_; refine we_pure 1 (by exact rfl) ?_; refine wset_inst (by walk_at "wst") (by kernel_rfl) (by kernel_rfl) (by kernel_rfl) (by kernel_rfl) (by exact Nat.le_of_ble_eq_true rfl) ?_; refine x_setattr ?_; refine we_pure 1 (by exact rfl) ?_; refine we_pure 1 (by exact rfl) ?_; refine wset_inst (by walk_at "wst") (by kernel_rfl) (by kernel_rfl) (by kernel_rfl) (by kernel_rfl) (by exact Nat.le_of_ble_eq_true rfl) ?_; refine wxs_nil ?_
    rw [Store.set_set, Store.set_set]
    exact ⟨_, fun _ _ h => h, rfl, h a d ha (by lia)⟩
theorem s_Cursor1 {data : List UInt8} (room : C.Room 2) (hd : data.length ≤ 16000000) (h : ∀ a d, σ a = none → Q (.ref a) (σ.set a (.inst 219 d (curF data 0)))) :
    WCall C (.raw (.ref 219)) [.bytes data] ρ σ Q X := by
  refine wnewN (fI := 153) (by kernel_rfl) (by exact rfl) (by kernel_rfl) fun a d A' ha hroom => ?_
  refine wfun ["self", "data", "at"] [("self", .ref a), ("data", .bytes data), ("at", .int 0)] (n := 0) (by exact rfl) (by exact rfl) (hroom _ room) (fun fz s ws hr X => ?_) (by exact rfl) (by decide +kernel) (by decide +kernel) fun L' gh room' => ?_
  · obtain ⟨a, b, rfl, h1, h2⟩ := hr.two
    exact ⟨_, BindsTo.of_defaults (T := 146) rfl (X _ _ (by exact rfl)) rfl rfl rfl, .cons h1 (.cons h2 (.cons (.int _ _) .nil))⟩
  refine x_if ?_; refine t_or ?_; refine wtest_pcmp 4 (by exact rfl) ?_; refine ifF (dF (by lia)) ?_; refine a_or ?_; refine k_cmp ?_; refine we_pure 1 (by exact rfl) ?_; refine k_call ?_; refine we_b_len (by exact rfl) ?_; refine ⟨(by first | exact .builtin _ | exact .type _ | exact .K _ (by exact rfl)), ?_⟩; refine wargs_pure (by exact rfl) ?_; refine wlen_bytes (by first | assumption | lia) ?_; refine wcmp_gt ?_; refine wtru_bool ?_; refine ifF (dF (by lia)) ?_; refine wall_or_nil ?_; refine ifF rfl ?_; refine wxs_nil ?_; refine x_setattr ?_; refine we_pure 1 (by exact rfl) ?_; refine we_pure 1 (by exact rfl) ?_; refine wset_inst (by walk_at "wst") (by kernel_rfl) (by kernel_rfl) (by kernel_rfl) (by kernel_rfl) (by exact Nat.le_of_ble_eq_true rfl) ?_; refine x_setattr ?_; refine we_pure 1 (by exact rfl) ?_; refine we_pure 1 (by exact rfl) ?_; refine wset_inst (by walk_at "wst") (by kernel_rfl) (by kernel_rfl) (by kernel_rfl) (by kernel_rfl) (by exact Nat.le_of_ble_eq_true rfl) ?_; refine wxs_nil ?_
  rw [Store.set_set, Store.set_set]
  exact ⟨_, fun _ _ h => h, rfl, h a d ha⟩
theorem s_cur_left {b : List UInt8} {k : Nat} {a d : Addr} (hi : σ a = some (.inst 219 d (curF b k))) (room : C.Room 1) (hd : b.length ≤ 16000000) (h : Q (.int ((b.length : Int) - (k : Nat))) σ) : WCode C (.raw (.ref 160)) [.ref a] ρ σ Q X := by
  refine wfun ["self"] [("self", .ref a)] (n := 0) (by exact rfl) (by exact rfl) room (b1 fun a => by exact rfl) (by exact rfl) (by decide +kernel) (by decide +kernel) fun L' gh room' => ?_
  refine x_return ?_; refine k_bin ?_; refine k_call ?_; refine we_b_len (by exact rfl) ?_; refine ⟨(by first | exact .builtin _ | exact .type _ | exact .K _ (by exact rfl)), ?_⟩; refine k_args ?_; refine k_attr ?_; refine we_pure 1 (by exact rfl) ?_; refine wget_inst (by first | exact .obj | exact .ref (by walk_at "wst")) (by kernel_rfl) (by kernel_rfl) (by kernel_rfl) (by exact rfl) (by intro w e; cases e) ?_; refine wargs_pure (by exact rfl) ?_; refine wlen_bytes (by first | assumption | lia) ?_; refine k_attr ?_; refine we_pure 1 (by exact rfl) ?_; refine wget_inst (by first | exact .obj | exact .ref (by walk_at "wst")) (by kernel_rfl) (by kernel_rfl) (by kernel_rfl) (by exact rfl) (by intro w e; cases e) ?_; refine wbin_sub ?_
  exact ⟨σ, fun _ _ h => h, h⟩
theorem s_cur_varint {b : List UInt8} {k : Nat} {a d : Addr} (hi : σ a = some (.inst 219 d (curF b k))) (room : C.Room 3) (hd : b.length ≤ 16000000) (h : ∀ n q, R10 b k = some (n, q) → Q (.int (n : Nat)) (σ.set a (.inst 219 d (curF b q)))) (hx : R10 b k = none → X) : WCode C (.raw (.ref 167)) [.ref a] ρ σ Q X := by
  refine wfun ["self"] [("self", .ref a)] (n := 2) (by exact rfl) (by exact rfl) room (b1 fun a => by exact rfl) (by exact rfl) (by decide +kernel) (by decide +kernel) fun L' gh room' => ?_
  refine x_assign ?_; refine k_attr ?_; refine we_pure 1 (by exact rfl) ?_; refine wget_inst (by first | exact .obj | exact .ref (by walk_at "wst")) (by kernel_rfl) (by kernel_rfl) (by kernel_rfl) (by exact rfl) (by intro w e; cases e) ?_; refine x_if ?_; refine t_and ?_; refine k_cmp ?_; refine we_pure 1 (by exact rfl) ?_; refine k_call ?_; refine we_b_len (by exact rfl) ?_; refine ⟨(by first | exact .builtin _ | exact .type _ | exact .K _ (by exact rfl)), ?_⟩; refine k_args ?_; refine k_attr ?_; refine we_pure 1 (by exact rfl) ?_; refine wget_inst (by first | exact .obj | exact .ref (by walk_at "wst")) (by kernel_rfl) (by kernel_rfl) (by kernel_rfl) (by exact rfl) (by intro w e; cases e) ?_; refine wargs_pure (by exact rfl) ?_; refine wlen_bytes (by first | assumption | lia) ?_; refine wcmp_lt ?_; refine wtru_bool ?_
  have slow : ∀ n q, R10 b k = some (n, q) → Store.Le (σ.set a (.inst 219 d (curF b q))) (σ.set a (.inst 219 d (fput "at" (.int (q : Nat)) (curF b k)))) := fun n q _ _ _ h => h
  refine ifC (fun h1 => ?_) fun h1 => ?_
  · have h1 := of_decide_eq_true h1
    refine a_and ?_; refine k_cmp ?_; refine k_sub ?_; refine k_attr ?_; refine we_pure 1 (by exact rfl) ?_; refine wget_inst (by first | exact .obj | exact .ref (by walk_at "wst")) (by kernel_rfl) (by kernel_rfl) (by kernel_rfl) (by exact rfl) (by intro w e; cases e) ?_; refine we_pure 1 (by exact rfl) ?_; refine wsub_bytes (by first | assumption | lia) (by lia) (by lia) ?_; refine we_int ?_; refine wcmp_lt ?_; refine wtru_bool ?_
    refine ifC (fun h2 => ?_) fun h2 => ?_
    · have h2 := of_decide_eq_true h2
      refine wall_and_nil ?_; refine ifT rfl ?_; refine x_setattr ?_; refine we_pure 4 (by exact rfl) ?_; refine we_pure 1 (by exact rfl) ?_; refine wset_inst (by walk_at "wst") (by kernel_rfl) (by kernel_rfl) (by kernel_rfl) (by kernel_rfl) (by exact Nat.le_of_ble_eq_true rfl) ?_; refine x_return ?_; refine k_sub ?_; refine k_attr ?_; refine we_pure 1 (by exact rfl) ?_; refine wget_inst (by first | exact .obj | exact .ref (by walk_at "wst")) (by kernel_rfl) (by kernel_rfl) (by kernel_rfl) (by exact rfl) (by intro w e; cases e) ?_; refine we_pure 1 (by exact rfl) ?_; refine wsub_bytes (by first | assumption | lia) (by lia) (by lia) ?_
      exact ⟨_, fun _ _ h => h, h _ _ (rg_fast (by decide) (by decide) (by lia) (by have e : (Int.toNat (k : Int)) = k := rfl; rw [e] at h2; lia))⟩
    · refine ifF rfl ?_; refine wxs_nil ?_; refine x_assign_t ?_; refine k_call ?_; refine we_pure 1 (by exact rfl) ?_; refine ⟨(by first | exact .builtin _ | exact .type _ | exact .K _ (by exact rfl)), ?_⟩; refine k_args ?_; refine k_attr ?_; refine we_pure 1 (by exact rfl) ?_; refine wget_inst (by first | exact .obj | exact .ref (by walk_at "wst")) (by kernel_rfl) (by kernel_rfl) (by kernel_rfl) (by exact rfl) (by intro w e; cases e) ?_; refine wargs_pure (by exact rfl) ?_
      refine (s_read_varint room' hd (fun n q e => ?_) hx).call
      refine wasg_tup2 ?_
      refine x_setattr ?_; refine we_pure 1 (by exact rfl) ?_; refine we_pure 1 (by exact rfl) ?_; refine wset_inst (by walk_at "wst") (by kernel_rfl) (by kernel_rfl) (by kernel_rfl) (by kernel_rfl) (by exact Nat.le_of_ble_eq_true rfl) ?_; refine x_return ?_; refine we_pure 1 (by exact rfl) ?_
      exact ⟨_, slow n q e, h n q e⟩
  · refine ifF rfl ?_; refine wxs_nil ?_; refine x_assign_t ?_; refine k_call ?_; refine we_pure 1 (by exact rfl) ?_; refine ⟨(by first | exact .builtin _ | exact .type _ | exact .K _ (by exact rfl)), ?_⟩; refine k_args ?_; refine k_attr ?_; refine we_pure 1 (by exact rfl) ?_; refine wget_inst (by first | exact .obj | exact .ref (by walk_at "wst")) (by kernel_rfl) (by kernel_rfl) (by kernel_rfl) (by exact rfl) (by intro w e; cases e) ?_; refine wargs_pure (by exact rfl) ?_
    refine (s_read_varint room' hd (fun n q e => ?_) hx).call
    refine wasg_tup2 ?_
    refine x_setattr ?_; refine we_pure 1 (by exact rfl) ?_; refine we_pure 1 (by exact rfl) ?_; refine wset_inst (by walk_at "wst") (by kernel_rfl) (by kernel_rfl) (by kernel_rfl) (by kernel_rfl) (by exact Nat.le_of_ble_eq_true rfl) ?_; refine x_return ?_; refine we_pure 1 (by exact rfl) ?_
    exact ⟨_, slow n q e, h n q e⟩
theorem s_cur_lengthed {b : List UInt8} {k : Nat} {a d : Addr} (hi : σ a = some (.inst 219 d (curF b k))) (room : C.Room 4) (hd : b.length ≤ 16000000) (h : ∀ c q, RL b k = some (c, q) → Q (.bytes c) (σ.set a (.inst 219 d (curF b q)))) (hx : RL b k = none → X) : WCode C (.raw (.ref 188)) [.ref a] ρ σ Q X := by
  refine wfun ["self"] [("self", .ref a)] (n := 3) (by exact rfl) (by exact rfl) room (b1 fun a => by exact rfl) (by exact rfl) (by decide +kernel) (by decide +kernel) fun L' gh room' => ?_
  refine x_assign_t ?_; refine k_call ?_; refine we_pure 1 (by exact rfl) ?_; refine ⟨(by first | exact .builtin _ | exact .type _ | exact .K _ (by exact rfl)), ?_⟩; refine k_args ?_; refine k_attr ?_; refine we_pure 1 (by exact rfl) ?_; refine wget_inst (by first | exact .obj | exact .ref (by walk_at "wst")) (by kernel_rfl) (by kernel_rfl) (by kernel_rfl) (by exact rfl) (by intro w e; cases e) ?_; refine k_args ?_; refine k_attr ?_; refine we_pure 1 (by exact rfl) ?_; refine wget_inst (by first | exact .obj | exact .ref (by walk_at "wst")) (by kernel_rfl) (by kernel_rfl) (by kernel_rfl) (by exact rfl) (by intro w e; cases e) ?_; refine wargs_pure (by exact rfl) ?_
  refine (s_read_lengthed room' hd (fun c q e => ?_) hx).call
  refine wasg_tup2 ?_
  refine x_setattr ?_; refine we_pure 1 (by exact rfl) ?_; refine we_pure 1 (by exact rfl) ?_; refine wset_inst (by walk_at "wst") (by kernel_rfl) (by kernel_rfl) (by kernel_rfl) (by kernel_rfl) (by exact Nat.le_of_ble_eq_true rfl) ?_; refine x_return ?_; refine we_pure 1 (by exact rfl) ?_
  exact ⟨_, fun _ _ h => h, h c q e⟩
theorem s_cur_flag {b : List UInt8} {k : Nat} {a d : Addr} (hi : σ a = some (.inst 219 d (curF b k))) (room : C.Room 1) (hd : b.length ≤ 16000000) (h : k < b.length → (b.getD k 0).toNat ≤ 1 → Q (.bool ((b.getD k 0).toNat == 1)) (σ.set a (.inst 219 d (curF b (k + 1))))) (hx : (b.length ≤ k ∨ 1 < (b.getD k 0).toNat) → X) : WCode C (.raw (.ref 202)) [.ref a] ρ σ Q X := by
  refine wfun ["self"] [("self", .ref a)] (n := 0) (by exact rfl) (by exact rfl) room (b1 fun a => by exact rfl) (by exact rfl) (by decide +kernel) (by decide +kernel) fun L' gh room' => ?_
  refine x_if ?_; refine k_cmp ?_; refine k_attr ?_; refine we_pure 1 (by exact rfl) ?_; refine wget_inst (by first | exact .obj | exact .ref (by walk_at "wst")) (by kernel_rfl) (by kernel_rfl) (by kernel_rfl) (by exact rfl) (by intro w e; cases e) ?_; refine k_call ?_; refine we_b_len (by exact rfl) ?_; refine ⟨(by first | exact .builtin _ | exact .type _ | exact .K _ (by exact rfl)), ?_⟩; refine k_args ?_; refine k_attr ?_; refine we_pure 1 (by exact rfl) ?_; refine wget_inst (by first | exact .obj | exact .ref (by walk_at "wst")) (by kernel_rfl) (by kernel_rfl) (by kernel_rfl) (by exact rfl) (by intro w e; cases e) ?_; refine wargs_pure (by exact rfl) ?_; refine wlen_bytes (by first | assumption | lia) ?_; refine wcmp_ge ?_; refine wtru_bool ?_
  refine ifC (fun h1 => ?_) fun h1 => ?_
  · have h1 := of_decide_eq_true h1
    refine x_cons ?_
    refine wx_short rfl (hx (.inl (by lia))) ?_
    refine k_args ?_; refine we_str (n := 200) (by decide +kernel) ?_; refine wargs_pure (by exact rfl) ?_; exact Nat.le_of_ble_eq_true rfl
  · have h1 := of_decide_eq_false h1
    refine wxs_nil ?_; refine x_assign ?_; refine k_sub ?_; refine k_attr ?_; refine we_pure 1 (by exact rfl) ?_; refine wget_inst (by first | exact .obj | exact .ref (by walk_at "wst")) (by kernel_rfl) (by kernel_rfl) (by kernel_rfl) (by exact rfl) (by intro w e; cases e) ?_; refine k_attr ?_; refine we_pure 1 (by exact rfl) ?_; refine wget_inst (by first | exact .obj | exact .ref (by walk_at "wst")) (by kernel_rfl) (by kernel_rfl) (by kernel_rfl) (by exact rfl) (by intro w e; cases e) ?_; refine wsub_bytes (by first | assumption | lia) (by lia) (by lia) ?_; refine x_if ?_; refine wtest_pcmp 4 (by exact rfl) ?_
    have e : (Int.toNat (k : Int)) = k := rfl
    rw [e]
    have hb : (b.getD k 0).toNat < 256 := UInt8.toNat_lt _
    refine ifC (fun h2 => ?_) fun h2 => ?_
    · have h2 := of_decide_eq_true h2
      refine x_cons ?_
      refine wx_corrupt rfl (hx (.inr (by lia))) ?_
      refine k_args ?_; refine we_fstr ?_; refine wjoin_cons ?_; refine we_str (n := 200) (by decide +kernel) ?_; refine ⟨_, rfl, Nat.le_of_ble_eq_true rfl, ?_⟩; refine wjoin_cons ?_; refine we_fval ?_; refine we_pure 1 (by exact rfl) ?_; refine ⟨_, rfl, (by first | lia | assumption), ?_⟩; refine ⟨_, rfl, Nat.le_of_ble_eq_true rfl, ?_⟩; refine wjoin_nil (by decide) ?_; refine wargs_pure (by exact rfl) ?_; exact Nat.le_of_ble_eq_true rfl
    · have h2 := of_decide_eq_false h2
      refine wxs_nil ?_; refine x_cons ?_; refine wx_augattr ?_; refine we_pure 1 (by exact rfl) ?_; refine wget_inst (by first | exact .obj | exact .ref (by walk_at "wst")) (by kernel_rfl) (by kernel_rfl) (by kernel_rfl) (by exact rfl) (by intro w e; cases e) ?_; refine we_int ?_; refine winp_add ?_; refine wset_inst (by walk_at "wst") (by kernel_rfl) (by kernel_rfl) (by kernel_rfl) (by kernel_rfl) (by exact Nat.le_of_ble_eq_true rfl) ?_; refine x_return ?_; refine we_pcmp 4 (by exact rfl) ?_
      refine ⟨_, fun _ _ h => h, ?_⟩
      have e2 : (((b.getD k 0).toNat : Int) == 1) = ((b.getD k 0).toNat == 1) := by
        by_cases hh : (b.getD k 0).toNat = 1
        · rw [hh]; rfl
        · rw [beq_false_of_ne hh, beq_false_of_ne (by lia)]
      rw [e2]
      exact h (by lia) (by lia)
theorem s_cur_done {b : List UInt8} {k : Nat} {a d : Addr} (hi : σ a = some (.inst 219 d (curF b k))) (room : C.Room 2) (hd : b.length ≤ 16000000) (hk : k < 2 ^ 64) (h : b.length ≤ k → Q .none σ) (hx : k < b.length → X) : WCode C (.raw (.ref 216)) [.ref a] ρ σ Q X := by
  refine wfun ["self"] [("self", .ref a)] (n := 1) (by exact rfl) (by exact rfl) room (b1 fun a => by exact rfl) (by exact rfl) (by decide +kernel) (by decide +kernel) fun L' gh room' => ?_
  refine x_if ?_; refine k_cmp ?_; refine k_attr ?_; refine we_pure 1 (by exact rfl) ?_; refine wget_inst (by first | exact .obj | exact .ref (by walk_at "wst")) (by kernel_rfl) (by kernel_rfl) (by kernel_rfl) (by exact rfl) (by intro w e; cases e) ?_; refine k_call ?_; refine we_b_len (by exact rfl) ?_; refine ⟨(by first | exact .builtin _ | exact .type _ | exact .K _ (by exact rfl)), ?_⟩; refine k_args ?_; refine k_attr ?_; refine we_pure 1 (by exact rfl) ?_; refine wget_inst (by first | exact .obj | exact .ref (by walk_at "wst")) (by kernel_rfl) (by kernel_rfl) (by kernel_rfl) (by exact rfl) (by intro w e; cases e) ?_; refine wargs_pure (by exact rfl) ?_; refine wlen_bytes (by first | assumption | lia) ?_; refine wcmp_lt ?_; refine wtru_bool ?_
  refine ifC (fun h1 => ?_) fun h1 => ?_
  · have h1 := of_decide_eq_true h1
    refine x_cons ?_
    refine wx_corrupt rfl (hx (by lia)) ?_
    refine k_args ?_; refine we_fstr ?_; refine wjoin_cons ?_; refine we_fval ?_; refine we_meth0 ?_; refine we_pure 1 (by exact rfl) ?_; refine wmeth_inst (by first | exact .obj | exact .ref (by walk_at "wst")) (by kernel_rfl) (by exact rfl) (by kernel_rfl) (by exact rfl) ?_; refine ⟨(by first | exact .builtin _ | exact .type _ | exact .K _ (by exact rfl)), ?_⟩
    refine (s_cur_left hi (by exact room') hd ?_).call
    refine ⟨_, rfl, (by first | lia | assumption), ?_⟩; refine ⟨_, rfl, Nat.le_of_ble_eq_true rfl, ?_⟩; refine wjoin_cons ?_; refine we_str (n := 200) (by decide +kernel) ?_; refine ⟨_, rfl, Nat.le_of_ble_eq_true rfl, ?_⟩; refine wjoin_nil (by decide) ?_; refine wargs_pure (by exact rfl) ?_; exact Nat.le_of_ble_eq_true rfl
  · have h1 := of_decide_eq_false h1
    refine wxs_nil ?_; refine wxs_nil ?_
    exact ⟨_, fun _ _ h => h, h (by lia)⟩

end
section
variable {prog : Program} {w : World} {mean : ExcName → Option Value} {mg mb : Str → Option Value} {C : Ctx (G0 prog w mean mg mb)} {ρ : Loc} {σ : Store} {Q Qr : V → Store → Prop} {Qn : Loc → Store → Prop} {X : Prop}
/-- a sink made since σ₀, holding b -/
structure Snk (σ₀ σ' : Store) (a d p : Addr) (b : List UInt8) : Prop where
  hi : σ' a = some (.inst 296 d [("parts", .ref p)])
  hp : σ' p = some (.barr b)
  le : Store.Le σ₀ σ'
  na : σ₀ a = none
  np : σ₀ p = none
theorem Store.le_set' {σ₀ σ' : Store} {p : Addr} (h : Store.Le σ₀ σ') (hp : σ₀ p = none) (o : AObj) : Store.Le σ₀ (σ'.set p o) := fun a x e => by
  have : a ≠ p := fun q => by subst q; rw [hp] at e; cases e
  rw [Store.set_ne _ _ this]
  exact h a x e
theorem Snk.put {σ₀ σ' : Store} {a d p : Addr} {b : List UInt8} (h : Snk σ₀ σ' a d p b) (c : List UInt8) : Snk σ₀ (σ'.set p (.barr c)) a d p c := by
  have hap : a ≠ p := fun q => by have := h.hi; rw [q, h.hp] at this; cases this
  exact ⟨(Store.set_ne _ _ hap).trans h.hi, Store.set_self .., Store.le_set' h.le h.np _, h.na, h.np⟩
theorem s_Sink (nd : C.nd = true) (room : C.Room 2) (h : ∀ a d p σ', Snk σ σ' a d p [] → Q (.ref a) σ') : WCall C (.raw (.ref 296)) [] ρ σ Q X := by
  refine wnewN (fI := 237) (by kernel_rfl) (by exact rfl) (by kernel_rfl) fun a d A' ha hroom => ?_
  refine wfun ["self"] [("self", .ref a)] (n := 0) (by exact rfl) (by exact rfl) (hroom _ room) (b1 fun a => by exact rfl) (by exact rfl) (by decide +kernel) (by decide +kernel) fun L' gh room' => ?_
  refine x_setattr ?_; refine we_call0 ?_; refine we_b_bytearray (by exact rfl) ?_; refine ⟨(by first | exact .builtin _ | exact .type _ | exact .K _ (by exact rfl)), ?_⟩
  refine wcall_bytearray (by exact nd) fun p hp => ?_
  have hap : a ≠ p := fun q => by subst q; rw [Store.set_self] at hp; cases hp
  have hi : ((σ.set a (.inst 296 d [])).set p (.barr [])) a = some (.inst 296 d []) := (Store.set_ne _ _ hap).trans (Store.set_self ..)
  refine we_pure 1 (by exact rfl) ?_; refine wset_inst (by walk_at "wst") (by kernel_rfl) (by kernel_rfl) (by kernel_rfl) (by kernel_rfl) (by exact Nat.le_of_ble_eq_true rfl) ?_; refine wxs_nil ?_
  refine ⟨_, fun _ _ h => h, rfl, h a d p _ ⟨Store.set_self .., ?_, ?_, ha, (Store.set_ne _ _ (Ne.symm hap)).symm.trans hp⟩⟩
  · exact (Store.set_ne _ _ (Ne.symm hap)).trans (Store.set_self ..)
  · exact Store.le_set' (Store.le_set' (Store.le_set ha _) ((Store.set_ne _ _ (Ne.symm hap)).symm.trans hp) _) ha _
theorem s_snk_varint {σ₀ : Store} {b : List UInt8} {n : Nat} {a d p : Addr} (nd : C.nd = true) (k : Snk σ₀ σ a d p b) (room : C.Room 3) (hb : b.length ≤ 1000000) (hn : n < 2 ^ 64) (h : ∀ σ', Snk σ₀ σ' a d p (b ++ leb n) → Q .none σ') : WCode C (.raw (.ref 244)) [.ref a, .int (n : Nat)] ρ σ Q X := by
  have hi := k.hi
  have hp := k.hp
  refine wfun ["self", "n"] [("self", .ref a), ("n", .int (n : Nat))] (n := 2) (by exact rfl) (by exact rfl) room (b2 fun a b => by exact rfl) (by exact rfl) (by decide +kernel) (by decide +kernel) fun L' gh room' => ?_
  refine x_if ?_; refine t_and ?_; refine wtest_pcmp 4 (by exact rfl) ?_; refine ifT (dT (by lia)) ?_; refine a_and ?_; refine wtest_pcmp 4 (by exact rfl) ?_
  refine ifC (fun h1 => ?_) fun h1 => ?_
  · have h1 := of_decide_eq_true h1
    refine wall_and_nil ?_; refine ifT rfl ?_; refine x_expr ?_; refine we_meth ?_; refine k_attr ?_; refine we_pure 1 (by exact rfl) ?_; refine wget_inst (by first | exact .obj | exact .ref (by walk_at "wst")) (by kernel_rfl) (by kernel_rfl) (by kernel_rfl) (by exact rfl) (by intro w e; cases e) ?_; refine wmeth_barr_append (by walk_at "wst") ?_; refine ⟨(by first | exact .builtin _ | exact .type _ | exact .K _ (by exact rfl)), ?_⟩; refine wargs_pure (by exact rfl) ?_
    refine wcall_barr_append (by exact nd) hp (by lia) (by lia) (by lia) ⟨rfl, ?_⟩
    refine wxs_nil ?_; refine wxs_nil ?_
    refine ⟨_, fun _ _ h => h, h _ ?_⟩
    rw [leb_small (by lia)]
    exact k.put _
  · have h1 := of_decide_eq_false h1
    refine ifF rfl ?_; refine x_expr ?_; refine we_meth ?_; refine k_attr ?_; refine we_pure 1 (by exact rfl) ?_; refine wget_inst (by first | exact .obj | exact .ref (by walk_at "wst")) (by kernel_rfl) (by kernel_rfl) (by kernel_rfl) (by exact rfl) (by intro w e; cases e) ?_; refine wmeth_barr_extend (by walk_at "wst") ?_; refine ⟨(by first | exact .builtin _ | exact .type _ | exact .K _ (by exact rfl)), ?_⟩; refine k_args ?_; refine e_call (by exact rfl) (by first | exact .builtin _ | exact .type _ | exact .K _ (by exact rfl)) (by exact rfl) ?_
    refine (s_put_varint (by exact nd) room' hn ?_).call
    refine wargs_pure (by exact rfl) ?_
    have : (leb n).length ≤ 10 := leb_len 10 (by lia) (by decide)
    refine wcall_barr_extend (by exact nd) hp (by lia) ⟨rfl, ?_⟩
    refine wxs_nil ?_; refine wxs_nil ?_
    exact ⟨_, fun _ _ h => h, h _ (k.put _)⟩
theorem s_snk_lengthed {σ₀ : Store} {b c : List UInt8} {a d p : Addr} (nd : C.nd = true) (k : Snk σ₀ σ a d p b) (room : C.Room 3) (hb : b.length ≤ 1000000) (hc : c.length ≤ 1000000) (h : ∀ σ', Snk σ₀ σ' a d p (b ++ leb c.length ++ c) → Q .none σ') : WCode C (.raw (.ref 265)) [.ref a, .bytes c] ρ σ Q X := by
  have hi := k.hi
  have hp := k.hp
  refine wfun ["self", "b"] [("self", .ref a), ("b", .bytes c)] (n := 2) (by exact rfl) (by exact rfl) room (b2 fun a b => by exact rfl) (by exact rfl) (by decide +kernel) (by decide +kernel) fun L' gh room' => ?_
  refine x_expr ?_; refine we_meth ?_; refine k_attr ?_; refine we_pure 1 (by exact rfl) ?_; refine wget_inst (by first | exact .obj | exact .ref (by walk_at "wst")) (by kernel_rfl) (by kernel_rfl) (by kernel_rfl) (by exact rfl) (by intro w e; cases e) ?_; refine wmeth_barr_extend (by walk_at "wst") ?_; refine ⟨(by first | exact .builtin _ | exact .type _ | exact .K _ (by exact rfl)), ?_⟩; refine k_args ?_; refine k_call ?_; refine we_pure 1 (by exact rfl) ?_; refine ⟨(by first | exact .builtin _ | exact .type _ | exact .K _ (by exact rfl)), ?_⟩; refine k_args ?_; refine k_call ?_; refine we_b_len (by exact rfl) ?_; refine ⟨(by first | exact .builtin _ | exact .type _ | exact .K _ (by exact rfl)), ?_⟩; refine wargs_pure (by exact rfl) ?_; refine wlen_bytes (by first | assumption | lia) ?_; refine wargs_pure (by exact rfl) ?_
  refine (s_put_varint32 (by exact nd) room' (by lia) ?_).call
  refine wargs_pure (by exact rfl) ?_
  have hl : (leb c.length).length ≤ 10 := leb_len 10 (by lia) (by decide)
  refine wcall_barr_extend (by exact nd) hp (by lia) ⟨rfl, ?_⟩
  have k2 := k.put (b ++ leb c.length)
  have hi2 := k2.hi
  have hp2 := k2.hp
  generalize σ.set p (.barr (b ++ leb c.length)) = σ₂ at k2 hi2 hp2 ⊢
  refine x_expr ?_; refine we_meth ?_; refine k_attr ?_; refine we_pure 1 (by exact rfl) ?_; refine wget_inst (by first | exact .obj | exact .ref (by walk_at "wst")) (by kernel_rfl) (by kernel_rfl) (by kernel_rfl) (by exact rfl) (by intro w e; cases e) ?_; refine wmeth_barr_extend (by walk_at "wst") ?_; refine ⟨(by first | exact .builtin _ | exact .type _ | exact .K _ (by exact rfl)), ?_⟩; refine wargs_pure (by exact rfl) ?_
  refine wcall_barr_extend (by exact nd) hp2 (by simp; lia) ⟨rfl, ?_⟩
  refine wxs_nil ?_
  exact ⟨_, fun _ _ h => h, h _ (k2.put _)⟩
theorem s_snk_octet {σ₀ : Store} {b : List UInt8} {n : Nat} {a d p : Addr} (nd : C.nd = true) (k : Snk σ₀ σ a d p b) (room : C.Room 1) (hb : b.length ≤ 1000000) (hn : n < 256) (h : ∀ σ', Snk σ₀ σ' a d p (b ++ [n.toUInt8]) → Q .none σ') : WCode C (.raw (.ref 272)) [.ref a, .int (n : Nat)] ρ σ Q X := by
  have hi := k.hi
  have hp := k.hp
  refine wfun ["self", "n"] [("self", .ref a), ("n", .int (n : Nat))] (n := 0) (by exact rfl) (by exact rfl) room (b2 fun a b => by exact rfl) (by exact rfl) (by decide +kernel) (by decide +kernel) fun L' gh room' => ?_
  refine x_if ?_; refine t_or ?_; refine wtest_pcmp 4 (by exact rfl) ?_; refine ifF (dF (by lia)) ?_; refine p_or_f (by exact rfl) (dF (by lia)) ?_; refine wall_or_nil ?_; refine ifF rfl ?_; refine wxs_nil ?_; refine x_expr ?_; refine we_meth ?_; refine k_attr ?_; refine we_pure 1 (by exact rfl) ?_; refine wget_inst (by first | exact .obj | exact .ref (by walk_at "wst")) (by kernel_rfl) (by kernel_rfl) (by kernel_rfl) (by exact rfl) (by intro w e; cases e) ?_; refine wmeth_barr_append (by walk_at "wst") ?_; refine ⟨(by first | exact .builtin _ | exact .type _ | exact .K _ (by exact rfl)), ?_⟩; refine wargs_pure (by exact rfl) ?_
  refine wcall_barr_append (by exact nd) hp (by lia) (by lia) (by lia) ⟨rfl, ?_⟩
  refine wxs_nil ?_
  exact ⟨_, fun _ _ h => h, h _ (k.put _)⟩
theorem s_snk_flag {σ₀ : Store} {b : List UInt8} {t : Bool} {a d p : Addr} (nd : C.nd = true) (k : Snk σ₀ σ a d p b) (room : C.Room 1) (hb : b.length ≤ 1000000) (h : ∀ σ', Snk σ₀ σ' a d p (b ++ [if t then 1 else 0]) → Q .none σ') : WCode C (.raw (.ref 279)) [.ref a, .bool t] ρ σ Q X := by
  have hi := k.hi
  have hp := k.hp
  refine wfun ["self", "b"] [("self", .ref a), ("b", .bool t)] (n := 0) (by exact rfl) (by exact rfl) room (b2 fun a b => by exact rfl) (by exact rfl) (by decide +kernel) (by decide +kernel) fun L' gh room' => ?_
  cases t
  · refine x_if ?_; refine wtest_value ?_; refine we_pure 1 (by exact rfl) ?_; refine wtru_bool ?_; refine ifF rfl ?_; refine x_expr ?_; refine we_meth ?_; refine k_attr ?_; refine we_pure 1 (by exact rfl) ?_; refine wget_inst (by first | exact .obj | exact .ref (by walk_at "wst")) (by kernel_rfl) (by kernel_rfl) (by kernel_rfl) (by exact rfl) (by intro w e; cases e) ?_; refine wmeth_barr_append (by walk_at "wst") ?_; refine ⟨(by first | exact .builtin _ | exact .type _ | exact .K _ (by exact rfl)), ?_⟩; refine wargs_pure (by exact rfl) ?_
    refine wcall_barr_append (by exact nd) hp (by lia) (by lia) (by lia) ⟨rfl, ?_⟩
    refine wxs_nil ?_; refine wxs_nil ?_
    exact ⟨_, fun _ _ h => h, h _ (k.put _)⟩
  · refine x_if ?_; refine wtest_value ?_; refine we_pure 1 (by exact rfl) ?_; refine wtru_bool ?_; refine ifT rfl ?_; refine x_expr ?_; refine we_meth ?_; refine k_attr ?_; refine we_pure 1 (by exact rfl) ?_; refine wget_inst (by first | exact .obj | exact .ref (by walk_at "wst")) (by kernel_rfl) (by kernel_rfl) (by kernel_rfl) (by exact rfl) (by intro w e; cases e) ?_; refine wmeth_barr_append (by walk_at "wst") ?_; refine ⟨(by first | exact .builtin _ | exact .type _ | exact .K _ (by exact rfl)), ?_⟩; refine wargs_pure (by exact rfl) ?_
    refine wcall_barr_append (by exact nd) hp (by lia) (by lia) (by lia) ⟨rfl, ?_⟩
    refine wxs_nil ?_; refine wxs_nil ?_
    exact ⟨_, fun _ _ h => h, h _ (k.put _)⟩
theorem s_snk_done {σ₀ : Store} {b : List UInt8} {a d p : Addr} (k : Snk σ₀ σ a d p b) (room : C.Room 1) (hb : b.length ≤ 1000000) (h : Q (.bytes b) σ) : WCode C (.raw (.ref 293)) [.ref a] ρ σ Q X := by
  have hi := k.hi
  have hp := k.hp
  refine wfun ["self"] [("self", .ref a)] (n := 0) (by exact rfl) (by exact rfl) room (b1 fun a => by exact rfl) (by exact rfl) (by decide +kernel) (by decide +kernel) fun L' gh room' => ?_
  refine x_return ?_; refine k_call ?_; refine we_b_bytes (by exact rfl) ?_; refine ⟨(by first | exact .builtin _ | exact .type _ | exact .K _ (by exact rfl)), ?_⟩; refine k_args ?_; refine k_attr ?_; refine we_pure 1 (by exact rfl) ?_; refine wget_inst (by first | exact .obj | exact .ref (by walk_at "wst")) (by kernel_rfl) (by kernel_rfl) (by kernel_rfl) (by exact rfl) (by intro w e; cases e) ?_; refine wargs_pure (by exact rfl) ?_
  exact wcall_bytes_barr hp (by lia) ⟨_, fun _ _ h => h, h⟩

end
section
variable {prog : Program} {w : World} {mean : ExcName → Option Value} {mg mb : Str → Option Value} {C : Ctx (G0 prog w mean mg mb)} {ρ : Loc} {σ : Store} {Q Qr : V → Store → Prop} {Qn : Loc → Store → Prop} {X : Prop}
theorem Store.del_set {σ : Store} {a : Addr} (h : σ a = none) (o : AObj) : (σ.set a o).del a = σ := by
  funext b
  unfold Store.del Store.set
  by_cases e : b = a
  · rw [if_pos e, e, h]
  · rw [if_neg e, if_neg e]
noncomputable abbrev entF (t i k : Nat) (d : List UInt8) : Flds := [("term", .int (t : Nat)), ("index", .int (i : Nat)), ("kind", .int (k : Nat)), ("data", .bytes d)]
noncomputable abbrev hardF (t v c : Nat) : Flds := [("term", .int (t : Nat)), ("vote", .int (v : Nat)), ("commit", .int (c : Nat))]
theorem s_Entry {t i k : Nat} {d : List UInt8} (room : C.Room 2) (h : Q (.obj 359 (entF t i k d)) σ) : WCall C (.raw (.ref 359)) [.int (t : Nat), .int (i : Nat), .int (k : Nat), .bytes d] ρ σ Q X := by
  refine WCall.frz (wnewN (fI := 328) (by kernel_rfl) (by exact rfl) (by kernel_rfl) fun a dd A' ha hroom => ?_)
  refine wfun ["self", "term", "index", "kind", "data"] [("self", .ref a), ("term", .int (t : Nat)), ("index", .int (i : Nat)), ("kind", .int (k : Nat)), ("data", .bytes d)] (n := 0) (by exact rfl) (by exact rfl) (hroom _ room) (b5 fun a b c d e => by exact rfl) (by exact rfl) (by decide +kernel) (by decide +kernel) fun L' gh room' => ?_
  refine x_setattr ?_; refine we_pure 1 (by exact rfl) ?_; refine we_pure 1 (by exact rfl) ?_; refine wset_inst (by walk_at "wst") (by kernel_rfl) (by kernel_rfl) (by kernel_rfl) (by kernel_rfl) (by exact Nat.le_of_ble_eq_true rfl) ?_; refine x_setattr ?_; refine we_pure 1 (by exact rfl) ?_; refine we_pure 1 (by exact rfl) ?_; refine wset_inst (by walk_at "wst") (by kernel_rfl) (by kernel_rfl) (by kernel_rfl) (by kernel_rfl) (by exact Nat.le_of_ble_eq_true rfl) ?_; refine x_setattr ?_; refine we_pure 1 (by exact rfl) ?_; refine we_pure 1 (by exact rfl) ?_; refine wset_inst (by walk_at "wst") (by kernel_rfl) (by kernel_rfl) (by kernel_rfl) (by kernel_rfl) (by exact Nat.le_of_ble_eq_true rfl) ?_; refine x_setattr ?_; refine we_pure 1 (by exact rfl) ?_; refine we_pure 1 (by exact rfl) ?_; refine wset_inst (by walk_at "wst") (by kernel_rfl) (by kernel_rfl) (by kernel_rfl) (by kernel_rfl) (by exact Nat.le_of_ble_eq_true rfl) ?_; refine wxs_nil ?_
  rw [Store.set_set, Store.set_set, Store.set_set, Store.set_set]
  refine ⟨_, fun _ _ h => h, rfl, _, _, .inst (Store.set_self ..), ?_⟩
  rw [Store.del_set ha]
  exact h
theorem s_ent_row {t i k : Nat} {d : List UInt8} (room : C.Room 1) (h : Q (.tup [.int (t : Nat), .int (i : Nat), .int (k : Nat), .bytes d]) σ) : WCode C (.raw (.ref 335)) [.obj 359 (entF t i k d)] ρ σ Q X := by
  refine wfun ["self"] [("self", .obj 359 (entF t i k d))] (n := 0) (by exact rfl) (by exact rfl) room (b1 fun a => by exact rfl) (by exact rfl) (by decide +kernel) (by decide +kernel) fun L' gh room' => ?_
  refine x_return ?_; refine k_tuple ?_; refine k_args ?_; refine k_attr ?_; refine we_pure 1 (by exact rfl) ?_; refine wget_inst (by first | exact .obj | exact .ref (by walk_at "wst")) (by kernel_rfl) (by kernel_rfl) (by kernel_rfl) (by exact rfl) (by intro w e; cases e) ?_; refine k_args ?_; refine k_attr ?_; refine we_pure 1 (by exact rfl) ?_; refine wget_inst (by first | exact .obj | exact .ref (by walk_at "wst")) (by kernel_rfl) (by kernel_rfl) (by kernel_rfl) (by exact rfl) (by intro w e; cases e) ?_; refine k_args ?_; refine k_attr ?_; refine we_pure 1 (by exact rfl) ?_; refine wget_inst (by first | exact .obj | exact .ref (by walk_at "wst")) (by kernel_rfl) (by kernel_rfl) (by kernel_rfl) (by exact rfl) (by intro w e; cases e) ?_; refine k_args ?_; refine k_attr ?_; refine we_pure 1 (by exact rfl) ?_; refine wget_inst (by first | exact .obj | exact .ref (by walk_at "wst")) (by kernel_rfl) (by kernel_rfl) (by kernel_rfl) (by exact rfl) (by intro w e; cases e) ?_; refine wargs_pure (by exact rfl) ?_; refine ⟨Nat.le_of_ble_eq_true rfl, ?_⟩
  exact ⟨_, fun _ _ h => h, h⟩
noncomputable def encE (t i k : Nat) (d : List UInt8) : List UInt8 := leb t ++ leb i ++ leb k ++ leb d.length ++ d
theorem leb10 {n : Nat} (h : n < 2 ^ 64) : (leb n).length ≤ 10 := leb_len 10 (by lia) (by decide)
theorem s_encode_entry {t i k : Nat} {d : List UInt8} (nd : C.nd = true) (room : C.Room 4) (ht : t < 2 ^ 64) (hi : i < 2 ^ 64) (hk : k < 2 ^ 64) (hd : d.length ≤ 10000) (h : Q (.bytes (encE t i k d)) σ) : WCode C (.raw (.ref 370)) [.obj 359 (entF t i k d)] ρ σ Q X := by
  refine wfun ["entry"] [("entry", .obj 359 (entF t i k d))] (n := 3) (by exact rfl) (by exact rfl) room (b1 fun a => by exact rfl) (by exact rfl) (by decide +kernel) (by decide +kernel) fun L' gh room' => ?_
  have l1 := leb10 ht
  have l2 := leb10 hi
  have l3 := leb10 hk
  have l4 : (leb d.length).length ≤ 10 := leb10 (by lia)
  refine x_assign ?_; refine we_call0 ?_; refine we_pure 1 (by exact rfl) ?_; refine ⟨(by first | exact .builtin _ | exact .type _ | exact .K _ (by exact rfl)), ?_⟩
  refine s_Sink (by exact nd) (room'.le (by decide)) fun a dd p σ₁ k1 => ?_
  have g1 := k1.hi
  refine x_expr ?_; refine we_meth ?_; refine we_pure 1 (by exact rfl) ?_; refine wmeth_inst (by first | exact .obj | exact .ref (by walk_at "wst")) (by kernel_rfl) (by exact rfl) (by kernel_rfl) (by exact rfl) ?_; refine ⟨(by first | exact .builtin _ | exact .type _ | exact .K _ (by exact rfl)), ?_⟩; refine k_args ?_; refine k_attr ?_; refine we_pure 1 (by exact rfl) ?_; refine wget_inst (by first | exact .obj | exact .ref (by walk_at "wst")) (by kernel_rfl) (by kernel_rfl) (by kernel_rfl) (by exact rfl) (by intro w e; cases e) ?_; refine wargs_pure (by exact rfl) ?_
  refine (s_snk_varint (by exact nd) k1 room' (by simp) ht fun σ₂ k2 => ⟨rfl, ?_⟩).call
  have g2 := k2.hi
  refine x_expr ?_; refine we_meth ?_; refine we_pure 1 (by exact rfl) ?_; refine wmeth_inst (by first | exact .obj | exact .ref (by walk_at "wst")) (by kernel_rfl) (by exact rfl) (by kernel_rfl) (by exact rfl) ?_; refine ⟨(by first | exact .builtin _ | exact .type _ | exact .K _ (by exact rfl)), ?_⟩; refine k_args ?_; refine k_attr ?_; refine we_pure 1 (by exact rfl) ?_; refine wget_inst (by first | exact .obj | exact .ref (by walk_at "wst")) (by kernel_rfl) (by kernel_rfl) (by kernel_rfl) (by exact rfl) (by intro w e; cases e) ?_; refine wargs_pure (by exact rfl) ?_
  refine (s_snk_varint (by exact nd) k2 room' (by simp; lia) hi fun σ₃ k3 => ⟨rfl, ?_⟩).call
  have g3 := k3.hi
  refine x_expr ?_; refine we_meth ?_; refine we_pure 1 (by exact rfl) ?_; refine wmeth_inst (by first | exact .obj | exact .ref (by walk_at "wst")) (by kernel_rfl) (by exact rfl) (by kernel_rfl) (by exact rfl) ?_; refine ⟨(by first | exact .builtin _ | exact .type _ | exact .K _ (by exact rfl)), ?_⟩; refine k_args ?_; refine k_attr ?_; refine we_pure 1 (by exact rfl) ?_; refine wget_inst (by first | exact .obj | exact .ref (by walk_at "wst")) (by kernel_rfl) (by kernel_rfl) (by kernel_rfl) (by exact rfl) (by intro w e; cases e) ?_; refine wargs_pure (by exact rfl) ?_
  refine (s_snk_varint (by exact nd) k3 room' (by simp; lia) hk fun σ₄ k4 => ⟨rfl, ?_⟩).call
  have g4 := k4.hi
  refine x_expr ?_; refine we_meth ?_; refine we_pure 1 (by exact rfl) ?_; refine wmeth_inst (by first | exact .obj | exact .ref (by walk_at "wst")) (by kernel_rfl) (by exact rfl) (by kernel_rfl) (by exact rfl) ?_; refine ⟨(by first | exact .builtin _ | exact .type _ | exact .K _ (by exact rfl)), ?_⟩; refine k_args ?_; refine k_attr ?_; refine we_pure 1 (by exact rfl) ?_; refine wget_inst (by first | exact .obj | exact .ref (by walk_at "wst")) (by kernel_rfl) (by kernel_rfl) (by kernel_rfl) (by exact rfl) (by intro w e; cases e) ?_; refine wargs_pure (by exact rfl) ?_
  refine (s_snk_lengthed (by exact nd) k4 room' (by simp; lia) (by lia) fun σ₅ k5 => ⟨rfl, ?_⟩).call
  have g5 := k5.hi
  refine x_return ?_; refine we_meth0 ?_; refine we_pure 1 (by exact rfl) ?_; refine wmeth_inst (by first | exact .obj | exact .ref (by walk_at "wst")) (by kernel_rfl) (by exact rfl) (by kernel_rfl) (by exact rfl) ?_; refine ⟨(by first | exact .builtin _ | exact .type _ | exact .K _ (by exact rfl)), ?_⟩
  refine (s_snk_done k5 (room'.le (by decide)) (by simp; lia) ⟨σ, k5.le, ?_⟩).call
  exact h
theorem s_entry_record {t i k : Nat} {d : List UInt8} (nd : C.nd = true) (room : C.Room 5) (ht : t < 2 ^ 64) (hi : i < 2 ^ 64) (hk : k < 2 ^ 64) (hd : d.length ≤ 10000) (h : Q (.bytes (2 :: encE t i k d)) σ) : WCode C (.raw (.ref 503)) [.obj 359 (entF t i k d)] ρ σ Q X := by
  refine wfun ["entry"] [("entry", .obj 359 (entF t i k d))] (n := 4) (by exact rfl) (by exact rfl) room (b1 fun a => by exact rfl) (by exact rfl) (by decide +kernel) (by decide +kernel) fun L' gh room' => ?_
  have l1 := leb10 ht
  have l2 := leb10 hi
  have l3 := leb10 hk
  have l4 : (leb d.length).length ≤ 10 := leb10 (by lia)
  refine x_return ?_; refine k_bin ?_; refine k_call ?_; refine we_b_bytes (by exact rfl) ?_; refine ⟨(by first | exact .builtin _ | exact .type _ | exact .K _ (by exact rfl)), ?_⟩; refine k_args ?_; refine we_list ?_; refine wargs_pure (by exact rfl) ?_; refine ⟨Nat.le_of_ble_eq_true rfl, ?_⟩
  intro a ha
  refine wargs_pure (by exact rfl) ?_
  refine wcall_bytes_ints (ns := [2]) (.ref (Store.set_self ..)) (by simp) (Nat.le_of_ble_eq_true rfl) ?_
  refine e_call (by exact rfl) (by first | exact .builtin _ | exact .type _ | exact .K _ (by exact rfl)) (by exact rfl) ?_
  refine (s_encode_entry (by exact nd) room' ht hi hk hd ?_).call
  refine wbin_bytes (by unfold encE; simp; lia) ⟨σ, Store.le_set ha _, h⟩
/-- an entry out of its octets -/
noncomputable def DE (b : List UInt8) : Option (Nat × Nat × Nat × List UInt8) := match R10 b 0 with
  | none => none
  | some (t, p) => match R10 b p with
    | none => none
    | some (i, p) => match R10 b p with
      | none => none
      | some (k, p) => if k ≠ 0 ∧ k ≠ 2 then none else match RL b p with
        | none => none
        | some (c, p) => if p < b.length then none else some (t, i, k, c)
theorem RL_le {b c : List UInt8} {p q : Nat} (h : RL b p = some (c, q)) : q ≤ b.length := by
  unfold RL at h
  split at h
  · cases h
  · split at h
    · cases h
    · cases h; lia
theorem s_decode_entry {b : List UInt8} (room : C.Room 5) (hb : b.length ≤ 1000000) (h : ∀ t i k c, DE b = some (t, i, k, c) → Q (.obj 359 (entF t i k c)) σ) (hx : DE b = none → X) : WCode C (.raw (.ref 377)) [.bytes b] ρ σ Q X := by
  refine wfun ["data"] [("data", .bytes b)] (n := 4) (by exact rfl) (by exact rfl) room (b1 fun a => by exact rfl) (by exact rfl) (by decide +kernel) (by decide +kernel) fun L' gh room' => ?_
  refine x_assign ?_; refine e_call (by exact rfl) (by first | exact .builtin _ | exact .type _ | exact .K _ (by exact rfl)) (by exact rfl) ?_
  refine s_Cursor1 (room'.le (by decide)) (by lia) fun a d ha => ?_
  refine x_assign ?_; refine we_meth0 ?_; refine we_pure 1 (by exact rfl) ?_; refine wmeth_inst (by first | exact .obj | exact .ref (by walk_at "wst")) (by kernel_rfl) (by exact rfl) (by kernel_rfl) (by exact rfl) ?_; refine ⟨(by first | exact .builtin _ | exact .type _ | exact .K _ (by exact rfl)), ?_⟩
  refine (s_cur_varint (Store.set_self ..) (room'.le (by decide)) (by lia) (fun t p e1 => ?_) fun e => hx (by unfold DE; rw [e])).call
  rw [Store.set_set]
  refine x_assign ?_; refine we_meth0 ?_; refine we_pure 1 (by exact rfl) ?_; refine wmeth_inst (by first | exact .obj | exact .ref (by walk_at "wst")) (by kernel_rfl) (by exact rfl) (by kernel_rfl) (by exact rfl) ?_; refine ⟨(by first | exact .builtin _ | exact .type _ | exact .K _ (by exact rfl)), ?_⟩
  refine (s_cur_varint (Store.set_self ..) (room'.le (by decide)) (by lia) (fun i p2 e2 => ?_) fun e => hx (by unfold DE; rw [e1]; dsimp only; rw [e])).call
  rw [Store.set_set]
  refine x_assign ?_; refine we_meth0 ?_; refine we_pure 1 (by exact rfl) ?_; refine wmeth_inst (by first | exact .obj | exact .ref (by walk_at "wst")) (by kernel_rfl) (by exact rfl) (by kernel_rfl) (by exact rfl) ?_; refine ⟨(by first | exact .builtin _ | exact .type _ | exact .K _ (by exact rfl)), ?_⟩
  refine (s_cur_varint (Store.set_self ..) (room'.le (by decide)) (by lia) (fun k p3 e3 => ?_) fun e => hx (by unfold DE; rw [e1]; dsimp only; rw [e2]; dsimp only; rw [e])).call
  rw [Store.set_set]
  refine x_if ?_; refine t_and ?_; refine wtest_pcmp 4 (by exact rfl) ?_
  have eD : DE b = if k ≠ 0 ∧ k ≠ 2 then none else match RL b p3 with
        | none => none
        | some (c, p) => if p < b.length then none else some (t, i, k, c) := by unfold DE; rw [e1]; dsimp only; rw [e2]; dsimp only; rw [e3]
  obtain ⟨hkm, _⟩ := rg_bounds e3
  refine ifC (fun h1 => ?_) fun h1 => ?_
  · refine a_and ?_; refine wtest_pcmp 4 (by exact rfl) ?_
    refine ifC (fun h2 => ?_) fun h2 => ?_
    · have h3 : k ≠ 0 ∧ k ≠ 2 := by
        simp only [bne_iff_ne, ne_eq] at h1 h2
        lia
      refine wall_and_nil ?_; refine ifT rfl ?_; refine x_cons ?_
      refine wx_corrupt rfl (hx (by rw [eD, if_pos h3])) ?_
      refine k_args ?_; refine we_fstr ?_; refine wjoin_cons ?_; refine we_str (n := 200) (by decide +kernel) ?_; refine ⟨_, rfl, Nat.le_of_ble_eq_true rfl, ?_⟩; refine wjoin_cons ?_; refine we_fval ?_; refine we_pure 1 (by exact rfl) ?_; refine ⟨_, rfl, (by first | lia | assumption), ?_⟩; refine ⟨_, rfl, Nat.le_of_ble_eq_true rfl, ?_⟩; refine wjoin_nil (by decide) ?_; refine wargs_pure (by exact rfl) ?_; exact Nat.le_of_ble_eq_true rfl
    · have hk : ¬ (k ≠ 0 ∧ k ≠ 2) := by
        simp only [bne_iff_ne, ne_eq, bne_eq_false_iff_eq] at h1 h2
        lia
      refine ifF rfl ?_; refine wxs_nil ?_; refine x_assign ?_; refine we_meth0 ?_; refine we_pure 1 (by exact rfl) ?_; refine wmeth_inst (by first | exact .obj | exact .ref (by walk_at "wst")) (by kernel_rfl) (by exact rfl) (by kernel_rfl) (by exact rfl) ?_; refine ⟨(by first | exact .builtin _ | exact .type _ | exact .K _ (by exact rfl)), ?_⟩
      rw [if_neg hk] at eD
      refine (s_cur_lengthed (Store.set_self ..) (room'.le (by decide)) (by lia) (fun c p4 e4 => ?_) fun e => hx (by rw [eD, e])).call
      rw [Store.set_set]
      rw [e4] at eD
      dsimp only at eD
      have := RL_le e4
      refine x_expr ?_; refine we_meth0 ?_; refine we_pure 1 (by exact rfl) ?_; refine wmeth_inst (by first | exact .obj | exact .ref (by walk_at "wst")) (by kernel_rfl) (by exact rfl) (by kernel_rfl) (by exact rfl) ?_; refine ⟨(by first | exact .builtin _ | exact .type _ | exact .K _ (by exact rfl)), ?_⟩
      refine (s_cur_done (Store.set_self ..) (room'.le (by decide)) (by lia) (by lia) (fun hl => ⟨rfl, ?_⟩) fun hl => hx (by rw [eD, if_pos hl])).call
      rw [if_neg (by lia)] at eD
      refine x_return ?_; refine e_call (by exact rfl) (by first | exact .builtin _ | exact .type _ | exact .K _ (by exact rfl)) (by exact rfl) ?_
      exact s_Entry (room'.le (by decide)) ⟨σ, Store.le_set ha _, h _ _ _ _ eD⟩
  · have hk : ¬ (k ≠ 0 ∧ k ≠ 2) := by
      simp only [bne_eq_false_iff_eq] at h1
      lia
    refine ifF rfl ?_; refine wxs_nil ?_; refine x_assign ?_; refine we_meth0 ?_; refine we_pure 1 (by exact rfl) ?_; refine wmeth_inst (by first | exact .obj | exact .ref (by walk_at "wst")) (by kernel_rfl) (by exact rfl) (by kernel_rfl) (by exact rfl) ?_; refine ⟨(by first | exact .builtin _ | exact .type _ | exact .K _ (by exact rfl)), ?_⟩
    rw [if_neg hk] at eD
    refine (s_cur_lengthed (Store.set_self ..) (room'.le (by decide)) (by lia) (fun c p4 e4 => ?_) fun e => hx (by rw [eD, e])).call
    rw [Store.set_set]
    rw [e4] at eD
    dsimp only at eD
    have := RL_le e4
    refine x_expr ?_; refine we_meth0 ?_; refine we_pure 1 (by exact rfl) ?_; refine wmeth_inst (by first | exact .obj | exact .ref (by walk_at "wst")) (by kernel_rfl) (by exact rfl) (by kernel_rfl) (by exact rfl) ?_; refine ⟨(by first | exact .builtin _ | exact .type _ | exact .K _ (by exact rfl)), ?_⟩
    refine (s_cur_done (Store.set_self ..) (room'.le (by decide)) (by lia) (by lia) (fun hl => ⟨rfl, ?_⟩) fun hl => hx (by rw [eD, if_pos hl])).call
    rw [if_neg (by lia)] at eD
    refine x_return ?_; refine e_call (by exact rfl) (by first | exact .builtin _ | exact .type _ | exact .K _ (by exact rfl)) (by exact rfl) ?_
    exact s_Entry (room'.le (by decide)) ⟨σ, Store.le_set ha _, h _ _ _ _ eD⟩

end
section
variable {prog : Program} {w : World} {mean : ExcName → Option Value} {mg mb : Str → Option Value} {C : Ctx (G0 prog w mean mg mb)} {ρ : Loc} {σ : Store} {Q Qr : V → Store → Prop} {Qn : Loc → Store → Prop} {X : Prop}
theorem s_HardState {t v c : Nat} (room : C.Room 2) (h : Q (.obj 422 (hardF t v c)) σ) : WCall C (.raw (.ref 422)) [.int (t : Nat), .int (v : Nat), .int (c : Nat)] ρ σ Q X := by
  refine WCall.frz (wnewN (fI := 391) (by kernel_rfl) (by exact rfl) (by kernel_rfl) fun a dd A' ha hroom => ?_)
  refine wfun ["self", "term", "vote", "commit"] [("self", .ref a), ("term", .int (t : Nat)), ("vote", .int (v : Nat)), ("commit", .int (c : Nat))] (n := 0) (by exact rfl) (by exact rfl) (hroom _ room) (b4 fun a b c d => by exact rfl) (by exact rfl) (by decide +kernel) (by decide +kernel) fun L' gh room' => ?_
  refine x_setattr ?_; refine we_pure 1 (by exact rfl) ?_; refine we_pure 1 (by exact rfl) ?_; refine wset_inst (by walk_at "wst") (by kernel_rfl) (by kernel_rfl) (by kernel_rfl) (by kernel_rfl) (by exact Nat.le_of_ble_eq_true rfl) ?_; refine x_setattr ?_; refine we_pure 1 (by exact rfl) ?_; refine we_pure 1 (by exact rfl) ?_; refine wset_inst (by walk_at "wst") (by kernel_rfl) (by kernel_rfl) (by kernel_rfl) (by kernel_rfl) (by exact Nat.le_of_ble_eq_true rfl) ?_; refine x_setattr ?_; refine we_pure 1 (by exact rfl) ?_; refine we_pure 1 (by exact rfl) ?_; refine wset_inst (by walk_at "wst") (by kernel_rfl) (by kernel_rfl) (by kernel_rfl) (by kernel_rfl) (by exact Nat.le_of_ble_eq_true rfl) ?_; refine wxs_nil ?_
  rw [Store.set_set, Store.set_set, Store.set_set]
  refine ⟨_, fun _ _ h => h, rfl, _, _, .inst (Store.set_self ..), ?_⟩
  rw [Store.del_set ha]
  exact h
theorem s_hard_row {t v c : Nat} (room : C.Room 1) (h : Q (.tup [.int (t : Nat), .int (v : Nat), .int (c : Nat)]) σ) : WCode C (.raw (.ref 398)) [.obj 422 (hardF t v c)] ρ σ Q X := by
  refine wfun ["self"] [("self", .obj 422 (hardF t v c))] (n := 0) (by exact rfl) (by exact rfl) room (b1 fun a => by exact rfl) (by exact rfl) (by decide +kernel) (by decide +kernel) fun L' gh room' => ?_
  refine x_return ?_; refine k_tuple ?_; refine k_args ?_; refine k_attr ?_; refine we_pure 1 (by exact rfl) ?_; refine wget_inst (by first | exact .obj | exact .ref (by walk_at "wst")) (by kernel_rfl) (by kernel_rfl) (by kernel_rfl) (by exact rfl) (by intro w e; cases e) ?_; refine k_args ?_; refine k_attr ?_; refine we_pure 1 (by exact rfl) ?_; refine wget_inst (by first | exact .obj | exact .ref (by walk_at "wst")) (by kernel_rfl) (by kernel_rfl) (by kernel_rfl) (by exact rfl) (by intro w e; cases e) ?_; refine k_args ?_; refine k_attr ?_; refine we_pure 1 (by exact rfl) ?_; refine wget_inst (by first | exact .obj | exact .ref (by walk_at "wst")) (by kernel_rfl) (by kernel_rfl) (by kernel_rfl) (by exact rfl) (by intro w e; cases e) ?_; refine wargs_pure (by exact rfl) ?_; refine ⟨Nat.le_of_ble_eq_true rfl, ?_⟩
  exact ⟨_, fun _ _ h => h, h⟩
noncomputable def encH (t v c : Nat) : List UInt8 := 1 :: (leb t ++ leb v ++ leb c)
theorem s_hard_record {t v c : Nat} (nd : C.nd = true) (room : C.Room 4) (ht : t < 2 ^ 64) (hv : v < 2 ^ 64) (hc : c < 2 ^ 64) (h : Q (.bytes (encH t v c)) σ) : WCode C (.raw (.ref 496)) [.obj 422 (hardF t v c)] ρ σ Q X := by
  refine wfun ["hard"] [("hard", .obj 422 (hardF t v c))] (n := 3) (by exact rfl) (by exact rfl) room (b1 fun a => by exact rfl) (by exact rfl) (by decide +kernel) (by decide +kernel) fun L' gh room' => ?_
  have l1 := leb10 ht
  have l2 := leb10 hv
  have l3 := leb10 hc
  refine x_assign ?_; refine we_call0 ?_; refine we_pure 1 (by exact rfl) ?_; refine ⟨(by first | exact .builtin _ | exact .type _ | exact .K _ (by exact rfl)), ?_⟩
  refine s_Sink (by exact nd) (room'.le (by decide)) fun a dd p σ₁ k1 => ?_
  have g1 := k1.hi
  refine x_expr ?_; refine we_meth ?_; refine we_pure 1 (by exact rfl) ?_; refine wmeth_inst (by first | exact .obj | exact .ref (by walk_at "wst")) (by kernel_rfl) (by exact rfl) (by kernel_rfl) (by exact rfl) ?_; refine ⟨(by first | exact .builtin _ | exact .type _ | exact .K _ (by exact rfl)), ?_⟩; refine wargs_pure (by exact rfl) ?_
  refine (s_snk_octet (n := 1) (by exact nd) k1 (room'.le (by decide)) (by simp) (by decide) fun σ₂ k2 => ⟨rfl, ?_⟩).call
  have g2 := k2.hi
  refine x_expr ?_; refine we_meth ?_; refine we_pure 1 (by exact rfl) ?_; refine wmeth_inst (by first | exact .obj | exact .ref (by walk_at "wst")) (by kernel_rfl) (by exact rfl) (by kernel_rfl) (by exact rfl) ?_; refine ⟨(by first | exact .builtin _ | exact .type _ | exact .K _ (by exact rfl)), ?_⟩; refine k_args ?_; refine k_attr ?_; refine we_pure 1 (by exact rfl) ?_; refine wget_inst (by first | exact .obj | exact .ref (by walk_at "wst")) (by kernel_rfl) (by kernel_rfl) (by kernel_rfl) (by exact rfl) (by intro w e; cases e) ?_; refine wargs_pure (by exact rfl) ?_
  refine (s_snk_varint (by exact nd) k2 room' (by simp) ht fun σ₃ k3 => ⟨rfl, ?_⟩).call
  have g3 := k3.hi
  refine x_expr ?_; refine we_meth ?_; refine we_pure 1 (by exact rfl) ?_; refine wmeth_inst (by first | exact .obj | exact .ref (by walk_at "wst")) (by kernel_rfl) (by exact rfl) (by kernel_rfl) (by exact rfl) ?_; refine ⟨(by first | exact .builtin _ | exact .type _ | exact .K _ (by exact rfl)), ?_⟩; refine k_args ?_; refine k_attr ?_; refine we_pure 1 (by exact rfl) ?_; refine wget_inst (by first | exact .obj | exact .ref (by walk_at "wst")) (by kernel_rfl) (by kernel_rfl) (by kernel_rfl) (by exact rfl) (by intro w e; cases e) ?_; refine wargs_pure (by exact rfl) ?_
  refine (s_snk_varint (by exact nd) k3 room' (by simp; lia) hv fun σ₄ k4 => ⟨rfl, ?_⟩).call
  have g4 := k4.hi
  refine x_expr ?_; refine we_meth ?_; refine we_pure 1 (by exact rfl) ?_; refine wmeth_inst (by first | exact .obj | exact .ref (by walk_at "wst")) (by kernel_rfl) (by exact rfl) (by kernel_rfl) (by exact rfl) ?_; refine ⟨(by first | exact .builtin _ | exact .type _ | exact .K _ (by exact rfl)), ?_⟩; refine k_args ?_; refine k_attr ?_; refine we_pure 1 (by exact rfl) ?_; refine wget_inst (by first | exact .obj | exact .ref (by walk_at "wst")) (by kernel_rfl) (by kernel_rfl) (by kernel_rfl) (by exact rfl) (by intro w e; cases e) ?_; refine wargs_pure (by exact rfl) ?_
  refine (s_snk_varint (by exact nd) k4 room' (by simp; lia) hc fun σ₅ k5 => ⟨rfl, ?_⟩).call
  have g5 := k5.hi
  refine x_return ?_; refine we_meth0 ?_; refine we_pure 1 (by exact rfl) ?_; refine wmeth_inst (by first | exact .obj | exact .ref (by walk_at "wst")) (by kernel_rfl) (by exact rfl) (by kernel_rfl) (by exact rfl) ?_; refine ⟨(by first | exact .builtin _ | exact .type _ | exact .K _ (by exact rfl)), ?_⟩
  refine (s_snk_done k5 (room'.le (by decide)) (by simp; lia) ⟨σ, k5.le, ?_⟩).call
  have e : [] ++ [Nat.toUInt8 1] ++ leb t ++ leb v ++ leb c = encH t v c := by unfold encH; simp
  rw [← e] at h
  exact h
/-- sorted, each once -/
noncomputable def dd1 (out : List Int) (x : Int) : List Int := if out.getLast? = some x then out else out ++ [x]
noncomputable def rise (ns : List Int) : List Int := (sortI ns).foldl dd1 []
theorem dd1_len (out : List Int) (x : Int) : (dd1 out x).length ≤ out.length + 1 := by
  unfold dd1; split <;> simp
theorem foldl_take_succ {ns : List Int} {i : Nat} {x : Int} {o : List Int} (h : ns[i]? = some x) : (ns.take (i + 1)).foldl dd1 o = dd1 ((ns.take i).foldl dd1 o) x := by
  rw [List.take_add_one, h]
  simp
theorem s_rising {ns : List Int} {u : V} (room : C.Room 1) (hu : ∀ σ', Store.Le σ σ' → IsLst σ' u (ns.map V.int)) (hl : ns.length < 64) (h : Q (.lst ((rise ns).map V.int)) σ) : WCode C (.raw (.ref 307)) [u] ρ σ Q X := by
  refine wfun ["ids"] [("ids", u)] (n := 0) (by exact rfl) (by exact rfl) room (b1 fun a => by exact rfl) (by exact rfl) (by decide +kernel) (by decide +kernel) fun L' gh room' => ?_
  refine x_assign ?_; refine we_list ?_; refine wargs_pure (by exact rfl) ?_; refine ⟨Nat.le_of_ble_eq_true rfl, ?_⟩
  intro o ho
  refine x_cons ?_
  have hsl : (sortI ns).length = ns.length := (List.mergeSort_perm ns _).length_eq
  refine wx_for_list0 (ι := List Int) ((sortI ns).map V.int) (fun _ => [("ids", u), ("out", .ref o)]) (fun out => σ.set o (.list (out.map V.int))) (fun i out => out = ((sortI ns).take i).foldl dd1 [] ∧ out.length ≤ i) ?_ ?_ ?_
  · refine WE.frz ?_
    refine k_call ?_; refine we_b_sorted (by exact rfl) ?_; refine ⟨(by first | exact .builtin _ | exact .type _ | exact .K _ (by exact rfl)), ?_⟩; refine wargs_pure (by exact rfl) ?_
    refine wcall_sorted (hu _ (Store.le_set ho _)) hl fun sl hs => ⟨_, _, .list (Store.set_self ..), ?_⟩
    rw [Store.del_set hs]
    exact ⟨fun _ _ _ _ _ => .lst, [], ⟨rfl, Nat.le_refl _⟩, Loc.le_refl _, fun _ _ h => h⟩
  · rintro i v out hv ⟨hout, hlen⟩
    obtain ⟨x, hx, rfl⟩ : ∃ x, (sortI ns)[i]? = some x ∧ V.int x = v := by simpa using hv
    have hi : i < (sortI ns).length := (List.getElem?_eq_some_iff.mp hx).1
    have hnext : dd1 out x = ((sortI ns).take (i + 1)).foldl dd1 [] := by rw [foldl_take_succ hx, ← hout]
    have hnl : (dd1 out x).length ≤ i + 1 := Nat.le_trans (dd1_len _ _) (by lia)
    refine x_if ?_; refine t_or ?_; refine wtest_not ?_; refine wtest_value ?_; refine we_pure 1 (by exact rfl) ?_; refine wtru_list (.ref (by walk_at "wst")) (by simp; lia) ?_
    have cas : out = [] ∨ ∃ L b, out = L ++ [b] := by
      rcases List.eq_nil_or_concat out with h | ⟨L, b, h⟩
      · exact .inl h
      · exact .inr ⟨L, b, by rw [h, List.concat_eq_append]⟩
    rcases cas with rfl | ⟨L, b, rfl⟩
    · refine ifT rfl ?_
      have hd : dd1 [] x = [x] := by unfold dd1; simp
      rw [hd] at hnext hnl
      refine ifT rfl ?_; refine x_expr ?_; refine we_meth ?_; refine we_pure 1 (by exact rfl) ?_; refine wmeth_append (by walk_at "wst") ?_; refine ⟨(by first | exact .builtin _ | exact .type _ | exact .K _ (by exact rfl)), ?_⟩; refine wargs_pure (by exact rfl) ?_
      refine wcall_append (Store.set_self ..) (by decide) ⟨rfl, ?_⟩
      refine wxs_nil ?_; refine wxs_nil ?_
      refine ⟨[x], ⟨hnext, hnl⟩, Loc.le_cons (by exact rfl) (Loc.le_cons (by exact rfl) (Loc.le_nil _)), ?_⟩
      rw [Store.set_set]
      exact fun _ _ h => h
    · refine ifF (by simp) ?_
      simp at hlen
      refine a_or ?_; refine k_cmp ?_; refine k_sub ?_; refine we_pure 1 (by exact rfl) ?_; refine we_neg ?_; refine we_int ?_; refine ⟨_, rfl, ?_⟩
      refine wsub_list_neg (v := .int b) (.ref (Store.set_self ..)) (by decide) (by simp; lia) (by decide) ?_ ?_
      · simp
        rw [List.getElem?_append_right (by simp; lia)]
        simp
        rw [show (-1 + ((L.length : Int) + 1)).toNat - L.length = 0 by lia]
        rfl
      refine we_pure 1 (by exact rfl) ?_; refine wcmp_ne ?_; refine wtru_bool ?_
      by_cases hbx : b = x
      · refine ifF (by simp [hbx]) ?_
        have hd : dd1 (L ++ [b]) x = L ++ [b] := by unfold dd1; simp [hbx]
        rw [hd] at hnext hnl
        refine wall_or_nil ?_; refine ifF rfl ?_; refine wxs_nil ?_; refine wxs_nil ?_
        exact ⟨L ++ [b], ⟨hnext, hnl⟩, Loc.le_cons (by exact rfl) (Loc.le_cons (by exact rfl) (Loc.le_nil _)), fun _ _ h => h⟩
      · refine ifT (by simp [hbx]) ?_
        have hd : dd1 (L ++ [b]) x = (L ++ [b]) ++ [x] := by unfold dd1; simp [hbx]
        rw [hd] at hnext hnl
        refine ifT rfl ?_; refine x_expr ?_; refine we_meth ?_; refine we_pure 1 (by exact rfl) ?_; refine wmeth_append (by walk_at "wst") ?_; refine ⟨(by first | exact .builtin _ | exact .type _ | exact .K _ (by exact rfl)), ?_⟩; refine wargs_pure (by exact rfl) ?_
        refine wcall_append (Store.set_self ..) (by simp; lia) ⟨rfl, ?_⟩
        refine wxs_nil ?_; refine wxs_nil ?_
        refine ⟨(L ++ [b]) ++ [x], ⟨hnext, hnl⟩, Loc.le_cons (by exact rfl) (Loc.le_cons (by exact rfl) (Loc.le_nil _)), ?_⟩
        rw [Store.set_set, List.map_append (l₁ := L ++ [b])]
        exact fun _ _ h => h
  · rintro out ρ₂ σ₂ ⟨hout, hlen⟩ hl2 hs2
    refine WS.le ?_ hl2 hs2
    rw [List.length_map, List.take_length] at hout
    refine wxs_cons (wx_return (WE.frz ?_))
    refine we_pure 1 (by exact rfl) ?_
    refine ⟨_, _, .list (Store.set_self ..), σ, ?_, ?_⟩
    · rw [Store.del_set ho]; exact fun _ _ h => h
    · rw [hout]; exact h

/-- a count no larger than what is left -/
noncomputable def CNT (b : List UInt8) (p : Nat) : Option (Nat × Nat) := match R10 b p with
  | none => none
  | some (n, q) => if n > b.length - q then none else some (n, q)
theorem s_take_count {b : List UInt8} {k : Nat} {a d : Addr} (hi : σ a = some (.inst 219 d (curF b k))) (room : C.Room 4) (hd : b.length ≤ 1000000) (h : ∀ n q, CNT b k = some (n, q) → Q (.int (n : Nat)) (σ.set a (.inst 219 d (curF b q)))) (hx : CNT b k = none → X) : WCode C (.raw (.ref 314)) [.ref a] ρ σ Q X := by
  refine wfun ["cursor"] [("cursor", .ref a)] (n := 3) (by exact rfl) (by exact rfl) room (b1 fun a => by exact rfl) (by exact rfl) (by decide +kernel) (by decide +kernel) fun L' gh room' => ?_
  refine x_assign ?_; refine we_meth0 ?_; refine we_pure 1 (by exact rfl) ?_; refine wmeth_inst (by first | exact .obj | exact .ref (by walk_at "wst")) (by kernel_rfl) (by exact rfl) (by kernel_rfl) (by exact rfl) ?_; refine ⟨(by first | exact .builtin _ | exact .type _ | exact .K _ (by exact rfl)), ?_⟩
  refine (s_cur_varint hi room' (by lia) (fun n q e => ?_) fun e => hx (by unfold CNT; rw [e])).call
  obtain ⟨b1, b2, b3, b4⟩ := rg_bounds e
  have r1 := room'.le (show 1 ≤ 3 by decide)
  have hC : CNT b k = if n > b.length - q then none else some (n, q) := by unfold CNT; rw [e]
  refine x_if ?_; refine k_cmp ?_; refine we_pure 1 (by exact rfl) ?_; refine we_meth0 ?_; refine we_pure 1 (by exact rfl) ?_; refine wmeth_inst (by first | exact .obj | exact .ref (by walk_at "wst")) (by kernel_rfl) (by exact rfl) (by kernel_rfl) (by exact rfl) ?_; refine ⟨(by first | exact .builtin _ | exact .type _ | exact .K _ (by exact rfl)), ?_⟩
  refine (s_cur_left (Store.set_self ..) (room'.le (by decide)) (by lia) ?_).call
  refine wcmp_gt ?_; refine wtru_bool ?_
  refine ifC (fun h1 => ?_) fun h1 => ?_
  · have h1 := of_decide_eq_true h1
    refine x_cons ?_
    refine wx_short rfl (hx (by rw [hC, if_pos (by lia)])) ?_
    refine k_args ?_; refine we_fstr ?_; refine wjoin_cons ?_; refine we_str (n := 200) (by decide +kernel) ?_; refine ⟨_, rfl, Nat.le_of_ble_eq_true rfl, ?_⟩; refine wjoin_cons ?_; refine we_fval ?_; refine we_pure 1 (by exact rfl) ?_; refine ⟨_, rfl, (by first | lia | assumption), ?_⟩; refine ⟨_, rfl, Nat.le_of_ble_eq_true rfl, ?_⟩; refine wjoin_cons ?_; refine we_str (n := 200) (by decide +kernel) ?_; refine ⟨_, rfl, Nat.le_of_ble_eq_true rfl, ?_⟩; refine wjoin_cons ?_; refine we_fval ?_; refine we_meth0 ?_; refine we_pure 1 (by exact rfl) ?_; refine wmeth_inst (by first | exact .obj | exact .ref (by walk_at "wst")) (by kernel_rfl) (by exact rfl) (by kernel_rfl) (by exact rfl) ?_; refine ⟨(by first | exact .builtin _ | exact .type _ | exact .K _ (by exact rfl)), ?_⟩
    refine (s_cur_left (Store.set_self ..) (by exact r1) (by lia) ?_).call
    refine ⟨_, rfl, (by first | lia | assumption), ?_⟩; refine ⟨_, rfl, Nat.le_of_ble_eq_true rfl, ?_⟩; refine wjoin_cons ?_; refine we_str (n := 200) (by decide +kernel) ?_; refine ⟨_, rfl, Nat.le_of_ble_eq_true rfl, ?_⟩; refine wjoin_nil (by decide) ?_; refine wargs_pure (by exact rfl) ?_; exact Nat.le_of_ble_eq_true rfl
  · have h1 := of_decide_eq_false h1
    refine wxs_nil ?_; refine x_return ?_; refine we_pure 1 (by exact rfl) ?_
    exact ⟨_, fun _ _ h => h, h _ _ (by rw [hC, if_neg (by lia)])⟩

end
section
variable {prog : Program} {w : World} {mean : ExcName → Option Value} {mg mb : Str → Option Value} {C : Ctx (G0 prog w mean mg mb)} {ρ : Loc} {σ : Store} {Q Qr : V → Store → Prop} {Qn : Loc → Store → Prop} {X : Prop}
theorem range_cont {x : Str} {np : Pos} {body : List Stmt} {ι : Type} (n : Nat) (R : ι → Loc) (S : ι → Store) (P : Nat → ι → Prop) (hn : n < 2 ^ 62) (h0 : ∃ j, P 0 j ∧ Loc.Le (R j) ρ ∧ Store.Le (S j) σ)
    (turn : ∀ i j, i < n → P i j → WXs C body (fput x (.int i) (R j)) (S j) (fun ρ₂ σ₂ => ∃ j', P (i + 1) j' ∧ Loc.Le (R j') ρ₂ ∧ Store.Le (S j') σ₂) Qr X)
    (fin : ∀ j ρ σ, P n j → Loc.Le (R j) ρ → Store.Le (S j) σ → Qn ρ σ) (hx : C.env.kindOf x = some .local) :
    ∃ (a b c : Int) (n' : Nat) (I : Nat → Loc → Store → Prop), V.rng 0 n 1 = .rng a b c ∧ Builtin.Range.rangeSize a b c = (n' : Int) ∧ Builtin.Range.small a b c = true ∧ I 0 ρ σ ∧
      (∀ i ρ σ, i < n' → I i ρ σ → WAsg C (.Name x np) (.int (a + c * i)) ρ σ (fun ρ' => WXs C body ρ' σ (fun ρ₂ σ₂ => ∃ ρ₃ σ₃, I (i + 1) ρ₃ σ₃ ∧ Loc.Le ρ₃ ρ₂ ∧ Store.Le σ₃ σ₂) Qr X)) ∧ (∀ ρ σ, I n' ρ σ → Qn ρ σ) := by
  refine ⟨0, n, 1, n, fun i ρ σ => ∃ j, P i j ∧ Loc.Le (R j) ρ ∧ Store.Le (S j) σ, rfl, rangeSize_upto n, small_one (by decide) (by decide) (by lia) (by lia), h0, fun i ρ σ hi hI => ?_, fun ρ σ hI => ?_⟩
  · obtain ⟨j, hj, hl, hs⟩ := hI
    refine wasg_name ?_ hx
    have e : (0 : Int) + 1 * (i : Int) = (i : Int) := by lia
    rw [e]
    refine WS.le (ρ' := fput x (.int i) (R j)) (σ' := S j) ?_ (Loc.le_fput hl) hs
    exact (turn i j hi hj).mono (fun ρ₂ σ₂ ⟨j', a, b, c⟩ => ⟨R j', S j', ⟨j', a, fun _ _ h => h, fun _ _ h => h⟩, b, c⟩) (fun _ _ h => h) fun x => x
  · obtain ⟨j, hj, hl, hs⟩ := hI
    exact fin j ρ σ hj hl hs
noncomputable def encIds (ns : List Int) : List UInt8 := leb ns.length ++ ns.flatMap fun x => leb x.toNat
theorem flat_len {ns : List Int} (hb : ∀ x ∈ ns, 0 ≤ x ∧ x < 2 ^ 64) : (ns.flatMap fun x => leb x.toNat).length ≤ 10 * ns.length := by
  induction ns with
  | nil => simp
  | cons a r ih =>
    have := ih fun x hx => hb x (.tail _ hx)
    have h1 := hb a (.head _)
    have h2 : (leb a.toNat).length ≤ 10 := leb10 (by lia)
    simp only [List.flatMap_cons, List.length_append, List.length_cons]
    lia
theorem flat_take {ns : List Int} {i : Nat} {x : Int} (h : ns[i]? = some x) : (ns.take (i + 1)).flatMap (fun x => leb x.toNat) = (ns.take i).flatMap (fun x => leb x.toNat) ++ leb x.toNat := by
  rw [List.take_add_one, h]
  simp
theorem s_put_ids {σ₀ : Store} {b : List UInt8} {ns : List Int} {a d p : Addr} (nd : C.nd = true) (k : Snk σ₀ σ a d p b) (room : C.Room 4) (hb : b.length ≤ 10000) (hl : ns.length ≤ 1000) (hns : ∀ x ∈ ns, 0 ≤ x ∧ x < 2 ^ 64) (h : ∀ σ', Snk σ₀ σ' a d p (b ++ encIds ns) → Q .none σ') : WCode C (.raw (.ref 468)) [.ref a, .lst (ns.map V.int)] ρ σ Q X := by
  have hi := k.hi
  refine wfun ["sink", "ids"] [("sink", .ref a), ("ids", .lst (ns.map V.int))] (n := 3) (by exact rfl) (by exact rfl) room (b2 fun a b => by exact rfl) (by exact rfl) (by decide +kernel) (by decide +kernel) fun L' gh room' => ?_
  refine x_expr ?_; refine we_meth ?_; refine we_pure 1 (by exact rfl) ?_; refine wmeth_inst (by first | exact .obj | exact .ref (by walk_at "wst")) (by kernel_rfl) (by exact rfl) (by kernel_rfl) (by exact rfl) ?_; refine ⟨(by first | exact .builtin _ | exact .type _ | exact .K _ (by exact rfl)), ?_⟩; refine k_args ?_; refine k_call ?_; refine we_b_len (by exact rfl) ?_; refine ⟨(by first | exact .builtin _ | exact .type _ | exact .K _ (by exact rfl)), ?_⟩; refine wargs_pure (by exact rfl) ?_
  refine wlen_list .lst (by simp; lia) ?_
  rw [List.length_map]
  refine wargs_pure (by exact rfl) ?_
  refine (s_snk_varint (by exact nd) k room' (by lia) (by lia) fun σ₁ k1 => ⟨rfl, ?_⟩).call
  refine x_cons ?_
  refine wx_for_list0 (ι := Store) (ns.map V.int) (fun _ => [("sink", .ref a), ("ids", .lst (ns.map V.int))]) (fun s => s) (fun i s => Snk σ₀ s a d p (b ++ leb ns.length ++ (ns.take i).flatMap fun x => leb x.toNat)) ?_ ?_ ?_
  · refine we_pure 1 (by exact rfl) ?_
    refine ⟨fun _ _ _ _ _ => .lst, σ₁, ?_, Loc.le_refl _, fun _ _ h => h⟩
    simpa using k1
  · rintro i v s hv ks
    obtain ⟨x, hx, rfl⟩ : ∃ x, ns[i]? = some x ∧ V.int x = v := by simpa using hv
    have hxm := hns x (List.mem_of_getElem? hx)
    have gi := ks.hi
    have hl1 : (leb ns.length).length ≤ 10 := leb10 (by lia)
    have hl2 : ((ns.take i).flatMap fun x => leb x.toNat).length ≤ 10 * (ns.take i).length := flat_len fun x hx => hns x (List.mem_of_mem_take hx)
    have hl3 : (ns.take i).length ≤ 1000 := by rw [List.length_take]; lia
    obtain ⟨m, rfl⟩ : ∃ m : Nat, x = (m : Int) := ⟨x.toNat, by lia⟩
    refine x_expr ?_; refine we_meth ?_; refine we_pure 1 (by exact rfl) ?_; refine wmeth_inst (by first | exact .obj | exact .ref (by walk_at "wst")) (by kernel_rfl) (by exact rfl) (by kernel_rfl) (by exact rfl) ?_; refine ⟨(by first | exact .builtin _ | exact .type _ | exact .K _ (by exact rfl)), ?_⟩; refine wargs_pure (by exact rfl) ?_
    refine (s_snk_varint (by exact nd) ks room' (by simp only [List.length_append]; lia) (by lia) fun σ₂ k2 => ⟨rfl, ?_⟩).call
    refine wxs_nil ?_
    refine ⟨σ₂, ?_, Loc.le_cons (by exact rfl) (Loc.le_cons (by exact rfl) (Loc.le_nil _)), fun _ _ h => h⟩
    rw [flat_take hx, ← List.append_assoc]
    exact k2
  · rintro s ρ₂ σ₂ ks hl2 hs2
    refine WS.le ?_ hl2 hs2
    rw [List.length_map, List.take_length] at ks
    refine wxs_nil ?_
    refine ⟨_, fun _ _ h => h, h _ ?_⟩
    unfold encIds
    rw [← List.append_assoc]
    exact ks
theorem Store.set_comm {σ : Store} {a b : Addr} (h : a ≠ b) (o o' : AObj) : (σ.set a o).set b o' = (σ.set b o').set a o := by
  funext y
  unfold Store.set
  by_cases e1 : y = a
  · subst e1
    rw [if_neg h, if_pos rfl, if_pos rfl]
  · rw [if_neg e1, if_neg e1]
theorem Store.set3 {σ : Store} {a o : Addr} (h : a ≠ o) (x y z : AObj) : ((σ.set o x).set a y).set o z = (σ.set o z).set a y := by
  rw [Store.set_comm h, Store.set_set]
noncomputable abbrev natsV (ns : List Nat) : List V := ns.map fun n : Nat => V.int (n : Int)
/-- k ids, each above the one before it -/
noncomputable def TI (b : List UInt8) : Nat → Nat → List Nat → Option (List Nat × Nat)
  | 0, p, out => some (out, p)
  | k + 1, p, out => match R10 b p with
    | none => none
    | some (n, q) => if (match out.getLast? with | some l => decide (n ≤ l) | none => false) = true then none else TI b k q (out ++ [n])
noncomputable def IDS (b : List UInt8) (p : Nat) : Option (List Nat × Nat) := match CNT b p with
  | none => none
  | some (n, q) => TI b n q []
theorem CNT_bounds {b : List UInt8} {p n q : Nat} (h : CNT b p = some (n, q)) : n ≤ b.length ∧ q ≤ b.length := by
  unfold CNT at h
  split at h
  · cases h
  · rename_i e
    obtain ⟨_, _, _, _⟩ := rg_bounds e
    split at h
    · cases h
    · cases h; lia
theorem s_take_ids {b : List UInt8} {k : Nat} {a d : Addr} (hi : σ a = some (.inst 219 d (curF b k))) (room : C.Room 5) (hd : b.length ≤ 1000) (h : ∀ ids q, IDS b k = some (ids, q) → Q (.lst (natsV ids)) (σ.set a (.inst 219 d (curF b q)))) (hx : IDS b k = none → X) : WCode C (.raw (.ref 475)) [.ref a] ρ σ Q X := by
  refine wfun ["cursor"] [("cursor", .ref a)] (n := 4) (by exact rfl) (by exact rfl) room (b1 fun a => by exact rfl) (by exact rfl) (by decide +kernel) (by decide +kernel) fun L' gh room' => ?_
  refine x_assign ?_; refine we_list ?_; refine wargs_pure (by exact rfl) ?_; refine ⟨Nat.le_of_ble_eq_true rfl, ?_⟩
  intro o ho
  have hao : a ≠ o := fun q => by subst q; rw [hi] at ho; cases ho
  have hi2 : (σ.set o (.list [])) a = some (.inst 219 d (curF b k)) := (Store.set_ne _ _ hao).trans hi
  refine x_cons ?_
  refine wx_for_range ?_ letGo_name
  refine k_call ?_; refine we_b_range (by exact rfl) ?_; refine ⟨(by first | exact .builtin _ | exact .type _ | exact .K _ (by exact rfl)), ?_⟩; refine k_args ?_; refine e_call (by exact rfl) (by first | exact .builtin _ | exact .type _ | exact .K _ (by exact rfl)) (by exact rfl) ?_
  refine (s_take_count hi2 room' (by lia) (fun n q e => ?_) fun e => hx (by unfold IDS; rw [e])).call
  obtain ⟨n1, n2⟩ := CNT_bounds e
  have hI : IDS b k = TI b n q [] := by unfold IDS; rw [e]
  refine wargs_pure (by exact rfl) ?_
  refine wrange1 ?_
  refine range_cont (ι := Nat × List Nat) n (fun _ => [("cursor", .ref a), ("out", .ref o)]) (fun j => (σ.set o (.list (natsV j.2))).set a (.inst 219 d (curF b j.1))) (fun i j => TI b (n - i) j.1 j.2 = IDS b k ∧ j.2.length = i ∧ j.1 ≤ b.length ∧ ∀ y ∈ j.2, y < 2 ^ 64) (by lia) ⟨(q, []), ⟨hI.symm, rfl, n2, by simp⟩, Loc.le_refl _, fun _ _ h => h⟩ ?_ ?_ rfl
  · rintro i ⟨p, out⟩ hin ⟨hT, hlen, hp, hob⟩
    dsimp only at hT hlen hp hob ⊢
    obtain ⟨m, hm⟩ : ∃ m, n - i = m + 1 := ⟨n - i - 1, by lia⟩
    rw [hm, TI] at hT
    refine x_assign ?_; refine we_meth0 ?_; refine we_pure 1 (by exact rfl) ?_; refine wmeth_inst (by first | exact .obj | exact .ref (by walk_at "wst")) (by kernel_rfl) (by exact rfl) (by kernel_rfl) (by exact rfl) ?_; refine ⟨(by first | exact .builtin _ | exact .type _ | exact .K _ (by exact rfl)), ?_⟩
    refine (s_cur_varint (Store.set_self ..) (room'.le (by decide)) (by lia) (fun x q2 e2 => ?_) fun e => hx (by rw [← hT, e])).call
    obtain ⟨b1, b2, b3, b4⟩ := rg_bounds e2
    rw [Store.set_set]
    rw [e2] at hT
    dsimp only at hT
    have ho3 : ((σ.set o (.list (natsV out))).set a (.inst 219 d (curF b q2))) o = some (.list (natsV out)) := (Store.set_ne _ _ (Ne.symm hao)).trans (Store.set_self ..)
    have cas : out = [] ∨ ∃ L l, out = L ++ [l] := by
      rcases List.eq_nil_or_concat out with h | ⟨L, b, h⟩
      · exact .inl h
      · exact .inr ⟨L, b, by rw [h, List.concat_eq_append]⟩
    rcases cas with hout | ⟨L, l, hout⟩
    · have hcond : (match out.getLast? with | some l => decide (x ≤ l) | none => false) = false := by rw [hout]; rfl
      have he : natsV out = [] := by rw [hout]; rfl
      refine x_if ?_; refine t_and ?_; refine wtest_value ?_; refine we_pure 1 (by exact rfl) ?_; refine wtru_list (.ref (by walk_at "wst")) (by simp; lia) ?_
      refine ifF (by rw [he]; rfl) ?_
      rw [if_neg (by simpa using hcond)] at hT
      refine ifF rfl ?_; refine wxs_nil ?_; refine x_expr ?_; refine we_meth ?_; refine we_pure 1 (by exact rfl) ?_; refine wmeth_append (by walk_at "wst") ?_; refine ⟨(by first | exact .builtin _ | exact .type _ | exact .K _ (by exact rfl)), ?_⟩; refine wargs_pure (by exact rfl) ?_
      refine wcall_append ho3 (by simp; lia) ⟨rfl, ?_⟩
      refine wxs_nil ?_
      refine ⟨(q2, out ++ [x]), ⟨by dsimp only; rw [show n - (i + 1) = m by lia]; exact hT, by simp [hlen], b4, by intro y hy; rcases List.mem_append.mp hy with hy | hy; exact hob y hy; simp at hy; lia⟩, Loc.le_cons (by exact rfl) (Loc.le_cons (by exact rfl) (Loc.le_nil _)), ?_⟩
      dsimp only
      rw [Store.set3 hao]
      unfold natsV
      rw [List.map_append]
      exact fun _ _ h => h
    · have hcond : (match out.getLast? with | some l => decide (x ≤ l) | none => false) = decide (x ≤ l) := by rw [hout]; simp
      have hlast : (natsV out)[((-1 : Int) + ((natsV out).length : Nat)).toNat]? = some (.int (l : Int)) := by
        have : natsV out = natsV L ++ [V.int (l : Int)] := by rw [hout]; simp [natsV]
        rw [this, List.getElem?_append_right (by simp; lia)]
        simp
        rw [show (-1 + ((L.length : Int) + 1)).toNat - L.length = 0 by lia]
        rfl
      have hne : natsV out ≠ [] := by rw [hout]; simp [natsV]
      have hlo : out.length = L.length + 1 := by rw [hout]; simp
      refine x_if ?_; refine t_and ?_; refine wtest_value ?_; refine we_pure 1 (by exact rfl) ?_; refine wtru_list (.ref (by walk_at "wst")) (by simp; lia) ?_
      refine ifT (by cases hh : natsV out with | nil => exact absurd hh hne | cons a r => rfl) ?_
      refine a_and ?_; refine k_cmp ?_; refine we_pure 1 (by exact rfl) ?_; refine k_sub ?_; refine we_pure 1 (by exact rfl) ?_; refine we_neg ?_; refine we_int ?_; refine ⟨_, rfl, ?_⟩
      refine wsub_list_neg (.ref ho3) (by decide) (by simp; lia) (by decide) hlast ?_
      refine wcmp_le ?_; refine wtru_bool ?_
      refine ifC (fun h1 => ?_) fun h1 => ?_
      · have h1 := of_decide_eq_true h1
        rw [hcond, if_pos (decide_eq_true (by lia))] at hT
        refine wall_and_nil ?_; refine ifT rfl ?_; refine x_cons ?_
        refine wx_corrupt rfl (hx hT.symm) ?_
        refine k_args ?_; refine we_fstr ?_; refine wjoin_cons ?_; refine we_str (n := 200) (by decide +kernel) ?_; refine ⟨_, rfl, Nat.le_of_ble_eq_true rfl, ?_⟩; refine wjoin_cons ?_; refine we_fval ?_; refine we_pure 1 (by exact rfl) ?_; refine ⟨_, rfl, (by first | lia | assumption), ?_⟩; refine ⟨_, rfl, Nat.le_of_ble_eq_true rfl, ?_⟩; refine wjoin_cons ?_; refine we_str (n := 200) (by decide +kernel) ?_; refine ⟨_, rfl, Nat.le_of_ble_eq_true rfl, ?_⟩; refine wjoin_cons ?_; refine we_fval ?_; refine k_sub ?_; refine we_pure 1 (by exact rfl) ?_; refine we_neg ?_; refine we_int ?_; refine ⟨_, rfl, ?_⟩
        refine wsub_list_neg (.ref ho3) (by decide) (by simp; lia) (by decide) hlast ?_
        have hlb : l < 2 ^ 64 := hob l (by rw [hout]; simp)
        refine ⟨_, rfl, (by first | lia | assumption), ?_⟩; refine ⟨_, rfl, Nat.le_of_ble_eq_true rfl, ?_⟩; refine wjoin_nil (by decide) ?_; refine wargs_pure (by exact rfl) ?_; exact Nat.le_of_ble_eq_true rfl
      · have h1 := of_decide_eq_false h1
        rw [hcond] at hT
        replace hcond : ¬ (x ≤ l) := by lia
        rw [if_neg (by simpa using hcond)] at hT
        refine ifF rfl ?_; refine wxs_nil ?_; refine x_expr ?_; refine we_meth ?_; refine we_pure 1 (by exact rfl) ?_; refine wmeth_append (by walk_at "wst") ?_; refine ⟨(by first | exact .builtin _ | exact .type _ | exact .K _ (by exact rfl)), ?_⟩; refine wargs_pure (by exact rfl) ?_
        refine wcall_append ho3 (by simp; lia) ⟨rfl, ?_⟩
        refine wxs_nil ?_
        refine ⟨(q2, out ++ [x]), ⟨by dsimp only; rw [show n - (i + 1) = m by lia]; exact hT, by simp [hlen], b4, by intro y hy; rcases List.mem_append.mp hy with hy | hy; exact hob y hy; simp at hy; lia⟩, Loc.le_cons (by exact rfl) (Loc.le_cons (by exact rfl) (Loc.le_nil _)), ?_⟩
        dsimp only
        rw [Store.set3 hao]
        unfold natsV
        rw [List.map_append]
        exact fun _ _ h => h
  · rintro ⟨p, out⟩ ρ₂ σ₂ ⟨hT, hlen, hp, hob⟩ hl2 hs2
    dsimp only at hT hlen hp hl2 hs2
    rw [Nat.sub_self, TI] at hT
    refine WS.le ?_ hl2 hs2
    refine wxs_cons (wx_return (WE.frz ?_))
    refine we_pure 1 (by exact rfl) ?_
    refine ⟨_, _, .list ((Store.set_ne _ _ (Ne.symm hao)).trans (Store.set_self ..)), _, ?_, h _ _ hT.symm⟩
    intro y z hz
    have hyo : y ≠ o := fun q => by
      subst q
      rw [Store.set_ne _ _ (Ne.symm hao), ho] at hz
      cases hz
    unfold Store.del
    rw [if_neg hyo]
    unfold Store.set at hz ⊢
    split
    · rename_i e3
      rw [if_pos e3] at hz
      exact hz
    · rename_i e3
      rw [if_neg e3] at hz
      exact hz

end
section
variable {prog : Program} {w : World} {mean : ExcName → Option Value} {mg mb : Str → Option Value} {C : Ctx (G0 prog w mean mg mb)} {ρ : Loc} {σ : Store} {Q Qr : V → Store → Prop} {Qn : Loc → Store → Prop} {X : Prop}
noncomputable abbrev intsV (ns : List Int) : List V := ns.map V.int
noncomputable abbrev confF (v l o x : List Int) (t : Bool) : Flds := [("voters", .lst (intsV v)), ("learners", .lst (intsV l)), ("outgoing", .lst (intsV o)), ("learners_next", .lst (intsV x)), ("auto_leave", .bool t)]
theorem s_ConfState {u1 u2 u3 u4 : V} {n1 n2 n3 n4 : List Int} {t : Bool} (room : C.Room 3) (h1 : ∀ σ', Store.Le σ σ' → IsLst σ' u1 (intsV n1)) (h2 : ∀ σ', Store.Le σ σ' → IsLst σ' u2 (intsV n2)) (h3 : ∀ σ', Store.Le σ σ' → IsLst σ' u3 (intsV n3)) (h4 : ∀ σ', Store.Le σ σ' → IsLst σ' u4 (intsV n4))
    (l1 : n1.length < 64) (l2 : n2.length < 64) (l3 : n3.length < 64) (l4 : n4.length < 64) (h : Q (.obj 457 (confF (rise n1) (rise n2) (rise n3) (rise n4) t)) σ) : WCall C (.raw (.ref 457)) [u1, u2, u3, u4, .bool t] ρ σ Q X := by
  refine WCall.frz (wnewN (fI := 440) (by kernel_rfl) (by exact rfl) (by kernel_rfl) fun a dd A' ha hroom => ?_)
  have b6 : ∀ {K : Frag} {fd : FuncData} {x y z p k r : Str} {u v t q l m : V} (h : ∀ a b c d e f : Value, bindArgs fd ⟨[a, b, c, d, e, f], []⟩ = pure [(x, a), (y, b), (z, c), (p, d), (k, e), (r, f)]), ∀ (fz : Led) (s : Shared) ws, Reps fz [u, v, t, q, l, m] ws → K.In s.heap → ∃ bs, BindsTo s fd ⟨ws, []⟩ bs ∧ RepB fz [(x, u), (y, v), (z, t), (p, q), (k, l), (r, m)] bs := by
    intro K fd x y z p k r u v t q l m h fz s ws hr _
    cases hr with
    | cons h000 hr =>
    cases hr with
    | cons h00 hr =>
    cases hr with
    | cons h0 hr =>
    obtain ⟨a, b, c, rfl, h1, h2, h3⟩ := hr.three
    exact ⟨_, BindsTo.of_eq (h _ _ _ a b c), .cons h000 (.cons h00 (.cons h0 (.cons h1 (.cons h2 (.cons h3 .nil)))))⟩
  refine wfun ["self", "voters", "learners", "outgoing", "learners_next", "auto_leave"] [("self", .ref a), ("voters", u1), ("learners", u2), ("outgoing", u3), ("learners_next", u4), ("auto_leave", .bool t)] (n := 1) (by exact rfl) (by exact rfl) (hroom _ room) (b6 fun a b c d e f => by exact rfl) (by exact rfl) (by decide +kernel) (by decide +kernel) fun L' gh room' => ?_
  have up : ∀ (x : AObj) σ', Store.Le (σ.set a x) σ' → Store.Le σ σ' := fun x σ' k => (Store.le_set ha x).trans k
  refine x_setattr ?_; refine e_call (by exact rfl) (by first | exact .builtin _ | exact .type _ | exact .K _ (by exact rfl)) (by exact rfl) ?_
  refine (s_rising room' (fun σ' k => h1 σ' (up _ _ k)) l1 ?_).call
  refine we_pure 1 (by exact rfl) ?_; refine wset_inst (by walk_at "wst") (by kernel_rfl) (by kernel_rfl) (by kernel_rfl) (by kernel_rfl) (by exact Nat.le_of_ble_eq_true rfl) ?_; refine x_setattr ?_; refine e_call (by exact rfl) (by first | exact .builtin _ | exact .type _ | exact .K _ (by exact rfl)) (by exact rfl) ?_
  rw [Store.set_set]
  refine (s_rising room' (fun σ' k => h2 σ' (up _ _ k)) l2 ?_).call
  refine we_pure 1 (by exact rfl) ?_; refine wset_inst (by walk_at "wst") (by kernel_rfl) (by kernel_rfl) (by kernel_rfl) (by kernel_rfl) (by exact Nat.le_of_ble_eq_true rfl) ?_; refine x_setattr ?_; refine e_call (by exact rfl) (by first | exact .builtin _ | exact .type _ | exact .K _ (by exact rfl)) (by exact rfl) ?_
  rw [Store.set_set]
  refine (s_rising room' (fun σ' k => h3 σ' (up _ _ k)) l3 ?_).call
  refine we_pure 1 (by exact rfl) ?_; refine wset_inst (by walk_at "wst") (by kernel_rfl) (by kernel_rfl) (by kernel_rfl) (by kernel_rfl) (by exact Nat.le_of_ble_eq_true rfl) ?_; refine x_setattr ?_; refine e_call (by exact rfl) (by first | exact .builtin _ | exact .type _ | exact .K _ (by exact rfl)) (by exact rfl) ?_
  rw [Store.set_set]
  refine (s_rising room' (fun σ' k => h4 σ' (up _ _ k)) l4 ?_).call
  refine we_pure 1 (by exact rfl) ?_; refine wset_inst (by walk_at "wst") (by kernel_rfl) (by kernel_rfl) (by kernel_rfl) (by kernel_rfl) (by exact Nat.le_of_ble_eq_true rfl) ?_; refine x_setattr ?_; refine we_pure 1 (by exact rfl) ?_; refine we_pure 1 (by exact rfl) ?_; refine wset_inst (by walk_at "wst") (by kernel_rfl) (by kernel_rfl) (by kernel_rfl) (by kernel_rfl) (by exact Nat.le_of_ble_eq_true rfl) ?_; refine wxs_nil ?_
  rw [Store.set_set, Store.set_set]
  refine ⟨_, fun _ _ h => h, rfl, _, _, .inst (Store.set_self ..), ?_⟩
  rw [Store.del_set ha]
  exact h
theorem s_conf_row {v l o x : List Int} {t : Bool} (room : C.Room 1) (hv : v.length ≤ 10000) (hl : l.length ≤ 10000) (ho : o.length ≤ 10000) (hx : x.length ≤ 10000) (h : Q (.tup [.tup (intsV v), .tup (intsV l), .tup (intsV o), .tup (intsV x), .bool t]) σ) : WCode C (.raw (.ref 447)) [.obj 457 (confF v l o x t)] ρ σ Q X := by
  refine wfun ["self"] [("self", .obj 457 (confF v l o x t))] (n := 0) (by exact rfl) (by exact rfl) room (b1 fun a => by exact rfl) (by exact rfl) (by decide +kernel) (by decide +kernel) fun L' gh room' => ?_
  refine x_return ?_; refine k_tuple ?_; refine k_args ?_; refine k_call ?_; refine we_b_tuple (by exact rfl) ?_; refine ⟨(by first | exact .builtin _ | exact .type _ | exact .K _ (by exact rfl)), ?_⟩; refine k_args ?_; refine k_attr ?_; refine we_pure 1 (by exact rfl) ?_; refine wget_inst (by first | exact .obj | exact .ref (by walk_at "wst")) (by kernel_rfl) (by kernel_rfl) (by kernel_rfl) (by exact rfl) (by intro w e; cases e) ?_; refine wargs_pure (by exact rfl) ?_
  refine wcall_tuple .lst (by simp; lia) ?_
  refine k_args ?_; refine k_call ?_; refine we_b_tuple (by exact rfl) ?_; refine ⟨(by first | exact .builtin _ | exact .type _ | exact .K _ (by exact rfl)), ?_⟩; refine k_args ?_; refine k_attr ?_; refine we_pure 1 (by exact rfl) ?_; refine wget_inst (by first | exact .obj | exact .ref (by walk_at "wst")) (by kernel_rfl) (by kernel_rfl) (by kernel_rfl) (by exact rfl) (by intro w e; cases e) ?_; refine wargs_pure (by exact rfl) ?_
  refine wcall_tuple .lst (by simp; lia) ?_
  refine k_args ?_; refine k_call ?_; refine we_b_tuple (by exact rfl) ?_; refine ⟨(by first | exact .builtin _ | exact .type _ | exact .K _ (by exact rfl)), ?_⟩; refine k_args ?_; refine k_attr ?_; refine we_pure 1 (by exact rfl) ?_; refine wget_inst (by first | exact .obj | exact .ref (by walk_at "wst")) (by kernel_rfl) (by kernel_rfl) (by kernel_rfl) (by exact rfl) (by intro w e; cases e) ?_; refine wargs_pure (by exact rfl) ?_
  refine wcall_tuple .lst (by simp; lia) ?_
  refine k_args ?_; refine k_call ?_; refine we_b_tuple (by exact rfl) ?_; refine ⟨(by first | exact .builtin _ | exact .type _ | exact .K _ (by exact rfl)), ?_⟩; refine k_args ?_; refine k_attr ?_; refine we_pure 1 (by exact rfl) ?_; refine wget_inst (by first | exact .obj | exact .ref (by walk_at "wst")) (by kernel_rfl) (by kernel_rfl) (by kernel_rfl) (by exact rfl) (by intro w e; cases e) ?_; refine wargs_pure (by exact rfl) ?_
  refine wcall_tuple .lst (by simp; lia) ?_
  refine k_args ?_; refine k_attr ?_; refine we_pure 1 (by exact rfl) ?_; refine wget_inst (by first | exact .obj | exact .ref (by walk_at "wst")) (by kernel_rfl) (by kernel_rfl) (by kernel_rfl) (by exact rfl) (by intro w e; cases e) ?_; refine wargs_pure (by exact rfl) ?_; refine ⟨Nat.le_of_ble_eq_true rfl, ?_⟩
  exact ⟨_, fun _ _ h => h, h⟩
noncomputable def encC (v l o x : List Int) (t : Bool) : List UInt8 := encIds v ++ encIds l ++ encIds o ++ encIds x ++ [if t then 1 else 0]
theorem encIds_len {ns : List Int} (hl : ns.length ≤ 100) (hb : ∀ x ∈ ns, 0 ≤ x ∧ x < 2 ^ 64) : (encIds ns).length ≤ 1010 := by
  have h1 : (leb ns.length).length ≤ 10 := leb10 (by lia)
  have h2 := flat_len hb
  unfold encIds
  rw [List.length_append]
  lia
structure IdsOk (ns : List Int) : Prop where
  len : ns.length ≤ 100
  val : ∀ x ∈ ns, 0 ≤ x ∧ x < 2 ^ 64
theorem s_encode_conf {v l o x : List Int} {t : Bool} (nd : C.nd = true) (room : C.Room 5) (hv : IdsOk v) (hl : IdsOk l) (ho : IdsOk o) (hx : IdsOk x) (h : Q (.bytes (encC v l o x t)) σ) : WCode C (.raw (.ref 482)) [.obj 457 (confF v l o x t)] ρ σ Q X := by
  refine wfun ["conf"] [("conf", .obj 457 (confF v l o x t))] (n := 4) (by exact rfl) (by exact rfl) room (b1 fun a => by exact rfl) (by exact rfl) (by decide +kernel) (by decide +kernel) fun L' gh room' => ?_
  have e1 := encIds_len hv.len hv.val
  have e2 := encIds_len hl.len hl.val
  have e3 := encIds_len ho.len ho.val
  have e4 := encIds_len hx.len hx.val
  refine x_assign ?_; refine we_call0 ?_; refine we_pure 1 (by exact rfl) ?_; refine ⟨(by first | exact .builtin _ | exact .type _ | exact .K _ (by exact rfl)), ?_⟩
  refine s_Sink (by exact nd) (room'.le (by decide)) fun a dd p σ₁ k1 => ?_
  refine x_expr ?_; refine k_call ?_; refine we_pure 1 (by exact rfl) ?_; refine ⟨(by first | exact .builtin _ | exact .type _ | exact .K _ (by exact rfl)), ?_⟩; refine k_args ?_; refine we_pure 1 (by exact rfl) ?_; refine k_args ?_; refine k_attr ?_; refine we_pure 1 (by exact rfl) ?_; refine wget_inst (by first | exact .obj | exact .ref (by walk_at "wst")) (by kernel_rfl) (by kernel_rfl) (by kernel_rfl) (by exact rfl) (by intro w e; cases e) ?_; refine wargs_pure (by exact rfl) ?_
  refine (s_put_ids (by exact nd) k1 room' (by simp) (by have := hv.len; lia) hv.val fun σ₂ k2 => ⟨rfl, ?_⟩).call
  refine x_expr ?_; refine k_call ?_; refine we_pure 1 (by exact rfl) ?_; refine ⟨(by first | exact .builtin _ | exact .type _ | exact .K _ (by exact rfl)), ?_⟩; refine k_args ?_; refine we_pure 1 (by exact rfl) ?_; refine k_args ?_; refine k_attr ?_; refine we_pure 1 (by exact rfl) ?_; refine wget_inst (by first | exact .obj | exact .ref (by walk_at "wst")) (by kernel_rfl) (by kernel_rfl) (by kernel_rfl) (by exact rfl) (by intro w e; cases e) ?_; refine wargs_pure (by exact rfl) ?_
  refine (s_put_ids (by exact nd) k2 room' (by simp; lia) (by have := hl.len; lia) hl.val fun σ₃ k3 => ⟨rfl, ?_⟩).call
  refine x_expr ?_; refine k_call ?_; refine we_pure 1 (by exact rfl) ?_; refine ⟨(by first | exact .builtin _ | exact .type _ | exact .K _ (by exact rfl)), ?_⟩; refine k_args ?_; refine we_pure 1 (by exact rfl) ?_; refine k_args ?_; refine k_attr ?_; refine we_pure 1 (by exact rfl) ?_; refine wget_inst (by first | exact .obj | exact .ref (by walk_at "wst")) (by kernel_rfl) (by kernel_rfl) (by kernel_rfl) (by exact rfl) (by intro w e; cases e) ?_; refine wargs_pure (by exact rfl) ?_
  refine (s_put_ids (by exact nd) k3 room' (by simp; lia) (by have := ho.len; lia) ho.val fun σ₄ k4 => ⟨rfl, ?_⟩).call
  refine x_expr ?_; refine k_call ?_; refine we_pure 1 (by exact rfl) ?_; refine ⟨(by first | exact .builtin _ | exact .type _ | exact .K _ (by exact rfl)), ?_⟩; refine k_args ?_; refine we_pure 1 (by exact rfl) ?_; refine k_args ?_; refine k_attr ?_; refine we_pure 1 (by exact rfl) ?_; refine wget_inst (by first | exact .obj | exact .ref (by walk_at "wst")) (by kernel_rfl) (by kernel_rfl) (by kernel_rfl) (by exact rfl) (by intro w e; cases e) ?_; refine wargs_pure (by exact rfl) ?_
  refine (s_put_ids (by exact nd) k4 room' (by simp; lia) (by have := hx.len; lia) hx.val fun σ₅ k5 => ⟨rfl, ?_⟩).call
  have g5 := k5.hi
  refine x_expr ?_; refine we_meth ?_; refine we_pure 1 (by exact rfl) ?_; refine wmeth_inst (by first | exact .obj | exact .ref (by walk_at "wst")) (by kernel_rfl) (by exact rfl) (by kernel_rfl) (by exact rfl) ?_; refine ⟨(by first | exact .builtin _ | exact .type _ | exact .K _ (by exact rfl)), ?_⟩; refine k_args ?_; refine k_attr ?_; refine we_pure 1 (by exact rfl) ?_; refine wget_inst (by first | exact .obj | exact .ref (by walk_at "wst")) (by kernel_rfl) (by kernel_rfl) (by kernel_rfl) (by exact rfl) (by intro w e; cases e) ?_; refine wargs_pure (by exact rfl) ?_
  refine (s_snk_flag (by exact nd) k5 (room'.le (by decide)) (by simp; lia) fun σ₆ k6 => ⟨rfl, ?_⟩).call
  have g6 := k6.hi
  refine x_return ?_; refine we_meth0 ?_; refine we_pure 1 (by exact rfl) ?_; refine wmeth_inst (by first | exact .obj | exact .ref (by walk_at "wst")) (by kernel_rfl) (by exact rfl) (by kernel_rfl) (by exact rfl) ?_; refine ⟨(by first | exact .builtin _ | exact .type _ | exact .K _ (by exact rfl)), ?_⟩
  refine (s_snk_done k6 (room'.le (by decide)) (by simp; lia) ⟨σ, k6.le, ?_⟩).call
  have e : [] ++ encIds v ++ encIds l ++ encIds o ++ encIds x ++ [if t = true then 1 else 0] = encC v l o x t := by unfold encC; simp
  rw [← e] at h
  exact h
theorem s_fold_record {i m : Nat} {v l o x : List Int} {t : Bool} (nd : C.nd = true) (room : C.Room 6) (hi : i < 2 ^ 64) (hm : m < 2 ^ 64) (hv : IdsOk v) (hl : IdsOk l) (ho : IdsOk o) (hx : IdsOk x) (h : Q (.bytes (4 :: (leb i ++ leb m ++ leb (encC v l o x t).length ++ encC v l o x t))) σ) :
    WCode C (.raw (.ref 510)) [.int (i : Nat), .int (m : Nat), .obj 457 (confF v l o x t)] ρ σ Q X := by
  refine wfun ["index", "term", "conf"] [("index", .int (i : Nat)), ("term", .int (m : Nat)), ("conf", .obj 457 (confF v l o x t))] (n := 5) (by exact rfl) (by exact rfl) room (b3 fun a b c => by exact rfl) (by exact rfl) (by decide +kernel) (by decide +kernel) fun L' gh room' => ?_
  have e1 := encIds_len hv.len hv.val
  have e2 := encIds_len hl.len hl.val
  have e3 := encIds_len ho.len ho.val
  have e4 := encIds_len hx.len hx.val
  have l1 := leb10 hi
  have l2 := leb10 hm
  have l3 : (encC v l o x t).length ≤ 5000 := by unfold encC; simp; lia
  have l4 : (leb (encC v l o x t).length).length ≤ 10 := leb10 (by lia)
  refine x_assign ?_; refine we_call0 ?_; refine we_pure 1 (by exact rfl) ?_; refine ⟨(by first | exact .builtin _ | exact .type _ | exact .K _ (by exact rfl)), ?_⟩
  refine s_Sink (by exact nd) (room'.le (by decide)) fun a dd p σ₁ k1 => ?_
  have g1 := k1.hi
  refine x_expr ?_; refine we_meth ?_; refine we_pure 1 (by exact rfl) ?_; refine wmeth_inst (by first | exact .obj | exact .ref (by walk_at "wst")) (by kernel_rfl) (by exact rfl) (by kernel_rfl) (by exact rfl) ?_; refine ⟨(by first | exact .builtin _ | exact .type _ | exact .K _ (by exact rfl)), ?_⟩; refine wargs_pure (by exact rfl) ?_
  refine (s_snk_octet (n := 4) (by exact nd) k1 (room'.le (by decide)) (by simp) (by decide) fun σ₂ k2 => ⟨rfl, ?_⟩).call
  have g2 := k2.hi
  refine x_expr ?_; refine we_meth ?_; refine we_pure 1 (by exact rfl) ?_; refine wmeth_inst (by first | exact .obj | exact .ref (by walk_at "wst")) (by kernel_rfl) (by exact rfl) (by kernel_rfl) (by exact rfl) ?_; refine ⟨(by first | exact .builtin _ | exact .type _ | exact .K _ (by exact rfl)), ?_⟩; refine wargs_pure (by exact rfl) ?_
  refine (s_snk_varint (by exact nd) k2 (room'.le (by decide)) (by simp) hi fun σ₃ k3 => ⟨rfl, ?_⟩).call
  have g3 := k3.hi
  refine x_expr ?_; refine we_meth ?_; refine we_pure 1 (by exact rfl) ?_; refine wmeth_inst (by first | exact .obj | exact .ref (by walk_at "wst")) (by kernel_rfl) (by exact rfl) (by kernel_rfl) (by exact rfl) ?_; refine ⟨(by first | exact .builtin _ | exact .type _ | exact .K _ (by exact rfl)), ?_⟩; refine wargs_pure (by exact rfl) ?_
  refine (s_snk_varint (by exact nd) k3 (room'.le (by decide)) (by simp; lia) hm fun σ₄ k4 => ⟨rfl, ?_⟩).call
  have g4 := k4.hi
  refine x_expr ?_; refine we_meth ?_; refine we_pure 1 (by exact rfl) ?_; refine wmeth_inst (by first | exact .obj | exact .ref (by walk_at "wst")) (by kernel_rfl) (by exact rfl) (by kernel_rfl) (by exact rfl) ?_; refine ⟨(by first | exact .builtin _ | exact .type _ | exact .K _ (by exact rfl)), ?_⟩; refine k_args ?_; refine e_call (by exact rfl) (by first | exact .builtin _ | exact .type _ | exact .K _ (by exact rfl)) (by exact rfl) ?_
  refine (s_encode_conf (by exact nd) room' hv hl ho hx ?_).call
  refine wargs_pure (by exact rfl) ?_
  refine (s_snk_lengthed (by exact nd) k4 (room'.le (by decide)) (by simp; lia) (by lia) fun σ₅ k5 => ⟨rfl, ?_⟩).call
  have g5 := k5.hi
  refine x_return ?_; refine we_meth0 ?_; refine we_pure 1 (by exact rfl) ?_; refine wmeth_inst (by first | exact .obj | exact .ref (by walk_at "wst")) (by kernel_rfl) (by exact rfl) (by kernel_rfl) (by exact rfl) ?_; refine ⟨(by first | exact .builtin _ | exact .type _ | exact .K _ (by exact rfl)), ?_⟩
  refine (s_snk_done k5 (room'.le (by decide)) (by simp; lia) ⟨σ, k5.le, ?_⟩).call
  have e : [] ++ [Nat.toUInt8 4] ++ leb i ++ leb m ++ leb (encC v l o x t).length ++ encC v l o x t = 4 :: (leb i ++ leb m ++ leb (encC v l o x t).length ++ encC v l o x t) := by simp
  rw [← e] at h
  exact h

end
section
variable {prog : Program} {w : World} {mean : ExcName → Option Value} {mg mb : Str → Option Value} {C : Ctx (G0 prog w mean mg mb)} {ρ : Loc} {σ : Store} {Q Qr : V → Store → Prop} {Qn : Loc → Store → Prop} {X : Prop}
theorem TI_len {b : List UInt8} : ∀ {n p : Nat} {out ids : List Nat} {q : Nat}, TI b n p out = some (ids, q) → ids.length = out.length + n
  | 0, p, out, ids, q, h => by rw [TI] at h; cases h; rfl
  | n + 1, p, out, ids, q, h => by
    rw [TI] at h
    cases e : R10 b p with
    | none => rw [e] at h; cases h
    | some nq =>
      rw [e] at h
      dsimp only at h
      have fin : TI b n nq.2 (out ++ [nq.1]) = some (ids, q) → ids.length = out.length + (n + 1) := fun h => by
        rw [TI_len h]
        simp
        lia
      cases hg : out.getLast? with
      | none => rw [hg] at h; exact fin h
      | some l =>
        rw [hg] at h
        dsimp only at h
        by_cases c : decide (nq.1 ≤ l) = true
        · rw [if_pos c] at h; cases h
        · rw [if_neg c] at h; exact fin h
theorem IDS_len {b : List UInt8} {p q : Nat} {ids : List Nat} (h : IDS b p = some (ids, q)) : ids.length ≤ b.length := by
  unfold IDS at h
  split at h
  · cases h
  · rename_i n q2 e
    obtain ⟨c1, c2⟩ := CNT_bounds e
    have := TI_len h
    simp at this
    lia
/-- the members out of their octets -/
noncomputable def DC (b : List UInt8) : Option (List Nat × List Nat × List Nat × List Nat × Bool) := match IDS b 0 with
  | none => none
  | some (v, p) => match IDS b p with
    | none => none
    | some (l, p) => match IDS b p with
      | none => none
      | some (o, p) => match IDS b p with
        | none => none
        | some (x, p) => if b.length ≤ p ∨ 1 < (b.getD p 0).toNat then none else if p + 1 < b.length then none else some (v, l, o, x, (b.getD p 0).toNat == 1)
noncomputable abbrev zs (ns : List Nat) : List Int := ns.map fun n : Nat => (n : Int)
theorem natsV_zs (ns : List Nat) : natsV ns = intsV (zs ns) := by unfold natsV intsV zs; rw [List.map_map]; rfl
noncomputable abbrev confV (v l o x : List Nat) (t : Bool) : V := .obj 457 (confF (rise (zs v)) (rise (zs l)) (rise (zs o)) (rise (zs x)) t)
theorem s_decode_conf {b : List UInt8} (room : C.Room 6) (hb : b.length < 64) (h : ∀ v l o x t, DC b = some (v, l, o, x, t) → Q (confV v l o x t) σ) (hx : DC b = none → X) : WCode C (.raw (.ref 489)) [.bytes b] ρ σ Q X := by
  refine wfun ["data"] [("data", .bytes b)] (n := 5) (by exact rfl) (by exact rfl) room (b1 fun a => by exact rfl) (by exact rfl) (by decide +kernel) (by decide +kernel) fun L' gh room' => ?_
  refine x_assign ?_; refine e_call (by exact rfl) (by first | exact .builtin _ | exact .type _ | exact .K _ (by exact rfl)) (by exact rfl) ?_
  refine s_Cursor1 (room'.le (by decide)) (by lia) fun a d ha => ?_
  refine x_assign ?_; refine e_call (by exact rfl) (by first | exact .builtin _ | exact .type _ | exact .K _ (by exact rfl)) (by exact rfl) ?_
  refine (s_take_ids (Store.set_self ..) room' (by lia) (fun v p1 e1 => ?_) fun e => hx (by unfold DC; rw [e])).call
  rw [Store.set_set]
  refine x_assign ?_; refine e_call (by exact rfl) (by first | exact .builtin _ | exact .type _ | exact .K _ (by exact rfl)) (by exact rfl) ?_
  refine (s_take_ids (Store.set_self ..) room' (by lia) (fun l p2 e2 => ?_) fun e => hx (by unfold DC; rw [e1]; dsimp only; rw [e])).call
  rw [Store.set_set]
  refine x_assign ?_; refine e_call (by exact rfl) (by first | exact .builtin _ | exact .type _ | exact .K _ (by exact rfl)) (by exact rfl) ?_
  refine (s_take_ids (Store.set_self ..) room' (by lia) (fun o p3 e3 => ?_) fun e => hx (by unfold DC; rw [e1]; dsimp only; rw [e2]; dsimp only; rw [e])).call
  rw [Store.set_set]
  refine x_assign ?_; refine e_call (by exact rfl) (by first | exact .builtin _ | exact .type _ | exact .K _ (by exact rfl)) (by exact rfl) ?_
  refine (s_take_ids (Store.set_self ..) room' (by lia) (fun x p4 e4 => ?_) fun e => hx (by unfold DC; rw [e1]; dsimp only; rw [e2]; dsimp only; rw [e3]; dsimp only; rw [e])).call
  rw [Store.set_set]
  have eD : DC b = if b.length ≤ p4 ∨ 1 < (b.getD p4 0).toNat then none else if p4 + 1 < b.length then none else some (v, l, o, x, (b.getD p4 0).toNat == 1) := by
    unfold DC; rw [e1]; dsimp only; rw [e2]; dsimp only; rw [e3]; dsimp only; rw [e4]
  refine x_assign ?_; refine we_meth0 ?_; refine we_pure 1 (by exact rfl) ?_; refine wmeth_inst (by first | exact .obj | exact .ref (by walk_at "wst")) (by kernel_rfl) (by exact rfl) (by kernel_rfl) (by exact rfl) ?_; refine ⟨(by first | exact .builtin _ | exact .type _ | exact .K _ (by exact rfl)), ?_⟩
  refine (s_cur_flag (Store.set_self ..) (room'.le (by decide)) (by lia) (fun f1 f2 => ?_) fun f => hx (by rw [eD, if_pos f])).call
  rw [Store.set_set]
  rw [if_neg (by lia)] at eD
  refine x_expr ?_; refine we_meth0 ?_; refine we_pure 1 (by exact rfl) ?_; refine wmeth_inst (by first | exact .obj | exact .ref (by walk_at "wst")) (by kernel_rfl) (by exact rfl) (by kernel_rfl) (by exact rfl) ?_; refine ⟨(by first | exact .builtin _ | exact .type _ | exact .K _ (by exact rfl)), ?_⟩
  refine (s_cur_done (Store.set_self ..) (room'.le (by decide)) (by lia) (by lia) (fun hl => ⟨rfl, ?_⟩) fun hl => hx (by rw [eD, if_pos hl])).call
  rw [if_neg (by lia)] at eD
  refine x_return ?_; refine e_call (by exact rfl) (by first | exact .builtin _ | exact .type _ | exact .K _ (by exact rfl)) (by exact rfl) ?_
  have i1 := IDS_len e1
  have i2 := IDS_len e2
  have i3 := IDS_len e3
  have i4 := IDS_len e4
  rw [natsV_zs, natsV_zs, natsV_zs, natsV_zs]
  refine s_ConfState (room'.le (by decide)) (fun _ _ => .lst) (fun _ _ => .lst) (fun _ _ => .lst) (fun _ _ => .lst) (by simp; lia) (by simp; lia) (by simp; lia) (by simp; lia) ⟨σ, Store.le_set ha _, h _ _ _ _ _ eD⟩
/-- an entry -/
structure Ent where
  t : Nat
  i : Nat
  k : Nat
  d : List UInt8
noncomputable abbrev Ent.V (e : Ent) : V := .obj 359 (entF e.t e.i e.k e.d)
structure SS where
  count : Nat
  bi : Nat
  bt : Nat
  conf : Lw.V
  ht : Nat
  hv : Nat
  hc : Nat
  es : List Ent
  ps : List Ent
noncomputable abbrev segF (z : SS) (e p : Addr) : Flds := [("count", .int (z.count : Nat)), ("base_index", .int (z.bi : Nat)), ("base_term", .int (z.bt : Nat)), ("conf", z.conf), ("hard", .obj 422 (hardF z.ht z.hv z.hc)), ("entries", .ref e), ("pending", .ref p)]
/-- the state of a segment in the store -/
structure Seg (σ₀ σ' : Store) (s d p : Addr) (z : SS) : Prop where
  ex : ∃ e, σ' s = some (.inst 562 d (segF z e p)) ∧ σ' e = some (.list (z.es.map Ent.V)) ∧ e ≠ p ∧ e ≠ s ∧ σ₀ e = none
  pe : σ' p = some (.list (z.ps.map Ent.V))
  pn : p ≠ s
  p0 : σ₀ p = none
  le : Store.Le σ₀ σ'
  ns : σ₀ s = none
theorem Store.none_le {σ₀ σ₁ : Store} {a : Addr} (h : Store.Le σ₀ σ₁) (h1 : σ₁ a = none) : σ₀ a = none := by
  cases e : σ₀ a with
  | none => rfl
  | some o => have := h _ _ e; rw [h1] at this; cases this

end
section
variable {prog : Program} {w : World} {mean : ExcName → Option Value} {mg mb : Str → Option Value} {C : Ctx (G0 prog w mean mg mb)} {ρ : Loc} {σ : Store} {Q Qr : V → Store → Prop} {Qn : Loc → Store → Prop} {X : Prop}
theorem s_SegmentState (room : C.Room 4) (h : ∀ s d p σ', Seg σ σ' s d p ⟨0, 0, 0, .none, 0, 0, 0, [], []⟩ → Q (.ref s) σ') : WCall C (.raw (.ref 562)) [] ρ σ Q X := by
  refine wnewN (fI := 524) (by kernel_rfl) (by exact rfl) (by kernel_rfl) fun a d A' ha hroom => ?_
  refine wfun ["self"] [("self", .ref a)] (n := 2) (by exact rfl) (by exact rfl) (hroom _ room) (b1 fun a => by exact rfl) (by exact rfl) (by decide +kernel) (by decide +kernel) fun L' gh room' => ?_
  refine x_setattr ?_; refine we_int ?_; refine we_pure 1 (by exact rfl) ?_; refine wset_inst (by walk_at "wst") (by kernel_rfl) (by kernel_rfl) (by kernel_rfl) (by kernel_rfl) (by exact Nat.le_of_ble_eq_true rfl) ?_; refine x_setattr ?_; refine we_int ?_; refine we_pure 1 (by exact rfl) ?_; refine wset_inst (by walk_at "wst") (by kernel_rfl) (by kernel_rfl) (by kernel_rfl) (by kernel_rfl) (by exact Nat.le_of_ble_eq_true rfl) ?_; refine x_setattr ?_; refine we_int ?_; refine we_pure 1 (by exact rfl) ?_; refine wset_inst (by walk_at "wst") (by kernel_rfl) (by kernel_rfl) (by kernel_rfl) (by kernel_rfl) (by exact Nat.le_of_ble_eq_true rfl) ?_; refine x_setattr ?_; refine we_none ?_; refine we_pure 1 (by exact rfl) ?_; refine wset_inst (by walk_at "wst") (by kernel_rfl) (by kernel_rfl) (by kernel_rfl) (by kernel_rfl) (by exact Nat.le_of_ble_eq_true rfl) ?_; refine x_setattr ?_; refine e_call (by exact rfl) (by first | exact .builtin _ | exact .type _ | exact .K _ (by exact rfl)) (by exact rfl) ?_
  refine s_HardState (t := 0) (v := 0) (c := 0) room' ?_
  refine we_pure 1 (by exact rfl) ?_; refine wset_inst (by walk_at "wst") (by kernel_rfl) (by kernel_rfl) (by kernel_rfl) (by kernel_rfl) (by exact Nat.le_of_ble_eq_true rfl) ?_; refine x_setattr ?_; refine we_list ?_; refine wargs_pure (by exact rfl) ?_; refine ⟨Nat.le_of_ble_eq_true rfl, ?_⟩
  rw [Store.set_set, Store.set_set, Store.set_set, Store.set_set, Store.set_set]
  intro e he
  have hae : a ≠ e := fun q => by subst q; rw [Store.set_self] at he; cases he
  have he0 : σ e = none := (Store.set_ne _ _ (Ne.symm hae)).symm.trans he
  refine we_pure 1 (by exact rfl) ?_; refine wset_inst (by walk_at "wst") (by kernel_rfl) (by kernel_rfl) (by kernel_rfl) (by kernel_rfl) (by exact Nat.le_of_ble_eq_true rfl) ?_; refine x_setattr ?_; refine we_list ?_; refine wargs_pure (by exact rfl) ?_; refine ⟨Nat.le_of_ble_eq_true rfl, ?_⟩
  rw [Store.set3 (Ne.symm hae)]
  intro p hp
  have hap : a ≠ p := fun q => by subst q; rw [Store.set_ne _ _ hae, Store.set_self] at hp; cases hp
  have hep : e ≠ p := fun q => by subst q; rw [Store.set_self] at hp; cases hp
  have hp0 : σ p = none := by rw [Store.set_ne _ _ (Ne.symm hep), Store.set_ne _ _ (Ne.symm hap)] at hp; exact hp
  refine we_pure 1 (by exact rfl) ?_; refine wset_inst (by walk_at "wst") (by kernel_rfl) (by kernel_rfl) (by kernel_rfl) (by kernel_rfl) (by exact Nat.le_of_ble_eq_true rfl) ?_; refine wxs_nil ?_
  refine ⟨_, fun _ _ h => h, rfl, h a d p _ ⟨⟨e, Store.set_self .., ?_, hep, Ne.symm hae, he0⟩, ?_, Ne.symm hap, hp0, ?_, ha⟩⟩
  · exact (Store.set_ne _ _ (Ne.symm hae)).trans ((Store.set_ne _ _ hep).trans (Store.set_self ..))
  · exact (Store.set_ne _ _ (Ne.symm hap)).trans (Store.set_self ..)
  · exact Store.le_set' (Store.le_set' (Store.le_set' (Store.le_set ha _) he0 _) hp0 _) ha _
/-- an entry laid behind what stands, or cutting it back -/
noncomputable def STAND (bi : Nat) (es : List Ent) (e : Ent) : Option (List Ent) := if e.i ≤ bi then none else if es.length < e.i - bi - 1 then none else some (es.take (e.i - bi - 1) ++ [e])
noncomputable def STANDS (bi : Nat) : List Ent → List Ent → Option (List Ent)
  | es, [] => some es
  | es, e :: r => match STAND bi es e with
    | none => none
    | some es' => STANDS bi es' r
theorem Seg.upd {σ₀ σ₁ σ' : Store} {s d p e' : Addr} {z z' : SS} (k : Seg σ₀ σ₁ s d p z) (hs : σ' s = some (.inst 562 d (segF z' e' p))) (he : σ' e' = some (.list (z'.es.map Ent.V))) (hep : e' ≠ p) (hes : e' ≠ s) (he0 : σ₀ e' = none) (hp : σ' p = some (.list (z'.ps.map Ent.V))) (hle : Store.Le σ₀ σ') : Seg σ₀ σ' s d p z' :=
  ⟨⟨e', hs, he, hep, hes, he0⟩, hp, k.pn, k.p0, hle, k.ns⟩
theorem s_stand {σ₀ : Store} {s d p : Addr} {z : SS} {e : Ent} (k : Seg σ₀ σ s d p z) (room : C.Room 1) (he : e.i < 2 ^ 64) (hl : z.es.length ≤ 1000) (h : ∀ es' σ', STAND z.bi z.es e = some es' → Seg σ₀ σ' s d p { z with es := es' } → Q .none σ') (hx : STAND z.bi z.es e = none → X) :
    WCode C (.raw (.ref 552)) [.ref s, e.V] ρ σ Q X := by
  obtain ⟨ea, g1, g2, g3, g4, g5⟩ := k.ex
  have g6 := k.pn
  have g7 := k.pe
  refine wfun ["self", "entry"] [("self", .ref s), ("entry", e.V)] (n := 0) (by exact rfl) (by exact rfl) room (b2 fun a b => by exact rfl) (by exact rfl) (by decide +kernel) (by decide +kernel) fun L' gh room' => ?_
  refine x_assign ?_; refine k_bin ?_; refine k_bin ?_; refine k_attr ?_; refine we_pure 1 (by exact rfl) ?_; refine wget_inst (by first | exact .obj | exact .ref (by walk_at "wst")) (by kernel_rfl) (by kernel_rfl) (by kernel_rfl) (by exact rfl) (by intro w e; cases e) ?_; refine k_attr ?_; refine we_pure 1 (by exact rfl) ?_; refine wget_inst (by first | exact .obj | exact .ref (by walk_at "wst")) (by kernel_rfl) (by kernel_rfl) (by kernel_rfl) (by exact rfl) (by intro w e; cases e) ?_; refine wbin_sub ?_; refine we_int ?_; refine wbin_sub ?_; refine x_if ?_; refine wtest_pcmp 4 (by exact rfl) ?_
  refine ifC (fun h1 => ?_) fun h1 => ?_
  · have h1 := of_decide_eq_true h1
    refine x_cons ?_
    refine wx_corrupt rfl (hx (by unfold STAND; rw [if_pos (by lia)])) ?_
    refine k_args ?_; refine we_str (n := 200) (by decide +kernel) ?_; refine wargs_pure (by exact rfl) ?_; exact Nat.le_of_ble_eq_true rfl
  have h1 := of_decide_eq_false h1
  have i1 : ¬ e.i ≤ z.bi := by lia
  refine wxs_nil ?_; refine x_if ?_; refine k_cmp ?_; refine we_pure 1 (by exact rfl) ?_; refine k_call ?_; refine we_b_len (by exact rfl) ?_; refine ⟨(by first | exact .builtin _ | exact .type _ | exact .K _ (by exact rfl)), ?_⟩; refine k_args ?_; refine k_attr ?_; refine we_pure 1 (by exact rfl) ?_; refine wget_inst (by first | exact .obj | exact .ref (by walk_at "wst")) (by kernel_rfl) (by kernel_rfl) (by kernel_rfl) (by exact rfl) (by intro w e; cases e) ?_; refine wargs_pure (by exact rfl) ?_
  refine wlen_list (.ref g2) (by simp; lia) ?_
  rw [List.length_map]
  refine wcmp_gt ?_; refine wtru_bool ?_
  refine ifC (fun h2 => ?_) fun h2 => ?_
  · have h2 := of_decide_eq_true h2
    refine x_cons ?_
    refine wx_corrupt rfl (hx (by unfold STAND; rw [if_neg i1, if_pos (by lia)])) ?_
    refine k_args ?_; refine k_bin ?_; refine k_bin ?_; refine we_str (n := 200) (by decide +kernel) ?_; refine k_call ?_; refine we_b_str (by exact rfl) ?_; refine ⟨(by first | exact .builtin _ | exact .type _ | exact .K _ (by exact rfl)), ?_⟩; refine k_args ?_; refine k_attr ?_; refine we_pure 1 (by exact rfl) ?_; refine wget_inst (by first | exact .obj | exact .ref (by walk_at "wst")) (by kernel_rfl) (by kernel_rfl) (by kernel_rfl) (by exact rfl) (by intro w e; cases e) ?_; refine wargs_pure (by exact rfl) ?_
    refine wcall_str_int (by lia) ?_
    refine wbin_text (by decide) ?_; refine we_str (n := 200) (by decide +kernel) ?_; refine wbin_text (by decide) ?_; refine wargs_pure (by exact rfl) ?_; exact Nat.le_of_ble_eq_true rfl
  have h2 := of_decide_eq_false h2
  have i2 : ¬ z.es.length < e.i - z.bi - 1 := by lia
  have eS : STAND z.bi z.es e = some (z.es.take (e.i - z.bi - 1) ++ [e]) := by unfold STAND; rw [if_neg i1, if_neg i2]
  refine wxs_nil ?_; refine x_if ?_; refine k_cmp ?_; refine we_pure 1 (by exact rfl) ?_; refine k_call ?_; refine we_b_len (by exact rfl) ?_; refine ⟨(by first | exact .builtin _ | exact .type _ | exact .K _ (by exact rfl)), ?_⟩; refine k_args ?_; refine k_attr ?_; refine we_pure 1 (by exact rfl) ?_; refine wget_inst (by first | exact .obj | exact .ref (by walk_at "wst")) (by kernel_rfl) (by kernel_rfl) (by kernel_rfl) (by exact rfl) (by intro w e; cases e) ?_; refine wargs_pure (by exact rfl) ?_
  refine wlen_list (.ref g2) (by simp; lia) ?_
  rw [List.length_map]
  refine wcmp_lt ?_; refine wtru_bool ?_
  refine ifC (fun h3 => ?_) fun h3 => ?_
  · have h3 := of_decide_eq_true h3
    refine wxs_cons (wx_setattr (we_slice_listA ?_))
    refine k_attr ?_; refine we_pure 1 (by exact rfl) ?_; refine wget_inst (by first | exact .obj | exact .ref (by walk_at "wst")) (by kernel_rfl) (by kernel_rfl) (by kernel_rfl) (by exact rfl) (by intro w e; cases e) ?_; refine we_pure 1 (by exact rfl) ?_
    refine ⟨_, _, .ref g2, rfl, by lia, by simp; lia, fun x hx => ?_⟩
    have hxs : x ≠ s := fun q => by subst q; rw [g1] at hx; cases hx
    have hxp : x ≠ p := fun q => by subst q; rw [g7] at hx; cases hx
    have g1' : (σ.set x (.list ((z.es.map Ent.V).take (((e.i : Int) - z.bi - 1).toNat)))) s = some (.inst 562 d (segF z ea p)) := (Store.set_ne _ _ (Ne.symm hxs)).trans g1
    refine we_pure 1 (by exact rfl) ?_; refine wset_inst (by walk_at "wst") (by kernel_rfl) (by kernel_rfl) (by kernel_rfl) (by kernel_rfl) (by exact Nat.le_of_ble_eq_true rfl) ?_; refine wxs_nil ?_; refine x_expr ?_; refine we_meth ?_; refine k_attr ?_; refine we_pure 1 (by exact rfl) ?_; refine wget_inst (by first | exact .obj | exact .ref (by walk_at "wst")) (by kernel_rfl) (by kernel_rfl) (by kernel_rfl) (by exact rfl) (by intro w e; cases e) ?_; refine wmeth_append (by walk_at "wst") ?_; refine ⟨(by first | exact .builtin _ | exact .type _ | exact .K _ (by exact rfl)), ?_⟩; refine wargs_pure (by exact rfl) ?_
    refine wcall_append ((Store.set_ne _ _ hxs).trans (Store.set_self ..)) (by simp; lia) ⟨rfl, ?_⟩
    refine wxs_nil ?_
    have ej : ((e.i : Int) - z.bi - 1).toNat = e.i - z.bi - 1 := by lia
    rw [ej]
    refine ⟨_, fun _ _ h => h, h _ _ eS (k.upd (z' := { z with es := z.es.take (e.i - z.bi - 1) ++ [e] }) (e' := x) ?_ ?_ hxp hxs ?_ ?_ ?_)⟩
    · exact (Store.set_ne _ _ (Ne.symm hxs)).trans (Store.set_self ..)
    · rw [Store.set_self]; simp
    · exact Store.none_le k.le hx
    · exact (Store.set_ne _ _ (Ne.symm hxp)).trans ((Store.set_ne _ _ g6).trans ((Store.set_ne _ _ (Ne.symm hxp)).trans g7))
    · exact Store.le_set' (Store.le_set' (Store.le_set' k.le (Store.none_le k.le hx) _) k.ns _) (Store.none_le k.le hx) _
  · have h3 := of_decide_eq_false h3
    refine wxs_nil ?_; refine x_expr ?_; refine we_meth ?_; refine k_attr ?_; refine we_pure 1 (by exact rfl) ?_; refine wget_inst (by first | exact .obj | exact .ref (by walk_at "wst")) (by kernel_rfl) (by kernel_rfl) (by kernel_rfl) (by exact rfl) (by intro w e; cases e) ?_; refine wmeth_append (by walk_at "wst") ?_; refine ⟨(by first | exact .builtin _ | exact .type _ | exact .K _ (by exact rfl)), ?_⟩; refine wargs_pure (by exact rfl) ?_
    refine wcall_append g2 (by simp; lia) ⟨rfl, ?_⟩
    refine wxs_nil ?_
    have e0 : z.es.take (e.i - z.bi - 1) = z.es := List.take_of_length_le (by lia)
    rw [e0] at eS
    refine ⟨_, fun _ _ h => h, h _ _ eS (k.upd (z' := { z with es := z.es ++ [e] }) ?_ ?_ g3 g4 g5 ?_ ?_)⟩
    · exact (Store.set_ne _ _ (Ne.symm g4)).trans g1
    · rw [Store.set_self]; simp
    · exact (Store.set_ne _ _ (Ne.symm g3)).trans g7
    · exact Store.le_set' k.le g5 _

theorem STANDS_cons {bi : Nat} {es : List Ent} {e : Ent} {r : List Ent} : STANDS bi es (e :: r) = match STAND bi es e with | none => none | some es' => STANDS bi es' r := rfl
theorem STAND_len {bi : Nat} {es es' : List Ent} {e : Ent} (h : STAND bi es e = some es') : es'.length ≤ es.length + 1 := by
  unfold STAND at h
  split at h
  · cases h
  · split at h
    · cases h
    · cases h; simp; lia
/-- a hard state out of its record -/
noncomputable def DH (b : List UInt8) : Option (Nat × Nat × Nat) := match R10 b 1 with
  | none => none
  | some (t, p) => match R10 b p with
    | none => none
    | some (v, p) => match R10 b p with
      | none => none
      | some (c, p) => if p < b.length then none else some (t, v, c)
/-- a base out of its record -/
noncomputable def DF (b : List UInt8) : Option (Nat × Nat × List Nat × List Nat × List Nat × List Nat × Bool) := match R10 b 1 with
  | none => none
  | some (i, p) => match R10 b p with
    | none => none
    | some (t, p) => match RL b p with
      | none => none
      | some (c, p) => match DC c with
        | none => none
        | some m => if p < b.length then none else some (i, t, m)
theorem Seg.fld {σ₀ σ₁ : Store} {s d p : Addr} {z : SS} (k : Seg σ₀ σ₁ s d p z) {x : Str} {v : V} {z' : SS} (hz : ∀ e p, fput x v (segF z e p) = segF z' e p) (he : z'.es = z.es) (hp : z'.ps = z.ps) :
    ∀ e, σ₁ s = some (.inst 562 d (segF z e p)) → Seg σ₀ (σ₁.set s (.inst 562 d (fput x v (segF z e p)))) s d p z' := fun e he' => by
  obtain ⟨ea, g1, g2, g3, g4, g5⟩ := k.ex
  rw [g1] at he'
  obtain rfl : ea = e := by injection he' with q; injection q with _ _ q; injection q with _ q; injection q with _ q; injection q with _ q; injection q with _ q; injection q with _ q; injection q with q _; injection q with _ q; injection q
  refine k.upd (e' := ea) ?_ ?_ g3 g4 g5 ?_ (Store.le_set' k.le k.ns _)
  · rw [Store.set_self, hz]
  · rw [he]; exact (Store.set_ne _ _ g4).trans g2
  · rw [hp]; exact (Store.set_ne _ _ k.pn).trans k.pe
theorem RL_len {b c : List UInt8} {p q : Nat} (h : RL b p = some (c, q)) : c.length ≤ b.length := by
  unfold RL at h
  split at h
  · cases h
  · split at h
    · cases h
    · cases h; simp; lia
theorem s_take_fold {σ₀ : Store} {s d p : Addr} {z : SS} {b : List UInt8} (k : Seg σ₀ σ s d p z) (room : C.Room 7) (hb : b.length < 64) (h1 : 1 ≤ b.length) (hc : z.count = 0)
    (h : ∀ i t v l o x f σ', DF b = some (i, t, v, l, o, x, f) → Seg σ₀ σ' s d p { z with bi := i, bt := t, conf := confV v l o x f } → Q .none σ') (hx : DF b = none → X) : WCode C (.raw (.ref 538)) [.ref s, .bytes b] ρ σ Q X := by
  obtain ⟨ea, g1, g2, g3, g4, g5⟩ := k.ex
  refine wfun ["self", "record"] [("self", .ref s), ("record", .bytes b)] (n := 6) (by exact rfl) (by exact rfl) room (b2 fun a b => by exact rfl) (by exact rfl) (by decide +kernel) (by decide +kernel) fun L' gh room' => ?_
  have has : ∀ a, σ a = none → s ≠ a := fun a ha q => by subst q; rw [g1] at ha; cases ha
  refine x_if ?_; refine k_cmp ?_; refine k_attr ?_; refine we_pure 1 (by exact rfl) ?_; refine wget_inst (by first | exact .obj | exact .ref (by walk_at "wst")) (by kernel_rfl) (by kernel_rfl) (by kernel_rfl) (by exact rfl) (by intro w e; cases e) ?_; refine we_int ?_; refine wcmp_gt ?_; refine wtru_bool ?_; refine ifF (dF (by lia)) ?_; refine wxs_nil ?_; refine x_assign ?_; refine e_call (by exact rfl) (by first | exact .builtin _ | exact .type _ | exact .K _ (by exact rfl)) (by exact rfl) ?_
  refine s_Cursor2 (p := 1) (room'.le (by decide)) (by lia) (by decide) (fun a dd ha _ => ?_) (fun q => absurd q (by lia))
  have hsa := has a ha
  refine x_setattr ?_; refine we_meth0 ?_; refine we_pure 1 (by exact rfl) ?_; refine wmeth_inst (by first | exact .obj | exact .ref (by walk_at "wst")) (by kernel_rfl) (by exact rfl) (by kernel_rfl) (by exact rfl) ?_; refine ⟨(by first | exact .builtin _ | exact .type _ | exact .K _ (by exact rfl)), ?_⟩
  refine (s_cur_varint (Store.set_self ..) (room'.le (by decide)) (by lia) (fun i p1 e1 => ?_) fun e => hx (by unfold DF; rw [e])).call
  rw [Store.set_set]
  refine we_pure 1 (by exact rfl) ?_; refine wset_inst (by walk_at "wst") (by kernel_rfl) (by kernel_rfl) (by kernel_rfl) (by kernel_rfl) (by exact Nat.le_of_ble_eq_true rfl) ?_; refine x_setattr ?_; refine we_meth0 ?_; refine we_pure 1 (by exact rfl) ?_; refine wmeth_inst (by first | exact .obj | exact .ref (by walk_at "wst")) (by kernel_rfl) (by exact rfl) (by kernel_rfl) (by exact rfl) ?_; refine ⟨(by first | exact .builtin _ | exact .type _ | exact .K _ (by exact rfl)), ?_⟩
  refine (s_cur_varint ((Store.set_ne _ _ (Ne.symm hsa)).trans (Store.set_self ..)) (room'.le (by decide)) (by lia) (fun t p2 e2 => ?_) fun e => hx (by unfold DF; rw [e1]; dsimp only; rw [e])).call
  rw [Store.set3 hsa]
  refine we_pure 1 (by exact rfl) ?_; refine wset_inst (by walk_at "wst") (by kernel_rfl) (by kernel_rfl) (by kernel_rfl) (by kernel_rfl) (by exact Nat.le_of_ble_eq_true rfl) ?_; refine x_setattr ?_; refine k_call ?_; refine we_pure 1 (by exact rfl) ?_; refine ⟨(by first | exact .builtin _ | exact .type _ | exact .K _ (by exact rfl)), ?_⟩; refine k_args ?_; refine we_meth0 ?_; refine we_pure 1 (by exact rfl) ?_; refine wmeth_inst (by first | exact .obj | exact .ref (by walk_at "wst")) (by kernel_rfl) (by exact rfl) (by kernel_rfl) (by exact rfl) ?_; refine ⟨(by first | exact .builtin _ | exact .type _ | exact .K _ (by exact rfl)), ?_⟩
  rw [Store.set_set]
  refine (s_cur_lengthed ((Store.set_ne _ _ (Ne.symm hsa)).trans (Store.set_self ..)) (room'.le (by decide)) (by lia) (fun c p3 e3 => ?_) fun e => hx (by unfold DF; rw [e1]; dsimp only; rw [e2]; dsimp only; rw [e])).call
  rw [Store.set3 hsa]
  have hcl : c.length ≤ b.length := RL_len e3
  have hp3 := RL_le e3
  refine wargs_pure (by exact rfl) ?_
  refine (s_decode_conf room' (by lia) (fun v l o x f e4 => ?_) fun e => hx (by unfold DF; rw [e1]; dsimp only; rw [e2]; dsimp only; rw [e3]; dsimp only; rw [e])).call
  refine we_pure 1 (by exact rfl) ?_; refine wset_inst (by walk_at "wst") (by kernel_rfl) (by kernel_rfl) (by kernel_rfl) (by kernel_rfl) (by exact Nat.le_of_ble_eq_true rfl) ?_; refine x_expr ?_; refine we_meth0 ?_; refine we_pure 1 (by exact rfl) ?_; refine wmeth_inst (by first | exact .obj | exact .ref (by walk_at "wst")) (by kernel_rfl) (by exact rfl) (by kernel_rfl) (by exact rfl) ?_; refine ⟨(by first | exact .builtin _ | exact .type _ | exact .K _ (by exact rfl)), ?_⟩
  rw [Store.set_set]
  have eD : DF b = if p3 < b.length then none else some (i, t, v, l, o, x, f) := by unfold DF; rw [e1]; dsimp only; rw [e2]; dsimp only; rw [e3]; dsimp only; rw [e4]
  refine (s_cur_done ((Store.set_ne _ _ (Ne.symm hsa)).trans (Store.set_self ..)) (room'.le (by decide)) (by lia) (by lia) (fun hl => ⟨rfl, ?_⟩) fun hl => hx (by rw [eD, if_pos hl])).call
  rw [if_neg (by lia)] at eD
  refine wxs_nil ?_
  have hns : (σ.set s (.inst 562 d (segF { z with bi := i, bt := t, conf := confV v l o x f } ea p))) a = none := (Store.set_ne _ _ (Ne.symm hsa)).trans ha
  refine ⟨σ.set s (.inst 562 d (segF { z with bi := i, bt := t, conf := confV v l o x f } ea p)), ?_, h _ _ _ _ _ _ _ _ eD (k.upd (e' := ea) (Store.set_self ..) ((Store.set_ne _ _ g4).trans g2) g3 g4 g5 ((Store.set_ne _ _ k.pn).trans k.pe) (Store.le_set' k.le k.ns _))⟩
  rw [Store.set_comm (Ne.symm hsa)]
  exact Store.le_set hns _

end
section
variable {prog : Program} {w : World} {mean : ExcName → Option Value} {mg mb : Str → Option Value} {C : Ctx (G0 prog w mean mg mb)} {ρ : Loc} {σ : Store} {Q Qr : V → Store → Prop} {Qn : Loc → Store → Prop} {X : Prop}
theorem drop_map_get {es : List Ent} {i : Nat} {v : V} (h : (es.map Ent.V)[i]? = some v) : ∃ e, es[i]? = some e ∧ v = e.V ∧ es.drop i = e :: es.drop (i + 1) := by
  rw [List.getElem?_map] at h
  cases q : es[i]? with
  | none => rw [q] at h; cases h
  | some e =>
    rw [q] at h
    cases h
    obtain ⟨hi, rfl⟩ := List.getElem?_eq_some_iff.mp q
    exact ⟨_, rfl, rfl, List.drop_eq_getElem_cons hi⟩
theorem s_take_hard {σ₀ : Store} {s d p : Addr} {z : SS} {b : List UInt8} (k : Seg σ₀ σ s d p z) (room : C.Room 5) (hb : b.length < 64) (h1 : 1 ≤ b.length) (hl : z.es.length + z.ps.length ≤ 1000) (hi : ∀ e ∈ z.ps, e.i < 2 ^ 64)
    (h : ∀ t v c es' p' σ', DH b = some (t, v, c) → STANDS z.bi z.es z.ps = some es' → Seg σ₀ σ' s d p' { z with es := es', ps := [], ht := t, hv := v, hc := c } → Q .none σ') (hx : (DH b = none ∨ STANDS z.bi z.es z.ps = none) → X) :
    WCode C (.raw (.ref 545)) [.ref s, .bytes b] ρ σ Q X := by
  obtain ⟨ea, g1, g2, g3, g4, g5⟩ := k.ex
  have g6 := k.pe
  refine wfun ["self", "record"] [("self", .ref s), ("record", .bytes b)] (n := 4) (by exact rfl) (by exact rfl) room (b2 fun a b => by exact rfl) (by exact rfl) (by decide +kernel) (by decide +kernel) fun L' gh room' => ?_
  have has : ∀ a, σ a = none → s ≠ a := fun a ha q => by subst q; rw [g1] at ha; cases ha
  refine x_assign ?_; refine e_call (by exact rfl) (by first | exact .builtin _ | exact .type _ | exact .K _ (by exact rfl)) (by exact rfl) ?_
  refine s_Cursor2 (p := 1) (room'.le (by decide)) (by lia) (by decide) (fun a dd ha _ => ?_) (fun q => absurd q (by lia))
  have hsa := has a ha
  refine x_assign ?_; refine we_meth0 ?_; refine we_pure 1 (by exact rfl) ?_; refine wmeth_inst (by first | exact .obj | exact .ref (by walk_at "wst")) (by kernel_rfl) (by exact rfl) (by kernel_rfl) (by exact rfl) ?_; refine ⟨(by first | exact .builtin _ | exact .type _ | exact .K _ (by exact rfl)), ?_⟩
  refine (s_cur_varint (Store.set_self ..) (room'.le (by decide)) (by lia) (fun t p1 e1 => ?_) fun e => hx (.inl (by unfold DH; rw [e]))).call
  rw [Store.set_set]
  refine x_assign ?_; refine we_meth0 ?_; refine we_pure 1 (by exact rfl) ?_; refine wmeth_inst (by first | exact .obj | exact .ref (by walk_at "wst")) (by kernel_rfl) (by exact rfl) (by kernel_rfl) (by exact rfl) ?_; refine ⟨(by first | exact .builtin _ | exact .type _ | exact .K _ (by exact rfl)), ?_⟩
  refine (s_cur_varint (Store.set_self ..) (room'.le (by decide)) (by lia) (fun v p2 e2 => ?_) fun e => hx (.inl (by unfold DH; rw [e1]; dsimp only; rw [e]))).call
  rw [Store.set_set]
  refine x_assign ?_; refine we_meth0 ?_; refine we_pure 1 (by exact rfl) ?_; refine wmeth_inst (by first | exact .obj | exact .ref (by walk_at "wst")) (by kernel_rfl) (by exact rfl) (by kernel_rfl) (by exact rfl) ?_; refine ⟨(by first | exact .builtin _ | exact .type _ | exact .K _ (by exact rfl)), ?_⟩
  refine (s_cur_varint (Store.set_self ..) (room'.le (by decide)) (by lia) (fun c p3 e3 => ?_) fun e => hx (.inl (by unfold DH; rw [e1]; dsimp only; rw [e2]; dsimp only; rw [e]))).call
  rw [Store.set_set]
  obtain ⟨b1, b2', b3', b4'⟩ := rg_bounds e3
  have eD : DH b = if p3 < b.length then none else some (t, v, c) := by unfold DH; rw [e1]; dsimp only; rw [e2]; dsimp only; rw [e3]
  refine x_expr ?_; refine we_meth0 ?_; refine we_pure 1 (by exact rfl) ?_; refine wmeth_inst (by first | exact .obj | exact .ref (by walk_at "wst")) (by kernel_rfl) (by exact rfl) (by kernel_rfl) (by exact rfl) ?_; refine ⟨(by first | exact .builtin _ | exact .type _ | exact .K _ (by exact rfl)), ?_⟩
  refine (s_cur_done (Store.set_self ..) (room'.le (by decide)) (by lia) (by lia) (fun hl => ⟨rfl, ?_⟩) fun hl => hx (.inl (by rw [eD, if_pos hl]))).call
  rw [if_neg (by lia)] at eD
  refine x_cons ?_
  refine wx_for_list0 (ι := Store × List Ent) (z.ps.map Ent.V) (fun _ => [("self", .ref s), ("term", .int (t : Nat)), ("vote", .int (v : Nat)), ("commit", .int (c : Nat))]) (fun j => j.1) (fun i j => Seg σ₀ j.1 s d p { z with es := j.2 } ∧ STANDS z.bi j.2 (z.ps.drop i) = STANDS z.bi z.es z.ps ∧ j.2.length ≤ z.es.length + i) ?_ ?_ ?_
  · refine k_attr ?_; refine we_pure 1 (by exact rfl) ?_; refine wget_inst (by first | exact .obj | exact .ref (by walk_at "wst")) (by kernel_rfl) (by kernel_rfl) (by kernel_rfl) (by exact rfl) (by intro w e; cases e) ?_
    refine ⟨fun i j σ' hj hle => .ref (hle _ _ hj.1.pe), (σ, z.es), ⟨k, by rw [List.drop_zero], by simp⟩, Loc.le_cons (by exact rfl) (Loc.le_cons (by exact rfl) (Loc.le_cons (by exact rfl) (Loc.le_cons (by exact rfl) (Loc.le_nil _)))), Store.le_set ha _⟩
  · rintro i w ⟨σ', es⟩ hw ⟨ks, hS, hlen⟩
    dsimp only at ks hS hlen ⊢
    obtain ⟨e, he, rfl, hd⟩ := drop_map_get hw
    have hil : i < z.ps.length := (List.getElem?_eq_some_iff.mp he).1
    rw [hd, STANDS_cons] at hS
    obtain ⟨ea', f1, f2, f3, f4, f5⟩ := ks.ex
    refine x_expr ?_; refine we_meth ?_; refine we_pure 1 (by exact rfl) ?_; refine wmeth_inst (by first | exact .obj | exact .ref (by walk_at "wst")) (by kernel_rfl) (by exact rfl) (by kernel_rfl) (by exact rfl) ?_; refine ⟨(by first | exact .builtin _ | exact .type _ | exact .K _ (by exact rfl)), ?_⟩; refine wargs_pure (by exact rfl) ?_
    refine (s_stand ks (room'.le (by decide)) (hi e (List.mem_of_getElem? he)) (by dsimp only; lia) (fun es' σ'' hs ks' => ⟨rfl, ?_⟩) fun hs => hx (.inr ?_)).call
    · have hs' : STAND z.bi es e = none := hs
      rw [hs'] at hS
      exact hS.symm
    · have hs' : STAND z.bi es e = some es' := hs
      rw [hs'] at hS
      refine wxs_nil ?_
      refine ⟨(σ'', es'), ⟨ks', hS, ?_⟩, Loc.le_cons (by exact rfl) (Loc.le_cons (by exact rfl) (Loc.le_cons (by exact rfl) (Loc.le_cons (by exact rfl) (Loc.le_nil _)))), fun _ _ h => h⟩
      have := STAND_len hs'
      dsimp only
      lia
  · rintro ⟨σ', es⟩ ρ₂ σ₂ ⟨ks, hS, hlen⟩ hl2 hs2
    dsimp only at ks hS hlen hl2 hs2
    rw [List.length_map, List.drop_length] at hS
    refine WS.le ?_ hl2 hs2
    obtain ⟨ea', f1, f2, f3, f4, f5⟩ := ks.ex
    have f6 := ks.pe
    have f7 := ks.pn
    have hS' : STANDS z.bi z.es z.ps = some es := hS.symm
    refine x_setattr ?_; refine we_list ?_; refine wargs_pure (by exact rfl) ?_; refine ⟨Nat.le_of_ble_eq_true rfl, ?_⟩
    intro x hxn
    have hxs : x ≠ s := fun q => by subst q; rw [f1] at hxn; cases hxn
    have hxe : x ≠ ea' := fun q => by subst q; rw [f2] at hxn; cases hxn
    refine we_pure 1 (by exact rfl) ?_; refine wset_inst (by walk_at "wst") (by kernel_rfl) (by kernel_rfl) (by kernel_rfl) (by kernel_rfl) (by exact Nat.le_of_ble_eq_true rfl) ?_; refine x_setattr ?_; refine e_call (by exact rfl) (by first | exact .builtin _ | exact .type _ | exact .K _ (by exact rfl)) (by exact rfl) ?_
    refine s_HardState (room'.le (by decide)) ?_
    refine we_pure 1 (by exact rfl) ?_; refine wset_inst (by walk_at "wst") (by kernel_rfl) (by kernel_rfl) (by kernel_rfl) (by kernel_rfl) (by exact Nat.le_of_ble_eq_true rfl) ?_; refine wxs_nil ?_
    rw [Store.set_set]
    refine ⟨_, fun _ _ h => h, h _ _ _ _ x _ eD hS' ⟨⟨ea', Store.set_self .., (Store.set_ne _ _ f4).trans ((Store.set_ne _ _ (Ne.symm hxe)).trans f2), Ne.symm hxe, f4, f5⟩, (Store.set_ne _ _ hxs).trans (Store.set_self ..), hxs, Store.none_le ks.le hxn, Store.le_set' (Store.le_set' ks.le (Store.none_le ks.le hxn) _) ks.ns _, ks.ns⟩⟩

end
section
variable {prog : Program} {w : World} {mean : ExcName → Option Value} {mg mb : Str → Option Value} {C : Ctx (G0 prog w mean mg mb)} {ρ : Loc} {σ : Store} {Q Qr : V → Store → Prop} {Qn : Loc → Store → Prop} {X : Prop}
theorem s_take_fold_no {σ₀ : Store} {s d p : Addr} {z : SS} {b : List UInt8} (k : Seg σ₀ σ s d p z) (room : C.Room 7) (hc : 0 < z.count) (hx : X) : WCode C (.raw (.ref 538)) [.ref s, .bytes b] ρ σ Q X := by
  obtain ⟨ea, g1, g2, g3, g4, g5⟩ := k.ex
  refine wfun ["self", "record"] [("self", .ref s), ("record", .bytes b)] (n := 6) (by exact rfl) (by exact rfl) room (b2 fun a b => by exact rfl) (by exact rfl) (by decide +kernel) (by decide +kernel) fun L' gh room' => ?_
  refine x_if ?_; refine k_cmp ?_; refine k_attr ?_; refine we_pure 1 (by exact rfl) ?_; refine wget_inst (by first | exact .obj | exact .ref (by walk_at "wst")) (by kernel_rfl) (by kernel_rfl) (by kernel_rfl) (by exact rfl) (by intro w e; cases e) ?_; refine we_int ?_; refine wcmp_gt ?_; refine wtru_bool ?_; refine ifT (dT (by lia)) ?_; refine x_cons ?_
  refine wx_corrupt rfl hx ?_
  refine k_args ?_; refine we_str (n := 200) (by decide +kernel) ?_; refine wargs_pure (by exact rfl) ?_; exact Nat.le_of_ble_eq_true rfl
/-- a record taken -/
noncomputable def TAKE (b : List UInt8) (z : SS) : Option SS := if b.length = 0 then none else
  if z.count = 0 ∧ (b.getD 0 0).toNat ≠ 4 then none else
  if z.count = 1 ∧ (b.getD 0 0).toNat ≠ 1 then none else
  if (b.getD 0 0).toNat = 4 then (if 0 < z.count then none else match DF b with
    | none => none
    | some (i, t, v, l, o, x, f) => some { z with bi := i, bt := t, conf := confV v l o x f, count := z.count + 1 }) else
  if (b.getD 0 0).toNat = 1 then (match DH b with
    | none => none
    | some (t, v, c) => match STANDS z.bi z.es z.ps with
      | none => none
      | some es' => some { z with es := es', ps := [], ht := t, hv := v, hc := c, count := z.count + 1 }) else
  if (b.getD 0 0).toNat = 2 then (match DE (b.drop 1) with
    | none => none
    | some (t, i, k, c) => some { z with ps := z.ps ++ [⟨t, i, k, c⟩], count := z.count + 1 }) else none
theorem Seg.count {σ₀ σ₁ : Store} {s d p : Addr} {z : SS} (k : Seg σ₀ σ₁ s d p z) : ∃ e, σ₁ s = some (.inst 562 d (segF z e p)) ∧ Seg σ₀ (σ₁.set s (.inst 562 d (segF { z with count := z.count + 1 } e p))) s d p { z with count := z.count + 1 } := by
  obtain ⟨ea, g1, g2, g3, g4, g5⟩ := k.ex
  exact ⟨ea, g1, k.upd (e' := ea) (Store.set_self ..) ((Store.set_ne _ _ g4).trans g2) g3 g4 g5 ((Store.set_ne _ _ k.pn).trans k.pe) (Store.le_set' k.le k.ns _)⟩
theorem s_take {σ₀ : Store} {s d p : Addr} {z : SS} {b : List UInt8} (k : Seg σ₀ σ s d p z) (room : C.Room 8) (hb : b.length < 64) (hl : z.es.length + z.ps.length ≤ 1000) (hi : ∀ e ∈ z.ps, e.i < 2 ^ 64)
    (h : ∀ z' p' σ', TAKE b z = some z' → Seg σ₀ σ' s d p' z' → Q .none σ') (hx : TAKE b z = none → X) : WCode C (.raw (.ref 531)) [.ref s, .bytes b] ρ σ Q X := by
  obtain ⟨ea, g1, g2, g3, g4, g5⟩ := k.ex
  refine wfun ["self", "record"] [("self", .ref s), ("record", .bytes b)] (n := 7) (by exact rfl) (by exact rfl) room (b2 fun a b => by exact rfl) (by exact rfl) (by decide +kernel) (by decide +kernel) fun L' gh room' => ?_
  refine x_if ?_; refine k_cmp ?_; refine k_call ?_; refine we_b_len (by exact rfl) ?_; refine ⟨(by first | exact .builtin _ | exact .type _ | exact .K _ (by exact rfl)), ?_⟩; refine wargs_pure (by exact rfl) ?_; refine wlen_bytes (by first | assumption | lia) ?_; refine we_int ?_; refine wcmp_eq ?_; refine wtru_bool ?_
  by_cases h0 : b.length = 0
  · refine ifT (beqT (by lia)) ?_
    refine x_cons ?_
    refine wx_corrupt rfl (hx (by unfold TAKE; rw [if_pos h0])) ?_
    refine k_args ?_; refine we_str (n := 200) (by decide +kernel) ?_; refine wargs_pure (by exact rfl) ?_; exact Nat.le_of_ble_eq_true rfl
  refine ifF (beqF (by lia)) ?_
  refine wxs_nil ?_; refine x_assign ?_; refine k_sub ?_; refine we_pure 1 (by exact rfl) ?_; refine we_int ?_; refine wsub_bytes (by first | assumption | lia) (by lia) (by lia) ?_; refine x_if ?_; refine t_and ?_; refine k_cmp ?_; refine k_attr ?_; refine we_pure 1 (by exact rfl) ?_; refine wget_inst (by first | exact .obj | exact .ref (by walk_at "wst")) (by kernel_rfl) (by kernel_rfl) (by kernel_rfl) (by exact rfl) (by intro w e; cases e) ?_; refine we_int ?_; refine wcmp_eq ?_; refine wtru_bool ?_
  generalize hk : (b.getD (Int.toNat 0) 0).toNat = kd
  have hk' : (b.getD 0 0).toNat = kd := hk
  have hkb : kd < 256 := by rw [← hk]; exact UInt8.toNat_lt _
  have eT : TAKE b z = if z.count = 0 ∧ kd ≠ 4 then none else
    if z.count = 1 ∧ kd ≠ 1 then none else
    if kd = 4 then (if 0 < z.count then none else match DF b with
      | none => none
      | some (i, t, v, l, o, x, f) => some { z with bi := i, bt := t, conf := confV v l o x f, count := z.count + 1 }) else
    if kd = 1 then (match DH b with
      | none => none
      | some (t, v, c) => match STANDS z.bi z.es z.ps with
        | none => none
        | some es' => some { z with es := es', ps := [], ht := t, hv := v, hc := c, count := z.count + 1 }) else
    if kd = 2 then (match DE (b.drop 1) with
      | none => none
      | some (t, i, k, c) => some { z with ps := z.ps ++ [⟨t, i, k, c⟩], count := z.count + 1 }) else none := by unfold TAKE; rw [if_neg h0, hk']
  rcases (show z.count = 0 ∨ z.count = 1 ∨ 2 ≤ z.count by lia) with hz | hz | hz
  · by_cases hk4 : kd = 4
    · rw [if_neg (by lia), if_neg (by lia), if_pos hk4, if_neg (by lia)] at eT
      refine ifT (beqT (by lia)) ?_; refine p_and_f (by exact rfl) (bneF (by lia)) ?_; refine ifF rfl ?_; refine wxs_nil ?_; refine x_if ?_; refine t_and ?_; refine k_cmp ?_; refine k_attr ?_; refine we_pure 1 (by exact rfl) ?_; refine wget_inst (by first | exact .obj | exact .ref (by walk_at "wst")) (by kernel_rfl) (by kernel_rfl) (by kernel_rfl) (by exact rfl) (by intro w e; cases e) ?_; refine we_int ?_; refine wcmp_eq ?_; refine wtru_bool ?_; refine ifF (beqF (by lia)) ?_; refine ifF rfl ?_; refine wxs_nil ?_; refine p_if_t (by exact rfl) (beqT (by lia)) ?_; refine x_expr ?_; refine we_meth ?_; refine we_pure 1 (by exact rfl) ?_; refine wmeth_inst (by first | exact .obj | exact .ref (by walk_at "wst")) (by kernel_rfl) (by exact rfl) (by kernel_rfl) (by exact rfl) ?_; refine ⟨(by first | exact .builtin _ | exact .type _ | exact .K _ (by exact rfl)), ?_⟩; refine wargs_pure (by exact rfl) ?_
      refine (s_take_fold k room' hb (by lia) hz (fun i t v l o x f σ' e1 ks => ⟨rfl, ?_⟩) fun hn => hx (by rw [eT, hn])).call
      rw [e1] at eT
      dsimp only at eT
      obtain ⟨e', f1, ks'⟩ := ks.count
      refine wxs_nil ?_; refine x_cons ?_; refine wx_augattr ?_; refine we_pure 1 (by exact rfl) ?_; refine wget_inst (by first | exact .obj | exact .ref (by walk_at "wst")) (by kernel_rfl) (by kernel_rfl) (by kernel_rfl) (by exact rfl) (by intro w e; cases e) ?_; refine we_int ?_; refine winp_add ?_; refine wset_inst (by walk_at "wst") (by kernel_rfl) (by kernel_rfl) (by kernel_rfl) (by kernel_rfl) (by exact Nat.le_of_ble_eq_true rfl) ?_; refine wxs_nil ?_
      exact ⟨_, fun _ _ h => h, h _ _ _ eT ks'⟩
    · rw [if_pos ⟨hz, hk4⟩] at eT
      refine ifT (beqT (by lia)) ?_; refine p_and_t (by exact rfl) (bneT (by lia)) ?_; refine wall_and_nil ?_; refine ifT rfl ?_; refine x_cons ?_
      refine wx_corrupt rfl (hx eT) ?_
      refine k_args ?_; refine we_str (n := 200) (by decide +kernel) ?_; refine wargs_pure (by exact rfl) ?_; exact Nat.le_of_ble_eq_true rfl
  · by_cases hk1 : kd = 1
    · skip
      rw [if_neg (by lia), if_neg (by lia), if_neg (by lia), if_pos hk1] at eT
      refine ifF (beqF (by lia)) ?_; refine ifF rfl ?_; refine wxs_nil ?_; refine x_if ?_; refine t_and ?_; refine k_cmp ?_; refine k_attr ?_; refine we_pure 1 (by exact rfl) ?_; refine wget_inst (by first | exact .obj | exact .ref (by walk_at "wst")) (by kernel_rfl) (by kernel_rfl) (by kernel_rfl) (by exact rfl) (by intro w e; cases e) ?_; refine we_int ?_; refine wcmp_eq ?_; refine wtru_bool ?_; refine ifT (beqT (by lia)) ?_; refine p_and_f (by exact rfl) (bneF (by lia)) ?_; refine ifF rfl ?_; refine wxs_nil ?_; refine p_if_f (by exact rfl) (beqF (by lia)) ?_; refine p_if_t (by exact rfl) (beqT (by lia)) ?_; refine x_expr ?_; refine we_meth ?_; refine we_pure 1 (by exact rfl) ?_; refine wmeth_inst (by first | exact .obj | exact .ref (by walk_at "wst")) (by kernel_rfl) (by exact rfl) (by kernel_rfl) (by exact rfl) ?_; refine ⟨(by first | exact .builtin _ | exact .type _ | exact .K _ (by exact rfl)), ?_⟩; refine wargs_pure (by exact rfl) ?_
      refine (s_take_hard k (room'.le (by decide)) hb (by lia) hl hi (fun t v c es' p' σ' e1 e2 ks => ⟨rfl, ?_⟩) fun hn => hx ?_).call
      · rw [eT]
        rcases hn with hn | hn
        · rw [hn]
        · cases DH b with
          | none => rfl
          | some q => obtain ⟨t, v, c⟩ := q; dsimp only; rw [hn]
      rw [e1] at eT
      dsimp only at eT
      rw [e2] at eT
      dsimp only at eT
      obtain ⟨e', f1, ks'⟩ := ks.count
      refine wxs_nil ?_; refine wxs_nil ?_; refine x_cons ?_; refine wx_augattr ?_; refine we_pure 1 (by exact rfl) ?_; refine wget_inst (by first | exact .obj | exact .ref (by walk_at "wst")) (by kernel_rfl) (by kernel_rfl) (by kernel_rfl) (by exact rfl) (by intro w e; cases e) ?_; refine we_int ?_; refine winp_add ?_; refine wset_inst (by walk_at "wst") (by kernel_rfl) (by kernel_rfl) (by kernel_rfl) (by kernel_rfl) (by exact Nat.le_of_ble_eq_true rfl) ?_; refine wxs_nil ?_
      exact ⟨_, fun _ _ h => h, h _ _ _ eT ks'⟩
    · rw [if_neg (by lia), if_pos ⟨hz, hk1⟩] at eT
      refine ifF (beqF (by lia)) ?_; refine ifF rfl ?_; refine wxs_nil ?_; refine x_if ?_; refine t_and ?_; refine k_cmp ?_; refine k_attr ?_; refine we_pure 1 (by exact rfl) ?_; refine wget_inst (by first | exact .obj | exact .ref (by walk_at "wst")) (by kernel_rfl) (by kernel_rfl) (by kernel_rfl) (by exact rfl) (by intro w e; cases e) ?_; refine we_int ?_; refine wcmp_eq ?_; refine wtru_bool ?_; refine ifT (beqT (by lia)) ?_; refine p_and_t (by exact rfl) (bneT (by lia)) ?_; refine wall_and_nil ?_; refine ifT rfl ?_; refine x_cons ?_
      refine wx_corrupt rfl (hx eT) ?_
      refine k_args ?_; refine we_str (n := 200) (by decide +kernel) ?_; refine wargs_pure (by exact rfl) ?_; exact Nat.le_of_ble_eq_true rfl
  by_cases hk4 : kd = 4
  · rw [if_neg (by lia), if_neg (by lia), if_pos hk4, if_pos (by lia)] at eT
    refine ifF (beqF (by lia)) ?_; refine ifF rfl ?_; refine wxs_nil ?_; refine x_if ?_; refine t_and ?_; refine k_cmp ?_; refine k_attr ?_; refine we_pure 1 (by exact rfl) ?_; refine wget_inst (by first | exact .obj | exact .ref (by walk_at "wst")) (by kernel_rfl) (by kernel_rfl) (by kernel_rfl) (by exact rfl) (by intro w e; cases e) ?_; refine we_int ?_; refine wcmp_eq ?_; refine wtru_bool ?_; refine ifF (beqF (by lia)) ?_; refine ifF rfl ?_; refine wxs_nil ?_; refine p_if_t (by exact rfl) (beqT (by lia)) ?_; refine x_expr ?_; refine we_meth ?_; refine we_pure 1 (by exact rfl) ?_; refine wmeth_inst (by first | exact .obj | exact .ref (by walk_at "wst")) (by kernel_rfl) (by exact rfl) (by kernel_rfl) (by exact rfl) ?_; refine ⟨(by first | exact .builtin _ | exact .type _ | exact .K _ (by exact rfl)), ?_⟩; refine wargs_pure (by exact rfl) ?_
    exact (s_take_fold_no k room' (by lia) (hx eT)).call
  by_cases hk1 : kd = 1
  · skip
    rw [if_neg (by lia), if_neg (by lia), if_neg (by lia), if_pos hk1] at eT
    refine ifF (beqF (by lia)) ?_; refine ifF rfl ?_; refine wxs_nil ?_; refine x_if ?_; refine t_and ?_; refine k_cmp ?_; refine k_attr ?_; refine we_pure 1 (by exact rfl) ?_; refine wget_inst (by first | exact .obj | exact .ref (by walk_at "wst")) (by kernel_rfl) (by kernel_rfl) (by kernel_rfl) (by exact rfl) (by intro w e; cases e) ?_; refine we_int ?_; refine wcmp_eq ?_; refine wtru_bool ?_; refine ifF (beqF (by lia)) ?_; refine ifF rfl ?_; refine wxs_nil ?_; refine p_if_f (by exact rfl) (beqF (by lia)) ?_; refine p_if_t (by exact rfl) (beqT (by lia)) ?_; refine x_expr ?_; refine we_meth ?_; refine we_pure 1 (by exact rfl) ?_; refine wmeth_inst (by first | exact .obj | exact .ref (by walk_at "wst")) (by kernel_rfl) (by exact rfl) (by kernel_rfl) (by exact rfl) ?_; refine ⟨(by first | exact .builtin _ | exact .type _ | exact .K _ (by exact rfl)), ?_⟩; refine wargs_pure (by exact rfl) ?_
    refine (s_take_hard k (room'.le (by decide)) hb (by lia) hl hi (fun t v c es' p' σ' e1 e2 ks => ⟨rfl, ?_⟩) fun hn => hx ?_).call
    · rw [eT]
      rcases hn with hn | hn
      · rw [hn]
      · cases DH b with
        | none => rfl
        | some q => obtain ⟨t, v, c⟩ := q; dsimp only; rw [hn]
    rw [e1] at eT
    dsimp only at eT
    rw [e2] at eT
    dsimp only at eT
    obtain ⟨e', f1, ks'⟩ := ks.count
    refine wxs_nil ?_; refine wxs_nil ?_; refine x_cons ?_; refine wx_augattr ?_; refine we_pure 1 (by exact rfl) ?_; refine wget_inst (by first | exact .obj | exact .ref (by walk_at "wst")) (by kernel_rfl) (by kernel_rfl) (by kernel_rfl) (by exact rfl) (by intro w e; cases e) ?_; refine we_int ?_; refine winp_add ?_; refine wset_inst (by walk_at "wst") (by kernel_rfl) (by kernel_rfl) (by kernel_rfl) (by kernel_rfl) (by exact Nat.le_of_ble_eq_true rfl) ?_; refine wxs_nil ?_
    exact ⟨_, fun _ _ h => h, h _ _ _ eT ks'⟩
  by_cases hk2 : kd = 2
  · rw [if_neg (by lia), if_neg (by lia), if_neg hk4, if_neg hk1, if_pos hk2] at eT
    refine ifF (beqF (by lia)) ?_; refine ifF rfl ?_; refine wxs_nil ?_; refine x_if ?_; refine t_and ?_; refine k_cmp ?_; refine k_attr ?_; refine we_pure 1 (by exact rfl) ?_; refine wget_inst (by first | exact .obj | exact .ref (by walk_at "wst")) (by kernel_rfl) (by kernel_rfl) (by kernel_rfl) (by exact rfl) (by intro w e; cases e) ?_; refine we_int ?_; refine wcmp_eq ?_; refine wtru_bool ?_; refine ifF (beqF (by lia)) ?_; refine ifF rfl ?_; refine wxs_nil ?_; refine p_if_f (by exact rfl) (beqF (by lia)) ?_; refine p_if_f (by exact rfl) (beqF (by lia)) ?_; refine p_if_t (by exact rfl) (beqT (by lia)) ?_; refine x_expr ?_; refine we_meth ?_; refine k_attr ?_; refine we_pure 1 (by exact rfl) ?_; refine wget_inst (by first | exact .obj | exact .ref (by walk_at "wst")) (by kernel_rfl) (by kernel_rfl) (by kernel_rfl) (by exact rfl) (by intro w e; cases e) ?_
    have g6 := k.pe
    have g7 := k.pn
    refine wmeth_append (by walk_at "wst") ?_; refine ⟨(by first | exact .builtin _ | exact .type _ | exact .K _ (by exact rfl)), ?_⟩; refine k_args ?_; refine k_call ?_; refine we_pure 1 (by exact rfl) ?_; refine ⟨(by first | exact .builtin _ | exact .type _ | exact .K _ (by exact rfl)), ?_⟩; refine k_args ?_; refine we_slice_bytes ?_; refine we_pure 1 (by exact rfl) ?_; refine wpart_some ?_; refine we_int ?_; refine ⟨_, rfl, ?_⟩; refine wpart_none ?_; refine ⟨_, rfl, (by first | assumption | lia), (by intro i e; cases e; first | done | lia), (by intro i e; cases e; first | done | lia), ?_⟩; refine wargs_pure (by exact rfl) ?_
    refine (s_decode_entry (b := cutL b (some 1) none) (room'.le (by decide)) (by have := cutL_length b (some 1) none; lia) (fun t i kk c e1 => ?_) fun hn => hx (by rw [eT, show DE (b.drop 1) = none from hn])).call
    rw [show DE (b.drop 1) = some (t, i, kk, c) from e1] at eT
    dsimp only at eT
    refine wargs_pure (by exact rfl) ?_
    refine wcall_append g6 (by simp; lia) ⟨rfl, ?_⟩
    have ks : Seg σ₀ (σ.set p (.list (z.ps.map Ent.V ++ [.obj 359 (entF t i kk c)]))) s d p { z with ps := z.ps ++ [⟨t, i, kk, c⟩] } := k.upd (e' := ea) ((Store.set_ne _ _ (Ne.symm g7)).trans g1) ((Store.set_ne _ _ g3).trans g2) g3 g4 g5 (by rw [Store.set_self]; simp) (Store.le_set' k.le k.p0 _)
    obtain ⟨e', f1, ks'⟩ := ks.count
    refine wxs_nil ?_; refine wxs_nil ?_; refine wxs_nil ?_; refine x_cons ?_; refine wx_augattr ?_; refine we_pure 1 (by exact rfl) ?_; refine wget_inst (by first | exact .obj | exact .ref (by walk_at "wst")) (by kernel_rfl) (by kernel_rfl) (by kernel_rfl) (by exact rfl) (by intro w e; cases e) ?_; refine we_int ?_; refine winp_add ?_; refine wset_inst (by walk_at "wst") (by kernel_rfl) (by kernel_rfl) (by kernel_rfl) (by kernel_rfl) (by exact Nat.le_of_ble_eq_true rfl) ?_; refine wxs_nil ?_
    exact ⟨_, fun _ _ h => h, h _ _ _ eT ks'⟩
  · rw [if_neg (by lia), if_neg (by lia), if_neg hk4, if_neg hk1, if_neg hk2] at eT
    refine ifF (beqF (by lia)) ?_; refine ifF rfl ?_; refine wxs_nil ?_; refine x_if ?_; refine t_and ?_; refine k_cmp ?_; refine k_attr ?_; refine we_pure 1 (by exact rfl) ?_; refine wget_inst (by first | exact .obj | exact .ref (by walk_at "wst")) (by kernel_rfl) (by kernel_rfl) (by kernel_rfl) (by exact rfl) (by intro w e; cases e) ?_; refine we_int ?_; refine wcmp_eq ?_; refine wtru_bool ?_; refine ifF (beqF (by lia)) ?_; refine ifF rfl ?_; refine wxs_nil ?_; refine p_if_f (by exact rfl) (beqF (by lia)) ?_; refine p_if_f (by exact rfl) (beqF (by lia)) ?_; refine p_if_f (by exact rfl) (beqF (by lia)) ?_; refine x_cons ?_
    refine wx_corrupt rfl (hx eT) ?_
    refine k_args ?_; refine k_bin ?_; refine we_str (n := 200) (by decide +kernel) ?_; refine k_call ?_; refine we_b_str (by exact rfl) ?_; refine ⟨(by first | exact .builtin _ | exact .type _ | exact .K _ (by exact rfl)), ?_⟩; refine wargs_pure (by exact rfl) ?_
    refine wcall_str_int (by lia) ?_
    refine wbin_text (by decide) ?_; refine wargs_pure (by exact rfl) ?_; exact Nat.le_of_ble_eq_true rfl

end
section
variable {prog : Program} {w : World} {mean : ExcName → Option Value} {mg mb : Str → Option Value} {C : Ctx (G0 prog w mean mg mb)} {ρ : Loc} {σ : Store} {Q Qr : V → Store → Prop} {Qn : Loc → Store → Prop} {X : Prop}
theorem winp_mulR {i j : Int} (hj : j.natAbs < 2 ^ 63) (h : Q (.int (i * j)) σ) : WInp C .Mult (.int i) (.int j) ρ σ Q X := fun ok fz hid v w hv hw s Qc Ec st hQ hX => by
  cases hv; cases hw
  exact .any (P.imul_int (hQ _ _ _ _ _ (subRefl fz) (.int _ _) h (st.toks _)) (IntMulOk.of_right (bits_small hj)))
/-- the law's draw -/
noncomputable def drawF (ns : List Nat) (i : Nat) : Nat := ns.getD (i % ns.length) 0 + 31 * (i / ns.length)
theorem s_draw {u : V} {ns : List Nat} {i : Nat} (room : C.Room 1) (hu : ∀ σ', Store.Le σ σ' → IsLst σ' u (natsV ns)) (h0 : ns ≠ []) (hl : ns.length ≤ 100) (hi : i < 1000) (h : Q (.int (drawF ns i : Nat)) σ) : WCode C (.raw (.ref 573)) [u, .int (i : Nat)] ρ σ Q X := by
  refine wfun ["nums", "i"] [("nums", u), ("i", .int (i : Nat))] (n := 0) (by exact rfl) (by exact rfl) room (b2 fun a b => by exact rfl) (by exact rfl) (by decide +kernel) (by decide +kernel) fun L' gh room' => ?_
  have hpos : 0 < ns.length := List.length_pos_iff.mpr h0
  have hL := hu σ (fun _ _ h => h)
  have hm : i % ns.length < ns.length := Nat.mod_lt _ hpos
  refine x_return ?_; refine k_bin ?_; refine k_sub ?_; refine we_pure 1 (by exact rfl) ?_; refine k_bin ?_; refine we_pure 1 (by exact rfl) ?_; refine k_call ?_; refine we_b_len (by exact rfl) ?_; refine ⟨(by first | exact .builtin _ | exact .type _ | exact .K _ (by exact rfl)), ?_⟩; refine wargs_pure (by exact rfl) ?_
  refine wlen_list hL (by simp; lia) ?_
  rw [show (natsV ns).length = ns.length by simp [natsV]]
  refine wbin_mod (by first | decide | lia) ?_
  refine wsub_list (v := .int ((ns.getD (i % ns.length) 0 : Nat) : Int)) hL (by lia) (by lia) ?_ ?_
  · rw [show ((i : Int) % (ns.length : Int)).toNat = i % ns.length by lia]
    simp [natsV, hm]
  refine k_bin ?_; refine we_int ?_; refine k_bin ?_; refine we_pure 1 (by exact rfl) ?_; refine k_call ?_; refine we_b_len (by exact rfl) ?_; refine ⟨(by first | exact .builtin _ | exact .type _ | exact .K _ (by exact rfl)), ?_⟩; refine wargs_pure (by exact rfl) ?_
  refine wlen_list hL (by simp; lia) ?_
  rw [show (natsV ns).length = ns.length by simp [natsV]]
  refine wbin_div (by first | decide | lia) (by first | decide | lia) ?_
  refine wbin_mul (by decide) ?_
  refine wbin_add ?_
  refine ⟨σ, fun _ _ h => h, ?_⟩
  have e : ((ns.getD (i % ns.length) 0 : Nat) : Int) + 31 * ((i : Int) / (ns.length : Int)) = (drawF ns i : Nat) := by unfold drawF; lia
  rw [e]
  exact h
theorem s_lput {n : Nat} (room : C.Room 1) (hb : n < 2 ^ 64) (h : Q (.bytes (leb n)) σ) : WCode C (.raw (.ref 580)) [.int (n : Nat)] ρ σ Q X := by
  refine wfun ["n"] [("n", .int (n : Nat))] (n := 0) (by exact rfl) (by exact rfl) room (b1 fun a => by exact rfl) (by exact rfl) (by decide +kernel) (by decide +kernel) fun L' gh room' => ?_
  refine x_assign ?_; refine we_bytes ?_; refine x_cons ?_
  have len10 : (leb n).length ≤ 10 := leb_len 10 (by lia) (by decide)
  refine wx_whileF (ι := Nat × List UInt8) (fun i => [("n", .int (i.1 : Nat)), ("out", .bytes i.2)]) (fun i => σ) (fun i => i.2 ++ leb i.1 = leb n) (fun i => i.1) (n, []) (Loc.le_refl _) (fun _ _ h => h) rfl ?_
  rintro ⟨m, b⟩ hc
  dsimp only at hc ⊢
  have hlen : b.length + (leb m).length ≤ 10 := by rw [← List.length_append, hc]; exact len10
  refine wtest_pcmp 4 (by exact rfl) ?_
  refine ifC (fun h1 => ?_) fun h1 => ?_
  · have h1 := of_decide_eq_true h1
    refine x_assign ?_; refine k_bin ?_; refine we_pure 1 (by exact rfl) ?_; refine k_call ?_; refine we_b_bytes (by exact rfl) ?_; refine ⟨(by first | exact .builtin _ | exact .type _ | exact .K _ (by exact rfl)), ?_⟩; refine k_args ?_; refine we_list ?_; refine k_args ?_; refine k_bin ?_; refine k_bin ?_; refine we_pure 1 (by exact rfl) ?_; refine we_int ?_; refine wbin_mod (by first | decide | lia) ?_; refine we_int ?_; refine wbin_add ?_; refine wargs_pure (by exact rfl) ?_; refine ⟨Nat.le_of_ble_eq_true rfl, ?_⟩
    intro a ha
    refine wargs_pure (by exact rfl) ?_
    refine wcall_bytes_ints (ns := [(m : Int) % 128 + 128]) (.ref (Store.set_self ..)) (by simp; lia) (Nat.le_of_ble_eq_true rfl) ?_
    refine wbin_bytes (by simp; lia) ?_
    refine x_assign ?_; refine k_bin ?_; refine we_pure 1 (by exact rfl) ?_; refine we_int ?_; refine wbin_div (by first | decide | lia) (by first | decide | lia) ?_; refine wxs_nil ?_
    refine ⟨(m / 128, b ++ [(m % 128 + 128).toUInt8]), ?_, ?_, ?_, Store.le_set ha _⟩
    · dsimp only; lia
    · dsimp only
      rw [leb_big (by lia)] at hc
      simpa using hc
    · refine Loc.le_cons (by exact rfl) (Loc.le_cons ?_ (Loc.le_nil _))
      show some (V.bytes (b ++ [((m : Int) % 128 + 128).toNat.toUInt8])) = _
      rw [show ((m : Int) % 128 + 128).toNat = m % 128 + 128 by lia]
  · have h1 := of_decide_eq_false h1
    refine x_return ?_; refine k_bin ?_; refine we_pure 1 (by exact rfl) ?_; refine k_call ?_; refine we_b_bytes (by exact rfl) ?_; refine ⟨(by first | exact .builtin _ | exact .type _ | exact .K _ (by exact rfl)), ?_⟩; refine k_args ?_; refine we_list ?_; refine wargs_pure (by exact rfl) ?_; refine ⟨Nat.le_of_ble_eq_true rfl, ?_⟩
    intro a ha
    refine wargs_pure (by exact rfl) ?_
    refine wcall_bytes_ints (ns := [(m : Int)]) (.ref (Store.set_self ..)) (by simp; lia) (Nat.le_of_ble_eq_true rfl) ?_
    refine wbin_bytes (by simp; lia) ?_
    rw [leb_small (by lia)] at hc
    refine ⟨σ, Store.le_set ha _, ?_⟩
    rw [← hc] at h
    exact h

end
section
variable {prog : Program} {w : World} {mean : ExcName → Option Value} {mg mb : Str → Option Value} {C : Ctx (G0 prog w mean mg mb)} {ρ : Loc} {σ : Store} {Q Qr : V → Store → Prop} {Qn : Loc → Store → Prop} {X : Prop}
theorem s_lnum {b : List UInt8} {p most : Nat} (room : C.Room 1) (hd : b.length ≤ 16000000) (hp : p ≤ b.length) (hm : most ≤ 10) (h : ∀ n q, LN b p most = some (n, q) → Q (.tup [.int (n : Nat), .int (q : Nat)]) σ) (h' : LN b p most = none → Q (.tup [.int (-1), .int (b.length : Nat)]) σ) :
    WCode C (.raw (.ref 587)) [.bytes b, .int (p : Nat), .int (most : Nat)] ρ σ Q X := by
  refine wfun ["data", "at", "most"] [("data", .bytes b), ("at", .int (p : Nat)), ("most", .int (most : Nat))] (n := 0) (by exact rfl) (by exact rfl) room (b3 fun a b c => by exact rfl) (by exact rfl) (by decide +kernel) (by decide +kernel) fun L' gh room' => ?_
  refine x_assign ?_; refine we_int ?_; refine x_assign ?_; refine we_int ?_; refine x_assign ?_; refine we_pure 4 (by exact rfl) ?_; refine x_cons ?_
  refine wx_whileF (ι := Nat × Nat × Nat × Nat) (fun j => [("data", .bytes b), ("at", .int (j.2.1 : Nat)), ("most", .int (most : Nat)), ("n", .int (j.2.2.1 : Nat)), ("scale", .int (j.2.2.2 : Nat)), ("upto", .int ((p : Int) + (most : Nat)))]) (fun _ => σ)
    (fun j => j.2.1 + j.1 = p + most ∧ ln b j.1 j.2.1 j.2.2.1 j.2.2.2 = LN b p most ∧ j.2.1 ≤ b.length) (fun j => j.1) (most, p, 0, 1) (Loc.le_refl _) (fun _ _ h => h) ⟨rfl, rfl, hp⟩ ?_
  rintro ⟨k, q, n, sc⟩ ⟨hk, hl, hq⟩
  dsimp only at hk hl hq ⊢
  refine t_and ?_; refine k_cmp ?_; refine we_pure 1 (by exact rfl) ?_; refine k_call ?_; refine we_b_len (by exact rfl) ?_; refine ⟨(by first | exact .builtin _ | exact .type _ | exact .K _ (by exact rfl)), ?_⟩; refine wargs_pure (by exact rfl) ?_; refine wlen_bytes (by first | assumption | lia) ?_; refine wcmp_lt ?_; refine wtru_bool ?_
  by_cases h1 : q < b.length
  · refine ifT (dT (by lia)) ?_
    refine a_and ?_; refine wtest_pcmp 4 (by exact rfl) ?_
    by_cases h2 : k = 0
    · subst h2
      refine ifF (dF (by lia)) ?_
      refine ifF rfl ?_; refine x_return ?_; refine k_tuple ?_; refine k_args ?_; refine we_neg ?_; refine we_int ?_; refine ⟨_, rfl, ?_⟩; refine k_args ?_; refine k_call ?_; refine we_b_len (by exact rfl) ?_; refine ⟨(by first | exact .builtin _ | exact .type _ | exact .K _ (by exact rfl)), ?_⟩; refine wargs_pure (by exact rfl) ?_; refine wlen_bytes (by first | assumption | lia) ?_; refine wargs_pure (by exact rfl) ?_; refine ⟨Nat.le_of_ble_eq_true rfl, ?_⟩
      exact ⟨σ, fun _ _ h => h, h' (by rw [← hl]; rfl)⟩
    · obtain ⟨k, rfl⟩ : ∃ j, k = j + 1 := ⟨k - 1, by lia⟩
      rw [ln, if_neg (by lia)] at hl
      dsimp only at hl
      refine ifT (dT (by lia)) ?_
      refine wall_and_nil ?_; refine ifT rfl ?_; refine x_assign ?_; refine k_sub ?_; refine we_pure 1 (by exact rfl) ?_; refine we_pure 1 (by exact rfl) ?_; refine wsub_bytes (by first | assumption | lia) (by lia) (by lia) ?_; refine x_cons ?_; refine wx_aug (by exact rfl) ?_; refine we_int ?_; refine winp_add ?_; refine x_cons ?_; refine wx_aug (by exact rfl) ?_; refine k_bin ?_; refine k_bin ?_; refine we_pure 1 (by exact rfl) ?_; refine we_int ?_; refine wbin_mod (by first | decide | lia) ?_; refine we_pure 1 (by exact rfl) ?_
      have e1 : (Int.toNat (q : Int)) = q := rfl
      rw [e1]
      generalize ho : (b.getD q 0).toNat = o at hl
      have ho2 : o < 256 := by rw [← ho]; exact UInt8.toNat_lt _
      refine wbin_mul (by lia) ?_
      refine winp_add ?_; refine x_if ?_; refine wtest_pcmp 4 (by exact rfl) ?_
      have e2 : (n : Int) + (o : Int) % 128 * (sc : Int) = ((n + o % 128 * sc : Nat) : Int) := by simp
      rw [e2]
      refine ifC (fun h3 => ?_) fun h3 => ?_
      · have h3 := of_decide_eq_true h3
        rw [if_pos (by lia)] at hl
        refine x_return ?_; refine k_tuple ?_; refine wargs_pure (by exact rfl) ?_; refine ⟨Nat.le_of_ble_eq_true rfl, ?_⟩
        exact ⟨σ, fun _ _ h => h, h _ _ hl.symm⟩
      · have h3 := of_decide_eq_false h3
        rw [if_neg (by lia)] at hl
        refine wxs_nil ?_; refine x_cons ?_; refine wx_aug (by exact rfl) ?_; refine we_int ?_
        refine winp_mulR (by decide) ?_
        refine wxs_nil ?_
        refine ⟨(k, q + 1, n + o % 128 * sc, sc * 128), by dsimp only; lia, ⟨by dsimp only; lia, hl, by dsimp only; lia⟩, ?_, fun _ _ h => h⟩
        exact Loc.le_cons (by exact rfl) (Loc.le_cons (by exact rfl) (Loc.le_cons (by exact rfl) (Loc.le_cons (by exact rfl) (Loc.le_cons (by exact rfl) (Loc.le_cons (by exact rfl) (Loc.le_nil _))))))
  · refine ifF (dF (by lia)) ?_
    refine ifF rfl ?_; refine x_return ?_; refine k_tuple ?_; refine k_args ?_; refine we_neg ?_; refine we_int ?_; refine ⟨_, rfl, ?_⟩; refine k_args ?_; refine k_call ?_; refine we_b_len (by exact rfl) ?_; refine ⟨(by first | exact .builtin _ | exact .type _ | exact .K _ (by exact rfl)), ?_⟩; refine wargs_pure (by exact rfl) ?_; refine wlen_bytes (by first | assumption | lia) ?_; refine wargs_pure (by exact rfl) ?_; refine ⟨Nat.le_of_ble_eq_true rfl, ?_⟩
    refine ⟨σ, fun _ _ h => h, h' ?_⟩
    rw [← hl]
    cases k with
    | zero => rfl
    | succ k => rw [ln, if_pos (by lia)]

end
section
variable {prog : Program} {w : World} {mean : ExcName → Option Value} {mg mb : Str → Option Value} {C : Ctx (G0 prog w mean mg mb)} {ρ : Loc} {σ : Store} {Q Qr : V → Store → Prop} {Qn : Loc → Store → Prop} {X : Prop}
noncomputable abbrev idsV (ids : List Nat) : V := .tup (natsV ids)
theorem list_snoc {α : Type} (out : List α) : out = [] ∨ ∃ L l, out = L ++ [l] := by
  rcases List.eq_nil_or_concat out with h | ⟨L, b, h⟩
  · exact .inl h
  · exact .inr ⟨L, b, by rw [h, List.concat_eq_append]⟩
theorem getLastIx {L : List Nat} {l : Nat} : (natsV (L ++ [l]))[L.length]? = some (.int (l : Int)) := by
  simp [natsV]
theorem s_lmembers {b : List UInt8} (room : C.Room 2) (hd : b.length ≤ 1000) (h : ∀ ls f, LM b = some (ls, f) → Q (.tup (ls.map idsV ++ [.bool f])) σ) (h' : LM b = none → Q .none σ) : WCode C (.raw (.ref 594)) [.bytes b] ρ σ Q X := by
  refine wfun ["data"] [("data", .bytes b)] (n := 1) (by exact rfl) (by exact rfl) room (b1 fun a => by exact rfl) (by exact rfl) (by decide +kernel) (by decide +kernel) fun L' gh room' => ?_
  have hd' : b.length ≤ 16000000 := by lia
  refine x_assign ?_; refine we_list ?_; refine wargs_pure (by exact rfl) ?_; refine ⟨Nat.le_of_ble_eq_true rfl, ?_⟩
  intro o ho
  refine x_assign ?_; refine we_int ?_; refine x_cons ?_
  refine wx_for_range0 (ι := Nat × List (List Nat)) 4 (fun j => [("data", .bytes b), ("at", .int (j.1 : Nat)), ("out", .ref o)]) (fun j => σ.set o (.list (j.2.map idsV))) (fun i j => LPs b (4 - i) j.1 j.2 = LPs b 4 0 [] ∧ j.1 ≤ b.length ∧ j.2.length = i) (by decide) ?_ ?_ ?_
  · refine k_call ?_; refine we_b_range (by exact rfl) ?_; refine ⟨(by first | exact .builtin _ | exact .type _ | exact .K _ (by exact rfl)), ?_⟩; refine wargs_pure (by exact rfl) ?_
    exact wrange1 ⟨rfl, (0, []), ⟨rfl, Nat.zero_le _, rfl⟩, Loc.le_cons (by exact rfl) (Loc.le_cons (by exact rfl) (Loc.le_cons (by exact rfl) (Loc.le_nil _))), fun _ _ h => h⟩
  · rintro i ⟨p, ls⟩ hi ⟨hT, hp, hl⟩
    dsimp only at hT hp hl ⊢
    obtain ⟨m, hm⟩ : ∃ m, 4 - i = m + 1 := ⟨4 - i - 1, by lia⟩
    rw [hm, LPs] at hT
    have bad : LIDS b p = none → LM b = none := fun e => by
      rw [e] at hT
      unfold LM
      rw [← hT]
    refine x_assign_t ?_; refine e_call (by exact rfl) (by first | exact .builtin _ | exact .type _ | exact .K _ (by exact rfl)) (by exact rfl) ?_
    have fin : LN b p 10 = none → Q .none σ := fun e => h' (bad (by unfold LIDS; rw [e]))
    have Hle : ∀ x : AObj, Store.Le σ (σ.set o x) := fun x => Store.le_set ho x
    refine (s_lnum room' hd' hp (by decide) (fun c q e => ?_) fun e => ?_).call
    · refine wasg_tup2 ?_
      refine x_assign ?_; refine we_list ?_; refine wargs_pure (by exact rfl) ?_; refine ⟨Nat.le_of_ble_eq_true rfl, ?_⟩
      intro x hx
      have hox : o ≠ x := fun q => by subst q; rw [Store.set_self] at hx; cases hx
      obtain ⟨q1, q2, q3⟩ := LN_bounds e
      have hLI : LIDS b p = LTI b c q [] := by unfold LIDS; rw [e]
      refine x_cons ?_
      refine wx_whileF (ι := Nat × List Nat) (fun j => [("data", .bytes b), ("at", .int (j.1 : Nat)), ("out", .ref o), ("count", .int (c : Nat)), ("ids", .ref x)]) (fun j => (σ.set o (.list (ls.map idsV))).set x (.list (natsV j.2)))
        (fun j => LTI b (c - j.2.length) j.1 j.2 = LTI b c q [] ∧ j.2.length ≤ c ∧ j.1 ≤ b.length ∧ j.2.length ≤ j.1) (fun j => c - j.2.length) (q, []) (Loc.le_cons (by exact rfl) (Loc.le_cons (by exact rfl) (Loc.le_cons (by exact rfl) (Loc.le_cons (by exact rfl) (Loc.le_cons (by exact rfl) (Loc.le_nil _)))))) (fun _ _ h => h) ⟨rfl, Nat.zero_le _, q2, Nat.zero_le _⟩ ?_
      rintro ⟨r, ids⟩ ⟨hL, hc, hr, hlr⟩
      dsimp only at hL hc hr hlr ⊢
      have hlen : (natsV ids).length = ids.length := by simp [natsV]
      have hout : Store.Le σ ((σ.set o (.list (ls.map idsV))).set x (.list (natsV ids))) := (Hle _).trans (Store.le_set hx _)
      refine k_cmp ?_; refine k_call ?_; refine we_b_len (by exact rfl) ?_; refine ⟨(by first | exact .builtin _ | exact .type _ | exact .K _ (by exact rfl)), ?_⟩; refine wargs_pure (by exact rfl) ?_
      refine wlen_list (.ref (Store.set_self ..)) (by simp; lia) ?_
      rw [hlen]
      refine we_pure 1 (by exact rfl) ?_; refine wcmp_lt ?_; refine wtru_bool ?_
      by_cases hlt : ids.length < c
      · refine ifT (dT (by lia)) ?_
        obtain ⟨k, hk⟩ : ∃ k, c - ids.length = k + 1 := ⟨c - ids.length - 1, by lia⟩
        rw [hk, LTI] at hL
        refine x_assign_t ?_; refine e_call (by exact rfl) (by first | exact .builtin _ | exact .type _ | exact .K _ (by exact rfl)) (by exact rfl) ?_
        refine (s_lnum room' hd' hr (by decide) (fun n r' e2 => ?_) fun e2 => ?_).call
        · obtain ⟨w1, w2, w3⟩ := LN_bounds e2
          rw [e2] at hL
          dsimp only at hL
          refine wasg_tup2 ?_
          have app : lastGe ids n = false → LTI b (c - (ids ++ [n]).length) r' (ids ++ [n]) = LTI b c q [] ∧ (ids ++ [n]).length ≤ c ∧ r' ≤ b.length ∧ (ids ++ [n]).length ≤ r' := fun hn => by
            rw [hn, if_neg (by decide)] at hL
            refine ⟨?_, by simp; lia, w2, by simp; lia⟩
            rw [← hL, show c - (ids ++ [n]).length = k by simp; lia]
          have fin2 : lastGe ids n = true → Q .none σ := fun hn => by
            rw [hn, if_pos rfl] at hL
            exact h' (bad (by rw [hLI, ← hL]))
          refine x_if ?_; refine t_or ?_; refine wtest_pcmp 4 (by exact rfl) ?_; refine ifF (dF (by lia)) ?_; refine a_or ?_; refine t_and ?_; refine k_cmp ?_; refine k_call ?_; refine we_b_len (by exact rfl) ?_; refine ⟨(by first | exact .builtin _ | exact .type _ | exact .K _ (by exact rfl)), ?_⟩; refine wargs_pure (by exact rfl) ?_
          refine wlen_list (.ref (Store.set_self ..)) (by simp; lia) ?_
          rw [hlen]
          refine we_int ?_; refine wcmp_gt ?_; refine wtru_bool ?_
          rcases list_snoc ids with rfl | ⟨L, l, rfl⟩
          · refine ifF (dF (by simp)) ?_
            refine ifF rfl ?_; refine wall_or_nil ?_; refine ifF rfl ?_; refine wxs_nil ?_; refine x_expr ?_; refine we_meth ?_; refine we_pure 1 (by exact rfl) ?_; refine wmeth_append (by walk_at "wst") ?_; refine ⟨(by first | exact .builtin _ | exact .type _ | exact .K _ (by exact rfl)), ?_⟩; refine wargs_pure (by exact rfl) ?_
            refine wcall_append (Store.set_self ..) (by simp) ⟨rfl, ?_⟩
            refine wxs_nil ?_
            rw [Store.set_set]
            refine ⟨(r', [] ++ [n]), by simp; lia, app rfl, Loc.le_cons (by exact rfl) (Loc.le_cons (by exact rfl) (Loc.le_cons (by exact rfl) (Loc.le_cons (by exact rfl) (Loc.le_cons (by exact rfl) (Loc.le_nil _))))), fun _ _ h => h⟩
          · have hL1 : (L ++ [l]).length = L.length + 1 := by simp
            refine ifT (dT (by lia)) ?_
            refine a_and ?_; refine k_cmp ?_; refine we_pure 1 (by exact rfl) ?_; refine k_sub ?_; refine we_pure 1 (by exact rfl) ?_; refine k_bin ?_; refine k_call ?_; refine we_b_len (by exact rfl) ?_; refine ⟨(by first | exact .builtin _ | exact .type _ | exact .K _ (by exact rfl)), ?_⟩; refine wargs_pure (by exact rfl) ?_
            refine wlen_list (.ref (Store.set_self ..)) (by lia) ?_
            rw [hlen]
            refine we_int ?_; refine wbin_sub ?_
            refine wsub_list (v := .int (l : Int)) (.ref (Store.set_self ..)) (by lia) (by lia) ?_ ?_
            · rw [show (((L ++ [l]).length : Nat) - 1 : Int).toNat = L.length by lia]
              exact getLastIx
            refine wcmp_le ?_; refine wtru_bool ?_
            by_cases hnl : n ≤ l
            · refine ifT (dT (by lia)) ?_
              refine wall_and_nil ?_; refine ifT rfl ?_; refine ifT rfl ?_; refine x_return ?_; refine we_none ?_
              exact ⟨σ, hout, fin2 (by rw [lastGe_snoc]; simpa using hnl)⟩
            · refine ifF (dF (by lia)) ?_
              refine ifF rfl ?_; refine wall_or_nil ?_; refine ifF rfl ?_; refine wxs_nil ?_; refine x_expr ?_; refine we_meth ?_; refine we_pure 1 (by exact rfl) ?_; refine wmeth_append (by walk_at "wst") ?_; refine ⟨(by first | exact .builtin _ | exact .type _ | exact .K _ (by exact rfl)), ?_⟩; refine wargs_pure (by exact rfl) ?_
              refine wcall_append (Store.set_self ..) (by lia) ⟨rfl, ?_⟩
              refine wxs_nil ?_
              rw [Store.set_set]
              refine ⟨(r', (L ++ [l]) ++ [n]), by simp at hlt ⊢; lia, app (by rw [lastGe_snoc]; simpa using hnl), Loc.le_cons (by exact rfl) (Loc.le_cons (by exact rfl) (Loc.le_cons (by exact rfl) (Loc.le_cons (by exact rfl) (Loc.le_cons (by exact rfl) (Loc.le_nil _))))), ?_⟩
              dsimp only
              rw [show natsV (L ++ [l] ++ [n]) = natsV (L ++ [l]) ++ [V.int n] by simp [natsV]]
              exact fun _ _ h => h
        · rw [e2] at hL
          refine wasg_tup2 ?_
          refine x_if ?_; refine t_or ?_; refine wtest_pcmp 4 (by exact rfl) ?_; refine ifT (dT (by lia)) ?_; refine ifT rfl ?_; refine x_return ?_; refine we_none ?_
          exact ⟨σ, hout, h' (bad (by rw [hLI, ← hL]))⟩
      · refine ifF (dF (by lia)) ?_
        rw [show c - ids.length = 0 by lia, LTI] at hL
        refine p_if_f (by exact rfl) (dF (by lia)) ?_; refine wxs_nil ?_; refine x_expr ?_; refine we_meth ?_; refine we_pure 1 (by exact rfl) ?_; refine wmeth_append (by walk_at "wst") ?_; refine ⟨(by first | exact .builtin _ | exact .type _ | exact .K _ (by exact rfl)), ?_⟩; refine k_args ?_; refine k_call ?_; refine we_b_tuple (by exact rfl) ?_; refine ⟨(by first | exact .builtin _ | exact .type _ | exact .K _ (by exact rfl)), ?_⟩; refine wargs_pure (by exact rfl) ?_
        refine wcall_tuple (.ref (Store.set_self ..)) (by simp; lia) ?_
        refine wargs_pure (by exact rfl) ?_
        refine wcall_append ((Store.set_ne _ _ hox).trans (Store.set_self ..)) (by simp; lia) ⟨rfl, ?_⟩
        refine wxs_nil ?_
        rw [hLI, ← hL] at hT
        dsimp only at hT
        refine ⟨(r, ls ++ [ids]), ⟨by rw [show 4 - (i + 1) = m by lia]; exact hT, hr, by simp [hl]⟩, Loc.le_cons (by exact rfl) (Loc.le_cons (by exact rfl) (Loc.le_cons (by exact rfl) (Loc.le_nil _))), ?_⟩
        dsimp only
        rw [Store.set3 (Ne.symm hox), List.map_append]
        refine Store.le_set ?_ _
        exact (Store.set_ne _ _ (Ne.symm hox)).trans ((Store.set_ne _ _ (Ne.symm hox)).symm.trans hx)
    · refine wasg_tup2 ?_
      refine x_assign ?_; refine we_list ?_; refine wargs_pure (by exact rfl) ?_; refine ⟨Nat.le_of_ble_eq_true rfl, ?_⟩
      intro x hx
      refine x_cons ?_
      refine wx_whileF (ι := Unit) (fun _ => [("data", .bytes b), ("at", .int (b.length : Nat)), ("out", .ref o), ("count", .int (-1)), ("ids", .ref x)]) (fun _ => (σ.set o (.list (ls.map idsV))).set x (.list []))
        (fun _ => True) (fun _ => 0) () (Loc.le_cons (by exact rfl) (Loc.le_cons (by exact rfl) (Loc.le_cons (by exact rfl) (Loc.le_cons (by exact rfl) (Loc.le_cons (by exact rfl) (Loc.le_nil _)))))) (fun _ _ h => h) trivial ?_
      intro _ _
      refine k_cmp ?_; refine k_call ?_; refine we_b_len (by exact rfl) ?_; refine ⟨(by first | exact .builtin _ | exact .type _ | exact .K _ (by exact rfl)), ?_⟩; refine wargs_pure (by exact rfl) ?_
      refine wlen_list (.ref (Store.set_self ..)) (by decide) ?_
      refine we_pure 1 (by exact rfl) ?_; refine wcmp_lt ?_; refine wtru_bool ?_; refine ifF (dF (by lia)) ?_; refine p_if_t (by exact rfl) (dT (by lia)) ?_; refine x_return ?_; refine we_none ?_
      exact ⟨σ, (Hle _).trans (Store.le_set hx _), fin e⟩
  · rintro ⟨p, ls⟩ ρ₂ σ₂ ⟨hT, hp, hl⟩ hl2 hs2
    dsimp only at hT hp hl hl2 hs2
    rw [Nat.sub_self, LPs] at hT
    refine WS.le ?_ hl2 hs2
    refine x_if ?_; refine t_or ?_; refine k_cmp ?_; refine we_pure 4 (by exact rfl) ?_; refine k_call ?_; refine we_b_len (by exact rfl) ?_; refine ⟨(by first | exact .builtin _ | exact .type _ | exact .K _ (by exact rfl)), ?_⟩; refine wargs_pure (by exact rfl) ?_; refine wlen_bytes (by first | assumption | lia) ?_; refine wcmp_ne ?_; refine wtru_bool ?_
    have eM : LM b = if p + 1 ≠ b.length ∨ 1 < (b.getD p 0).toNat then none else some (ls, (b.getD p 0).toNat == 1) := by unfold LM; rw [← hT]
    have Hle : Store.Le σ (σ.set o (.list (ls.map idsV))) := Store.le_set ho _
    by_cases c1 : p + 1 = b.length
    · refine ifF (bneF (by lia)) ?_
      refine a_or ?_; refine k_cmp ?_; refine k_sub ?_; refine we_pure 1 (by exact rfl) ?_; refine we_pure 1 (by exact rfl) ?_; refine wsub_bytes (by first | assumption | lia) (by lia) (by lia) ?_; refine we_int ?_; refine wcmp_gt ?_; refine wtru_bool ?_
      have e1 : (Int.toNat (p : Int)) = p := rfl
      rw [e1]
      have ho2 : (b.getD p 0).toNat < 256 := UInt8.toNat_lt _
      by_cases c2 : 1 < (b.getD p 0).toNat
      · refine ifT (dT (by lia)) ?_
        refine ifT rfl ?_; refine x_return ?_; refine we_none ?_
        exact ⟨σ, Hle, h' (by rw [eM, if_pos (.inr c2)])⟩
      · refine ifF (dF (by lia)) ?_
        rw [if_neg (by lia)] at eM
        refine wall_or_nil ?_; refine ifF rfl ?_; refine wxs_nil ?_; refine x_expr ?_; refine we_meth ?_; refine we_pure 1 (by exact rfl) ?_; refine wmeth_append (by walk_at "wst") ?_; refine ⟨(by first | exact .builtin _ | exact .type _ | exact .K _ (by exact rfl)), ?_⟩; refine k_args ?_; refine we_cmp ?_; refine k_sub ?_; refine we_pure 1 (by exact rfl) ?_; refine we_pure 1 (by exact rfl) ?_; refine wsub_bytes (by first | assumption | lia) (by lia) (by lia) ?_; refine we_int ?_; refine wcmp_eq ?_; refine wargs_pure (by exact rfl) ?_
        rw [e1]
        refine wcall_append (Store.set_self ..) (by simp; lia) ⟨rfl, ?_⟩
        rw [Store.set_set]
        have e2 : (((b.getD p 0).toNat : Int) == 1) = ((b.getD p 0).toNat == 1) := by
          by_cases hh : (b.getD p 0).toNat = 1
          · rw [hh]; rfl
          · rw [beq_false_of_ne hh, beq_false_of_ne (by lia)]
        rw [e2]
        refine x_return ?_; refine k_call ?_; refine we_b_tuple (by exact rfl) ?_; refine ⟨(by first | exact .builtin _ | exact .type _ | exact .K _ (by exact rfl)), ?_⟩; refine wargs_pure (by exact rfl) ?_
        refine wcall_tuple (.ref (Store.set_self ..)) (by simp; lia) ?_
        exact ⟨σ, Store.le_set ho _, h _ _ eM⟩
    · refine ifT (bneT (by lia)) ?_
      refine ifT rfl ?_; refine x_return ?_; refine we_none ?_
      exact ⟨σ, Hle, h' (by rw [eM, if_pos (.inl c1)])⟩

end
section
variable {prog : Program} {w : World} {mean : ExcName → Option Value} {mg mb : Str → Option Value} {C : Ctx (G0 prog w mean mg mb)} {ρ : Loc} {σ : Store} {Q Qr : V → Store → Prop} {Qn : Loc → Store → Prop} {X : Prop}
noncomputable def LNi (b : List UInt8) (p most : Nat) : Int × Nat := match LN b p most with
  | none => (-1, b.length)
  | some (n, q) => ((n : Int), q)
theorem s_lnumI {b : List UInt8} {p most : Nat} (room : C.Room 1) (hd : b.length ≤ 16000000) (hp : p ≤ b.length) (hm : most ≤ 10) (h : ∀ n q, LNi b p most = (n, q) → q ≤ b.length → -1 ≤ n → Q (.tup [.int n, .int (q : Nat)]) σ) :
    WCode C (.raw (.ref 587)) [.bytes b, .int (p : Nat), .int (most : Nat)] ρ σ Q X :=
  s_lnum room hd hp hm (fun n q e => h n q (by unfold LNi; rw [e]) (LN_bounds e).2.1 (by lia)) fun e => h (-1) b.length (by unfold LNi; rw [e]) (Nat.le_refl _) (Int.le_refl _)
theorem LNi_neg {b : List UInt8} {p most : Nat} {n : Int} {q : Nat} (h : LNi b p most = (n, q)) (hn : n < 0) : LN b p most = none := by
  unfold LNi at h
  split at h
  · assumption
  · cases h; lia
theorem LNi_pos {b : List UInt8} {p most : Nat} {n : Int} {q : Nat} (h : LNi b p most = (n, q)) (hn : 0 ≤ n) : ∃ k : Nat, n = (k : Int) ∧ LN b p most = some (k, q) := by
  unfold LNi at h
  split at h
  · cases h; lia
  · cases h; exact ⟨_, rfl, by assumption⟩
noncomputable def Row.v : Row → V
  | .base i t ls f => .tup [.int (i : Nat), .int (t : Nat), .tup (ls.map idsV ++ [.bool f])]
  | .hard t v c => .tup [.int (t : Nat), .int (v : Nat), .int (c : Nat)]
  | .ent t i k d => .tup [.int (t : Nat), .int (i : Nat), .int (k : Nat), .bytes d]
noncomputable def Row.V (r : Row) : V := .tup [.int (r.kind : Nat), r.v]
noncomputable def newV : Option Row → V
  | none => .tup [.int 0]
  | some r => r.V
theorem s_lread {b : List UInt8} (room : C.Room 3) (hd : b.length ≤ 1000) (h : Q (newV (LR b)) σ) : WCode C (.raw (.ref 601)) [.bytes b] ρ σ Q X := by
  refine wfun ["record"] [("record", .bytes b)] (n := 2) (by exact rfl) (by exact rfl) room (b1 fun a => by exact rfl) (by exact rfl) (by decide +kernel) (by decide +kernel) fun L' gh room' => ?_
  have hd' : b.length ≤ 16000000 := by lia
  have fin : LR b = none → Q (.tup [.int 0]) σ := fun e => by rw [e] at h; exact h
  refine x_if ?_; refine k_cmp ?_; refine k_call ?_; refine we_b_len (by exact rfl) ?_; refine ⟨(by first | exact .builtin _ | exact .type _ | exact .K _ (by exact rfl)), ?_⟩; refine wargs_pure (by exact rfl) ?_; refine wlen_bytes (by first | assumption | lia) ?_; refine we_int ?_; refine wcmp_eq ?_; refine wtru_bool ?_
  by_cases h0 : b.length = 0
  · refine ifT (beqT (by lia)) ?_
    refine x_return ?_; refine k_tuple ?_; refine wargs_pure (by exact rfl) ?_; refine ⟨Nat.le_of_ble_eq_true rfl, ?_⟩
    exact ⟨σ, fun _ _ h => h, fin (by unfold LR; rw [if_pos h0])⟩
  refine ifF (beqF (by lia)) ?_
  refine wxs_nil ?_; refine x_assign ?_; refine k_sub ?_; refine we_pure 1 (by exact rfl) ?_; refine we_int ?_; refine wsub_bytes (by first | assumption | lia) (by lia) (by lia) ?_; refine x_if ?_; refine t_and ?_; refine wtest_pcmp 4 (by exact rfl) ?_
  generalize hk : (b.getD (Int.toNat 0) 0).toNat = kd
  have hk' : (b.getD 0 0).toNat = kd := hk
  have eL : LR b = LRk b kd := by unfold LR; rw [if_neg h0, hk']
  unfold LRk at eL
  by_cases hkk : kd ≠ 1 ∧ kd ≠ 2 ∧ kd ≠ 4
  · rw [if_pos hkk] at eL
    refine ifT (bneT (by lia)) ?_; refine p_and_t (by exact rfl) (bneT (by lia)) ?_; refine p_and_t (by exact rfl) (bneT (by lia)) ?_; refine wall_and_nil ?_; refine ifT rfl ?_; refine x_return ?_; refine k_tuple ?_; refine wargs_pure (by exact rfl) ?_; refine ⟨Nat.le_of_ble_eq_true rfl, ?_⟩
    exact ⟨σ, fun _ _ h => h, fin eL⟩
  rw [if_neg hkk] at eL
  by_cases hk4 : kd = 4
  · subst hk4
    refine ifT (bneT (by lia)) ?_; refine p_and_t (by exact rfl) (bneT (by lia)) ?_; refine p_and_f (by exact rfl) (bneF (by lia)) ?_; refine ifF rfl ?_; refine wxs_nil ?_; refine x_assign_t ?_; refine e_call (by exact rfl) (by first | exact .builtin _ | exact .type _ | exact .K _ (by exact rfl)) (by exact rfl) ?_
    refine (s_lnumI (p := 1) (room'.le (by decide)) hd' (by lia) (by decide) fun one p1 e1 b1 n1 => ?_).call
    refine wasg_tup2 ?_
    refine x_assign_t ?_; refine e_call (by exact rfl) (by first | exact .builtin _ | exact .type _ | exact .K _ (by exact rfl)) (by exact rfl) ?_
    refine (s_lnumI (room'.le (by decide)) hd' b1 (by decide) fun two p2 e2 b2 n2 => ?_).call
    refine wasg_tup2 ?_
    refine x_assign ?_; refine we_int ?_; refine p_if_f (by exact rfl) (bneF (by lia)) ?_; refine wxs_nil ?_; refine x_if ?_; refine t_or ?_; refine wtest_pcmp 4 (by exact rfl) ?_
    rcases (show one < 0 ∨ 0 ≤ one by lia) with s1 | s1
    · rw [LNi_neg e1 s1] at eL
      refine ifT (dT (by lia)) ?_; refine ifT rfl ?_; refine x_return ?_; refine k_tuple ?_; refine wargs_pure (by exact rfl) ?_; refine ⟨Nat.le_of_ble_eq_true rfl, ?_⟩
      exact ⟨σ, fun _ _ h => h, fin eL⟩
    obtain ⟨one, rfl, f1⟩ := LNi_pos e1 s1
    rw [f1] at eL
    dsimp only at eL
    rcases (show two < 0 ∨ 0 ≤ two by lia) with s2 | s2
    · rw [LNi_neg e2 s2] at eL
      refine ifF (dF (by lia)) ?_; refine p_or_t (by exact rfl) (dT (by lia)) ?_; refine ifT rfl ?_; refine x_return ?_; refine k_tuple ?_; refine wargs_pure (by exact rfl) ?_; refine ⟨Nat.le_of_ble_eq_true rfl, ?_⟩
      exact ⟨σ, fun _ _ h => h, fin eL⟩
    obtain ⟨two, rfl, f2⟩ := LNi_pos e2 s2
    rw [f2] at eL
    dsimp only at eL
    rw [if_pos rfl] at eL
    refine ifF (dF (by lia)) ?_; refine p_or_f (by exact rfl) (dF (by lia)) ?_; refine p_or_f (by exact rfl) (dF (by lia)) ?_; refine wall_or_nil ?_; refine ifF rfl ?_; refine wxs_nil ?_; refine p_if_f (by exact rfl) (beqF (by lia)) ?_; refine wxs_nil ?_; refine x_assign_t ?_; refine e_call (by exact rfl) (by first | exact .builtin _ | exact .type _ | exact .K _ (by exact rfl)) (by exact rfl) ?_
    refine (s_lnumI (room'.le (by decide)) hd' b2 (by decide) fun sz p3 e3 b3 n3 => ?_).call
    refine wasg_tup2 ?_
    refine x_if ?_; refine t_or ?_; refine wtest_pcmp 4 (by exact rfl) ?_
    rcases (show sz < 0 ∨ 0 ≤ sz by lia) with s3 | s3
    · rw [LNi_neg e3 s3] at eL
      refine ifT (dT (by lia)) ?_; refine ifT rfl ?_; refine x_return ?_; refine k_tuple ?_; refine wargs_pure (by exact rfl) ?_; refine ⟨Nat.le_of_ble_eq_true rfl, ?_⟩
      exact ⟨σ, fun _ _ h => h, fin eL⟩
    obtain ⟨sz, rfl, f3⟩ := LNi_pos e3 s3
    rw [f3] at eL
    dsimp only at eL
    refine ifF (dF (by lia)) ?_; refine a_or ?_; refine k_cmp ?_; refine we_pure 4 (by exact rfl) ?_; refine k_call ?_; refine we_b_len (by exact rfl) ?_; refine ⟨(by first | exact .builtin _ | exact .type _ | exact .K _ (by exact rfl)), ?_⟩; refine wargs_pure (by exact rfl) ?_; refine wlen_bytes (by first | assumption | lia) ?_; refine wcmp_ne ?_; refine wtru_bool ?_
    by_cases hsz : p3 + sz = b.length
    · rw [if_neg (by lia)] at eL
      refine ifF (bneF (by lia)) ?_
      refine wall_or_nil ?_; refine ifF rfl ?_; refine wxs_nil ?_; refine p_if_f (by exact rfl) (beqF (by lia)) ?_; refine wxs_nil ?_; refine x_assign ?_; refine k_call ?_; refine we_pure 1 (by exact rfl) ?_; refine ⟨(by first | exact .builtin _ | exact .type _ | exact .K _ (by exact rfl)), ?_⟩; refine k_args ?_; refine we_slice_bytes ?_; refine we_pure 1 (by exact rfl) ?_; refine wpart_some ?_; refine we_pure 1 (by exact rfl) ?_; refine ⟨_, rfl, ?_⟩; refine wpart_none ?_; refine ⟨_, rfl, (by first | assumption | lia), (by intro i e; cases e; first | done | lia), (by intro i e; cases e; first | done | lia), ?_⟩; refine wargs_pure (by exact rfl) ?_
      refine (s_lmembers (b := cutL b (some (p3 : Int)) none) (room'.le (by decide)) (by have := cutL_length b (some (p3 : Int)) none; lia) (fun ls f e4 => ?_) fun e4 => ?_).call
      · rw [show LM (b.drop p3) = some (ls, f) from e4] at eL
        dsimp only at eL
        refine x_if ?_; refine k_cmp ?_; refine we_pure 1 (by exact rfl) ?_; refine we_none ?_
        refine wcmp_isNone (by intro _ q; cases q) ?_
        refine wtru_bool ?_
        refine ifF rfl ?_
        refine wxs_nil ?_; refine x_return ?_; refine k_tuple ?_; refine k_args ?_; refine we_int ?_; refine k_args ?_; refine k_tuple ?_; refine wargs_pure (by exact rfl) ?_; refine ⟨Nat.le_of_ble_eq_true rfl, ?_⟩; refine wargs_pure (by exact rfl) ?_; refine ⟨Nat.le_of_ble_eq_true rfl, ?_⟩
        refine ⟨σ, fun _ _ h => h, ?_⟩
        rw [eL] at h
        exact h
      · rw [show LM (b.drop p3) = none from e4] at eL
        refine x_if ?_; refine k_cmp ?_; refine we_pure 1 (by exact rfl) ?_; refine we_none ?_
        refine wcmp_isNone (by intro _ q; cases q) ?_
        refine wtru_bool ?_
        refine ifT rfl ?_
        refine x_return ?_; refine k_tuple ?_; refine wargs_pure (by exact rfl) ?_; refine ⟨Nat.le_of_ble_eq_true rfl, ?_⟩
        exact ⟨σ, fun _ _ h => h, fin eL⟩
    · rw [if_pos (by lia)] at eL
      refine ifT (bneT (by lia)) ?_
      refine ifT rfl ?_; refine x_return ?_; refine k_tuple ?_; refine wargs_pure (by exact rfl) ?_; refine ⟨Nat.le_of_ble_eq_true rfl, ?_⟩
      exact ⟨σ, fun _ _ h => h, fin eL⟩
  by_cases hk1 : kd = 1
  · subst hk1
    refine ifF (bneF (by lia)) ?_; refine ifF rfl ?_; refine wxs_nil ?_; refine x_assign_t ?_; refine e_call (by exact rfl) (by first | exact .builtin _ | exact .type _ | exact .K _ (by exact rfl)) (by exact rfl) ?_
    refine (s_lnumI (p := 1) (room'.le (by decide)) hd' (by lia) (by decide) fun one p1 e1 b1 n1 => ?_).call
    refine wasg_tup2 ?_
    refine x_assign_t ?_; refine e_call (by exact rfl) (by first | exact .builtin _ | exact .type _ | exact .K _ (by exact rfl)) (by exact rfl) ?_
    refine (s_lnumI (room'.le (by decide)) hd' b1 (by decide) fun two p2 e2 b2 n2 => ?_).call
    refine wasg_tup2 ?_
    refine x_assign ?_; refine we_int ?_; refine p_if_t (by exact rfl) (bneT (by lia)) ?_; refine x_assign_t ?_; refine e_call (by exact rfl) (by first | exact .builtin _ | exact .type _ | exact .K _ (by exact rfl)) (by exact rfl) ?_
    refine (s_lnumI (room'.le (by decide)) hd' b2 (by decide) fun three p3 e3 b3 n3 => ?_).call
    refine wasg_tup2 ?_
    refine wxs_nil ?_; refine x_if ?_; refine t_or ?_; refine wtest_pcmp 4 (by exact rfl) ?_
    rcases (show one < 0 ∨ 0 ≤ one by lia) with s1 | s1
    · rw [LNi_neg e1 s1] at eL
      refine ifT (dT (by lia)) ?_; refine ifT rfl ?_; refine x_return ?_; refine k_tuple ?_; refine wargs_pure (by exact rfl) ?_; refine ⟨Nat.le_of_ble_eq_true rfl, ?_⟩
      exact ⟨σ, fun _ _ h => h, fin eL⟩
    obtain ⟨one, rfl, f1⟩ := LNi_pos e1 s1
    rw [f1] at eL
    dsimp only at eL
    rcases (show two < 0 ∨ 0 ≤ two by lia) with s2 | s2
    · rw [LNi_neg e2 s2] at eL
      refine ifF (dF (by lia)) ?_; refine p_or_t (by exact rfl) (dT (by lia)) ?_; refine ifT rfl ?_; refine x_return ?_; refine k_tuple ?_; refine wargs_pure (by exact rfl) ?_; refine ⟨Nat.le_of_ble_eq_true rfl, ?_⟩
      exact ⟨σ, fun _ _ h => h, fin eL⟩
    obtain ⟨two, rfl, f2⟩ := LNi_pos e2 s2
    rw [f2] at eL
    dsimp only at eL
    rw [if_neg (by decide)] at eL
    rcases (show three < 0 ∨ 0 ≤ three by lia) with s3 | s3
    · rw [LNi_neg e3 s3] at eL
      refine ifF (dF (by lia)) ?_; refine p_or_f (by exact rfl) (dF (by lia)) ?_; refine p_or_t (by exact rfl) (dT (by lia)) ?_; refine ifT rfl ?_; refine x_return ?_; refine k_tuple ?_; refine wargs_pure (by exact rfl) ?_; refine ⟨Nat.le_of_ble_eq_true rfl, ?_⟩
      exact ⟨σ, fun _ _ h => h, fin eL⟩
    obtain ⟨three, rfl, f3⟩ := LNi_pos e3 s3
    rw [f3] at eL
    dsimp only at eL
    rw [if_pos rfl] at eL
    refine ifF (dF (by lia)) ?_; refine p_or_f (by exact rfl) (dF (by lia)) ?_; refine p_or_f (by exact rfl) (dF (by lia)) ?_; refine wall_or_nil ?_; refine ifF rfl ?_; refine wxs_nil ?_; refine p_if_t (by exact rfl) (beqT (by lia)) ?_; refine x_if ?_; refine k_cmp ?_; refine we_pure 1 (by exact rfl) ?_; refine k_call ?_; refine we_b_len (by exact rfl) ?_; refine ⟨(by first | exact .builtin _ | exact .type _ | exact .K _ (by exact rfl)), ?_⟩; refine wargs_pure (by exact rfl) ?_; refine wlen_bytes (by first | assumption | lia) ?_; refine wcmp_ne ?_; refine wtru_bool ?_
    by_cases hp : p3 = b.length
    · rw [if_neg (by lia)] at eL
      refine ifF (bneF (by lia)) ?_
      refine wxs_nil ?_; refine x_return ?_; refine k_tuple ?_; refine k_args ?_; refine we_int ?_; refine k_args ?_; refine k_tuple ?_; refine wargs_pure (by exact rfl) ?_; refine ⟨Nat.le_of_ble_eq_true rfl, ?_⟩; refine wargs_pure (by exact rfl) ?_; refine ⟨Nat.le_of_ble_eq_true rfl, ?_⟩
      refine ⟨σ, fun _ _ h => h, ?_⟩
      rw [eL] at h
      exact h
    · rw [if_pos hp] at eL
      refine ifT (bneT (by lia)) ?_
      refine x_return ?_; refine k_tuple ?_; refine wargs_pure (by exact rfl) ?_; refine ⟨Nat.le_of_ble_eq_true rfl, ?_⟩
      exact ⟨σ, fun _ _ h => h, fin eL⟩
  · obtain rfl : kd = 2 := by lia
    refine ifT (bneT (by lia)) ?_; refine p_and_f (by exact rfl) (bneF (by lia)) ?_; refine ifF rfl ?_; refine wxs_nil ?_; refine x_assign_t ?_; refine e_call (by exact rfl) (by first | exact .builtin _ | exact .type _ | exact .K _ (by exact rfl)) (by exact rfl) ?_
    refine (s_lnumI (p := 1) (room'.le (by decide)) hd' (by lia) (by decide) fun one p1 e1 b1 n1 => ?_).call
    refine wasg_tup2 ?_
    refine x_assign_t ?_; refine e_call (by exact rfl) (by first | exact .builtin _ | exact .type _ | exact .K _ (by exact rfl)) (by exact rfl) ?_
    refine (s_lnumI (room'.le (by decide)) hd' b1 (by decide) fun two p2 e2 b2 n2 => ?_).call
    refine wasg_tup2 ?_
    refine x_assign ?_; refine we_int ?_; refine p_if_t (by exact rfl) (bneT (by lia)) ?_; refine x_assign_t ?_; refine e_call (by exact rfl) (by first | exact .builtin _ | exact .type _ | exact .K _ (by exact rfl)) (by exact rfl) ?_
    refine (s_lnumI (room'.le (by decide)) hd' b2 (by decide) fun three p3 e3 b3 n3 => ?_).call
    refine wasg_tup2 ?_
    refine wxs_nil ?_; refine x_if ?_; refine t_or ?_; refine wtest_pcmp 4 (by exact rfl) ?_
    rcases (show one < 0 ∨ 0 ≤ one by lia) with s1 | s1
    · rw [LNi_neg e1 s1] at eL
      refine ifT (dT (by lia)) ?_; refine ifT rfl ?_; refine x_return ?_; refine k_tuple ?_; refine wargs_pure (by exact rfl) ?_; refine ⟨Nat.le_of_ble_eq_true rfl, ?_⟩
      exact ⟨σ, fun _ _ h => h, fin eL⟩
    obtain ⟨one, rfl, f1⟩ := LNi_pos e1 s1
    rw [f1] at eL
    dsimp only at eL
    rcases (show two < 0 ∨ 0 ≤ two by lia) with s2 | s2
    · rw [LNi_neg e2 s2] at eL
      refine ifF (dF (by lia)) ?_; refine p_or_t (by exact rfl) (dT (by lia)) ?_; refine ifT rfl ?_; refine x_return ?_; refine k_tuple ?_; refine wargs_pure (by exact rfl) ?_; refine ⟨Nat.le_of_ble_eq_true rfl, ?_⟩
      exact ⟨σ, fun _ _ h => h, fin eL⟩
    obtain ⟨two, rfl, f2⟩ := LNi_pos e2 s2
    rw [f2] at eL
    dsimp only at eL
    rw [if_neg (by decide)] at eL
    rcases (show three < 0 ∨ 0 ≤ three by lia) with s3 | s3
    · rw [LNi_neg e3 s3] at eL
      refine ifF (dF (by lia)) ?_; refine p_or_f (by exact rfl) (dF (by lia)) ?_; refine p_or_t (by exact rfl) (dT (by lia)) ?_; refine ifT rfl ?_; refine x_return ?_; refine k_tuple ?_; refine wargs_pure (by exact rfl) ?_; refine ⟨Nat.le_of_ble_eq_true rfl, ?_⟩
      exact ⟨σ, fun _ _ h => h, fin eL⟩
    obtain ⟨three, rfl, f3⟩ := LNi_pos e3 s3
    rw [f3] at eL
    dsimp only at eL
    rw [if_neg (by decide)] at eL
    refine ifF (dF (by lia)) ?_; refine p_or_f (by exact rfl) (dF (by lia)) ?_; refine p_or_f (by exact rfl) (dF (by lia)) ?_; refine wall_or_nil ?_; refine ifF rfl ?_; refine wxs_nil ?_; refine p_if_f (by exact rfl) (beqF (by lia)) ?_; refine wxs_nil ?_; refine x_assign_t ?_; refine e_call (by exact rfl) (by first | exact .builtin _ | exact .type _ | exact .K _ (by exact rfl)) (by exact rfl) ?_
    refine (s_lnumI (room'.le (by decide)) hd' b3 (by decide) fun sz p4 e4 b4 n4 => ?_).call
    refine wasg_tup2 ?_
    refine x_if ?_; refine t_or ?_; refine wtest_pcmp 4 (by exact rfl) ?_
    rcases (show sz < 0 ∨ 0 ≤ sz by lia) with s4 | s4
    · rw [LNi_neg e4 s4] at eL
      refine ifT (dT (by lia)) ?_; refine ifT rfl ?_; refine x_return ?_; refine k_tuple ?_; refine wargs_pure (by exact rfl) ?_; refine ⟨Nat.le_of_ble_eq_true rfl, ?_⟩
      exact ⟨σ, fun _ _ h => h, fin eL⟩
    obtain ⟨sz, rfl, f4⟩ := LNi_pos e4 s4
    rw [f4] at eL
    dsimp only at eL
    refine ifF (dF (by lia)) ?_; refine a_or ?_; refine k_cmp ?_; refine we_pure 4 (by exact rfl) ?_; refine k_call ?_; refine we_b_len (by exact rfl) ?_; refine ⟨(by first | exact .builtin _ | exact .type _ | exact .K _ (by exact rfl)), ?_⟩; refine wargs_pure (by exact rfl) ?_; refine wlen_bytes (by first | assumption | lia) ?_; refine wcmp_ne ?_; refine wtru_bool ?_
    by_cases hsz : p4 + sz = b.length
    · rw [if_neg (by lia)] at eL
      refine ifF (bneF (by lia)) ?_
      refine wall_or_nil ?_; refine ifF rfl ?_; refine wxs_nil ?_; refine p_if_t (by exact rfl) (beqT (by lia)) ?_; refine x_if ?_; refine t_and ?_; refine wtest_pcmp 4 (by exact rfl) ?_
      by_cases h3 : three = 0 ∨ three = 2
      · rw [if_neg (by lia)] at eL
        rw [eL] at h
        rcases h3 with rfl | rfl
        · refine ifF (bneF (by lia)) ?_; refine ifF rfl ?_; refine wxs_nil ?_; refine x_return ?_; refine k_tuple ?_; refine k_args ?_; refine we_int ?_; refine k_args ?_; refine k_tuple ?_; refine k_args ?_; refine we_pure 1 (by exact rfl) ?_; refine k_args ?_; refine we_pure 1 (by exact rfl) ?_; refine k_args ?_; refine we_pure 1 (by exact rfl) ?_; refine k_args ?_; refine we_slice_bytes ?_; refine we_pure 1 (by exact rfl) ?_; refine wpart_some ?_; refine we_pure 1 (by exact rfl) ?_; refine ⟨_, rfl, ?_⟩; refine wpart_none ?_; refine ⟨_, rfl, (by first | assumption | lia), (by intro i e; cases e; first | done | lia), (by intro i e; cases e; first | done | lia), ?_⟩; refine wargs_pure (by exact rfl) ?_; refine ⟨Nat.le_of_ble_eq_true rfl, ?_⟩; refine wargs_pure (by exact rfl) ?_; refine ⟨Nat.le_of_ble_eq_true rfl, ?_⟩
          exact ⟨σ, fun _ _ h => h, h⟩
        · refine ifT (bneT (by lia)) ?_; refine p_and_f (by exact rfl) (bneF (by lia)) ?_; refine ifF rfl ?_; refine wxs_nil ?_; refine x_return ?_; refine k_tuple ?_; refine k_args ?_; refine we_int ?_; refine k_args ?_; refine k_tuple ?_; refine k_args ?_; refine we_pure 1 (by exact rfl) ?_; refine k_args ?_; refine we_pure 1 (by exact rfl) ?_; refine k_args ?_; refine we_pure 1 (by exact rfl) ?_; refine k_args ?_; refine we_slice_bytes ?_; refine we_pure 1 (by exact rfl) ?_; refine wpart_some ?_; refine we_pure 1 (by exact rfl) ?_; refine ⟨_, rfl, ?_⟩; refine wpart_none ?_; refine ⟨_, rfl, (by first | assumption | lia), (by intro i e; cases e; first | done | lia), (by intro i e; cases e; first | done | lia), ?_⟩; refine wargs_pure (by exact rfl) ?_; refine ⟨Nat.le_of_ble_eq_true rfl, ?_⟩; refine wargs_pure (by exact rfl) ?_; refine ⟨Nat.le_of_ble_eq_true rfl, ?_⟩
          exact ⟨σ, fun _ _ h => h, h⟩
      · rw [if_pos (by lia)] at eL
        refine ifT (bneT (by lia)) ?_; refine p_and_t (by exact rfl) (bneT (by lia)) ?_; refine wall_and_nil ?_; refine ifT rfl ?_; refine x_return ?_; refine k_tuple ?_; refine wargs_pure (by exact rfl) ?_; refine ⟨Nat.le_of_ble_eq_true rfl, ?_⟩
        exact ⟨σ, fun _ _ h => h, fin eL⟩
    · rw [if_pos (by lia)] at eL
      refine ifT (bneT (by lia)) ?_
      refine ifT rfl ?_; refine x_return ?_; refine k_tuple ?_; refine wargs_pure (by exact rfl) ?_; refine ⟨Nat.le_of_ble_eq_true rfl, ?_⟩
      exact ⟨σ, fun _ _ h => h, fin eL⟩

end
section
variable {prog : Program} {w : World} {mean : ExcName → Option Value} {mg mb : Str → Option Value} {C : Ctx (G0 prog w mean mg mb)} {ρ : Loc} {σ : Store} {Q Qr : V → Store → Prop} {Qn : Loc → Store → Prop} {X : Prop}
theorem rangeSize_down (n : Nat) : Builtin.Range.rangeSize n 0 (-1) = (n : Int) := by
  unfold Builtin.Range.rangeSize
  simp
  lia
theorem small_down (n : Nat) (hn : n < 2 ^ 62) : Builtin.Range.small n 0 (-1) = true := by
  unfold Builtin.Range.small
  rw [rangeSize_down]
  simp only [Builtin.Range.rangeFitsLong, Bool.and_eq_true, Bool.or_eq_true, decide_eq_true_eq, beq_iff_eq]
  simp
  lia
theorem wx_for_down0 {g : Gl} {C : Ctx g} {ρ : Loc} {σ : Store} {Qn : Loc → Store → Prop} {Qr : V → Store → Prop} {X : Prop} {x : Str} {np pos : Pos} {iter : Expr} {body : List Stmt} {ι : Type} (n : Nat) (R : ι → Loc) (S : ι → Store) (P : Nat → ι → Prop) (hn : n < 2 ^ 62)
    (h : WE C iter ρ σ (fun u σ₁ => u = .rng n 0 (-1) ∧ ∃ j, P 0 j ∧ Loc.Le (R j) ρ ∧ Store.Le (S j) σ₁) X)
    (turn : ∀ i j, i < n → P i j → WXs C body (fput x (.int ((n - i : Nat) : Int)) (R j)) (S j) (fun ρ₂ σ₂ => ∃ j', P (i + 1) j' ∧ Loc.Le (R j') ρ₂ ∧ Store.Le (S j') σ₂) Qr X)
    (fin : ∀ j ρ σ, P n j → Loc.Le (R j) ρ → Store.Le (S j) σ → Qn ρ σ) (hx : C.env.kindOf x = some .local := by rfl)
    (hs : ∀ x, foldedSetIterable iter C.env x = pure x := by intro _; rfl) : WX C (.For (.Name x np) iter body [] pos) ρ σ Qn Qr X := by
  refine wx_for_range (h.mono (fun u σ₁ hu => ?_) fun x => x) letGo_name hs
  obtain ⟨rfl, j, h0, l0, s0⟩ := hu
  refine ⟨n, 0, -1, n, fun i ρ σ => ∃ j, P i j ∧ Loc.Le (R j) ρ ∧ Store.Le (S j) σ, rfl, rangeSize_down n, small_down n hn, ⟨j, h0, l0, s0⟩, fun i ρ σ hi hI => ?_, fun ρ σ hI => ?_⟩
  · obtain ⟨j, hj, hl, hs⟩ := hI
    refine wasg_name ?_ hx
    have e : (n : Int) + -1 * (i : Int) = ((n - i : Nat) : Int) := by lia
    rw [e]
    refine WS.le (ρ' := fput x (.int ((n - i : Nat) : Int)) (R j)) (σ' := S j) ?_ (Loc.le_fput hl) hs
    exact (turn i j hi hj).mono (fun ρ₂ σ₂ ⟨j', a, b, c⟩ => ⟨R j', S j', ⟨j', a, fun _ _ h => h, fun _ _ h => h⟩, b, c⟩) (fun _ _ h => h) fun x => x
  · obtain ⟨j, hj, hl, hs⟩ := hI
    exact fin j ρ σ hj hl hs
theorem wx_for_pairs0 {g : Gl} {C : Ctx g} {ρ : Loc} {σ : Store} {Qn : Loc → Store → Prop} {Qr : V → Store → Prop} {X : Prop} {x y : Str} {px py tp pos : Pos} {k : Nat} {iter : Expr} {body : List Stmt} {ι : Type} (vs : List V) (R : ι → Loc) (S : ι → Store) (P : Nat → ι → Prop)
    (h : WE C iter ρ σ (fun u σ₁ => (∀ i j σ, P i j → Store.Le (S j) σ → IsLst σ u vs) ∧ ∃ j, P 0 j ∧ Loc.Le (R j) ρ ∧ Store.Le (S j) σ₁) X)
    (turn : ∀ i v j, vs[i]? = some v → P i j → ∃ a b, v = .tup [a, b] ∧ WXs C body (fput y b (fput x a (R j))) (S j) (fun ρ₂ σ₂ => ∃ j', P (i + 1) j' ∧ Loc.Le (R j') ρ₂ ∧ Store.Le (S j') σ₂) Qr X)
    (fin : ∀ j ρ σ, P vs.length j → Loc.Le (R j) ρ → Store.Le (S j) σ → Qn ρ σ) (hx : C.env.kindOf x = some .local := by rfl) (hy : C.env.kindOf y = some .local := by rfl)
    (hs : ∀ x, foldedSetIterable iter C.env x = pure x := by intro _; rfl) : WX C (.For (.Tuple [.Name x px, .Name y py] k tp) iter body [] pos) ρ σ Qn Qr X := by
  refine wx_for_list (h.mono (fun u σ₁ hu => ?_) fun x => x) letGo_tup hs
  obtain ⟨hI, j, h0, l0, s0⟩ := hu
  refine ⟨vs, fun i ρ σ => ∃ j, P i j ∧ Loc.Le (R j) ρ ∧ Store.Le (S j) σ, fun i ρ σ ⟨j, hj, _, hs⟩ => hI i j σ hj hs, ⟨j, h0, l0, s0⟩, fun i v ρ σ hi hI => ?_, fun ρ σ hI => ?_⟩
  · obtain ⟨j, hj, hl, hs⟩ := hI
    obtain ⟨a, b, rfl, ht⟩ := turn i v j hi hj
    refine wasg_tup2 ?_ hx hy
    refine WS.le (ρ' := fput y b (fput x a (R j))) (σ' := S j) ?_ (Loc.le_fput (Loc.le_fput hl)) hs
    exact ht.mono (fun ρ₂ σ₂ ⟨j', a, b, c⟩ => ⟨R j', S j', ⟨j', a, fun _ _ h => h, fun _ _ h => h⟩, b, c⟩) (fun _ _ h => h) fun x => x
  · obtain ⟨j, hj, hl, hs⟩ := hI
    exact fin j ρ σ hj hl hs
theorem drop_map_row {rows : List Row} {i : Nat} {v : V} (h : (rows.map Row.V)[i]? = some v) : ∃ e, rows[i]? = some e ∧ v = e.V ∧ rows.drop i = e :: rows.drop (i + 1) := by
  rw [List.getElem?_map] at h
  cases q : rows[i]? with
  | none => rw [q] at h; cases h
  | some e =>
    rw [q] at h
    cases h
    obtain ⟨hi, rfl⟩ := List.getElem?_eq_some_iff.mp q
    exact ⟨_, rfl, rfl, List.drop_eq_getElem_cons hi⟩
theorem s_llet {u : V} {rows : List Row} {new : Option Row} (room : C.Room 1) (hu : ∀ σ', Store.Le σ σ' → IsLst σ' u (rows.map Row.V)) (hl : rows.length ≤ 100) (hb : rows = [] ∨ ∃ i t ls f rs, rows = .base i t ls f :: rs) (h : Q (.bool (LET rows new)) σ) :
    WCode C (.raw (.ref 608)) [u, newV new] ρ σ Q X := by
  refine wfun ["rows", "new"] [("rows", u), ("new", newV new)] (n := 0) (by exact rfl) (by exact rfl) room (b2 fun a b => by exact rfl) (by exact rfl) (by decide +kernel) (by decide +kernel) fun L' gh room' => ?_
  have hL := hu σ (fun _ _ h => h)
  have len : (rows.map Row.V).length = rows.length := List.length_map ..
  cases new with
  | none =>
    refine x_if ?_; refine k_cmp ?_; refine k_sub ?_; refine we_pure 1 (by exact rfl) ?_; refine we_int ?_
    refine wsub_tup (v := .int 0) (by decide) (by decide) rfl ?_
    refine we_int ?_; refine wcmp_eq ?_; refine wtru_bool ?_; refine ifT (beqT (by lia)) ?_; refine x_return ?_; refine we_bool ?_
    exact ⟨σ, fun _ _ h => h, h⟩
  | some r =>
    have k0 : r.kind = 1 ∨ r.kind = 2 ∨ r.kind = 4 := by cases r <;> simp [Row.kind]
    have k1 : r.kind ≠ 0 := by lia
    refine x_if ?_; refine k_cmp ?_; refine k_sub ?_; refine we_pure 1 (by exact rfl) ?_; refine we_int ?_
    refine wsub_tup (v := .int (r.kind : Nat)) (by decide) (by decide) rfl ?_
    refine we_int ?_; refine wcmp_eq ?_; refine wtru_bool ?_; refine ifF (beqF (by lia)) ?_; refine wxs_nil ?_; refine x_if ?_; refine k_cmp ?_; refine k_call ?_; refine we_b_len (by exact rfl) ?_; refine ⟨(by first | exact .builtin _ | exact .type _ | exact .K _ (by exact rfl)), ?_⟩; refine wargs_pure (by exact rfl) ?_
    refine wlen_list hL (by lia) ?_
    rw [len]
    rcases rows with _ | ⟨b0, _ | ⟨b1, rs⟩⟩
    · refine we_int ?_; refine wcmp_eq ?_; refine wtru_bool ?_
      refine ifT (beqT (by simp)) ?_
      refine x_return ?_; refine we_cmp ?_; refine k_sub ?_; refine we_pure 1 (by exact rfl) ?_; refine we_int ?_
      refine wsub_tup (v := .int (r.kind : Nat)) (by decide) (by decide) rfl ?_
      refine we_int ?_; refine wcmp_eq ?_
      refine ⟨σ, fun _ _ h => h, ?_⟩
      have e : ((r.kind : Int) == 4) = decide (r.kind = 4) := by
        by_cases q : r.kind = 4
        · rw [beqT (by lia), decide_eq_true q]
        · rw [beqF (by lia), decide_eq_false q]
      rw [e]
      exact h
    · refine we_int ?_; refine wcmp_eq ?_; refine wtru_bool ?_
      refine ifF (beqF (by simp)) ?_
      refine wxs_nil ?_; refine x_if ?_; refine k_cmp ?_; refine k_call ?_; refine we_b_len (by exact rfl) ?_; refine ⟨(by first | exact .builtin _ | exact .type _ | exact .K _ (by exact rfl)), ?_⟩; refine wargs_pure (by exact rfl) ?_
      refine wlen_list hL (by lia) ?_
      rw [len]
      refine we_int ?_; refine wcmp_eq ?_; refine wtru_bool ?_
      refine ifT (beqT (by simp)) ?_
      refine x_return ?_; refine we_cmp ?_; refine k_sub ?_; refine we_pure 1 (by exact rfl) ?_; refine we_int ?_
      refine wsub_tup (v := .int (r.kind : Nat)) (by decide) (by decide) rfl ?_
      refine we_int ?_; refine wcmp_eq ?_
      refine ⟨σ, fun _ _ h => h, ?_⟩
      have e : ((r.kind : Int) == 1) = decide (r.kind = 1) := by
        by_cases q : r.kind = 1
        · rw [beqT (by lia), decide_eq_true q]
        · rw [beqF (by lia), decide_eq_false q]
      rw [e]
      exact h
    · have hl2 : (b0 :: b1 :: rs).length = rs.length + 2 := rfl
      refine we_int ?_; refine wcmp_eq ?_; refine wtru_bool ?_; refine ifF (beqF (by lia)) ?_; refine wxs_nil ?_; refine x_if ?_; refine k_cmp ?_; refine k_call ?_; refine we_b_len (by exact rfl) ?_; refine ⟨(by first | exact .builtin _ | exact .type _ | exact .K _ (by exact rfl)), ?_⟩; refine wargs_pure (by exact rfl) ?_
      refine wlen_list hL (by lia) ?_
      rw [len]
      refine we_int ?_; refine wcmp_eq ?_; refine wtru_bool ?_; refine ifF (beqF (by lia)) ?_; refine wxs_nil ?_; refine x_if ?_; refine k_cmp ?_; refine k_sub ?_; refine we_pure 1 (by exact rfl) ?_; refine we_int ?_
      refine wsub_tup (v := .int (r.kind : Nat)) (by decide) (by decide) rfl ?_
      refine we_int ?_; refine wcmp_ne ?_; refine wtru_bool ?_
      by_cases hk : r.kind = 1
      · refine ifF (bneF (by lia)) ?_
        obtain ⟨bi, bt, bl, bf, rs', hb⟩ : ∃ i t ls f rs', b0 :: b1 :: rs = Row.base i t ls f :: rs' := hb.resolve_left (by intro q; cases q)
        have hb0 : b0 = .base bi bt bl bf := by injection hb
        have hLET : LET (b0 :: b1 :: rs) (some r) = entsOk bi bi (b0 :: b1 :: rs) := by
          show (if r.kind ≠ 1 then decide (r.kind = 2) else entsOk b0.bi b0.bi (b0 :: b1 :: rs)) = _
          rw [if_neg (by lia), hb0]; rfl
        rw [hLET] at h
        generalize hrows : b0 :: b1 :: rs = rows at *
        refine wxs_nil ?_; refine x_assign ?_; refine k_sub ?_; refine k_sub ?_; refine k_sub ?_; refine we_pure 1 (by exact rfl) ?_; refine we_int ?_
        refine wsub_list (v := b0.V) hL (by decide) (by decide) (by rw [← hrows]; rfl) ?_
        refine we_int ?_
        refine wsub_tup (v := b0.v) (by decide) (by decide) rfl ?_
        rw [hb0]
        refine we_int ?_
        refine wsub_tup (v := .int (bi : Nat)) (by decide) (by decide) rfl ?_
        refine x_assign ?_; refine we_pure 1 (by exact rfl) ?_; refine x_cons ?_
        refine wx_for_pairs0 (ι := Nat) (rows.map Row.V) (fun last => [("base", .int (bi : Nat)), ("last", .int (last : Nat))]) (fun _ => σ) (fun i last => entsOk bi last (rows.drop i) = entsOk bi bi rows) ?_ ?_ ?_
        · refine we_pure 1 (by exact rfl) ?_
          refine ⟨fun i j σ' _ hle => hu σ' hle, bi, by rw [List.drop_zero], Loc.le_cons (by exact rfl) (Loc.le_cons (by exact rfl) (Loc.le_nil _)), fun _ _ h => h⟩
        · rintro i v last hv hP
          obtain ⟨e, he, rfl, hd⟩ := drop_map_row hv
          rw [hd] at hP
          cases e with
          | base i' t' l' f' =>
            refine ⟨.int 4, _, rfl, ?_⟩
            refine p_if_f (by exact rfl) (beqF (by lia)) ?_; refine wxs_nil ?_; refine wxs_nil ?_
            exact ⟨last, hP, Loc.le_cons (by exact rfl) (Loc.le_cons (by exact rfl) (Loc.le_nil _)), fun _ _ h => h⟩
          | hard t' v' c' =>
            refine ⟨.int 1, _, rfl, ?_⟩
            refine p_if_f (by exact rfl) (beqF (by lia)) ?_; refine wxs_nil ?_; refine wxs_nil ?_
            exact ⟨last, hP, Loc.le_cons (by exact rfl) (Loc.le_cons (by exact rfl) (Loc.le_nil _)), fun _ _ h => h⟩
          | ent t' i' k' d' =>
            rw [entsOk] at hP
            refine ⟨.int 2, .tup [.int (t' : Nat), .int (i' : Nat), .int (k' : Nat), .bytes d'], rfl, ?_⟩
            refine p_if_t (by exact rfl) (beqT (by lia)) ?_; refine x_if ?_; refine t_or ?_; refine k_cmp ?_; refine k_sub ?_; refine we_pure 1 (by exact rfl) ?_; refine we_int ?_
            refine wsub_tup (v := .int (i' : Nat)) (by decide) (by decide) rfl ?_
            refine we_pure 1 (by exact rfl) ?_; refine wcmp_le ?_; refine wtru_bool ?_
            by_cases c1 : i' ≤ bi
            · rw [if_pos (.inl c1)] at hP
              rw [← hP] at h
              refine ifT (dT (by lia)) ?_
              refine ifT rfl ?_; refine x_return ?_; refine we_bool ?_
              exact ⟨σ, fun _ _ h => h, h⟩
            · refine ifF (dF (by lia)) ?_
              refine a_or ?_; refine k_cmp ?_; refine k_sub ?_; refine we_pure 1 (by exact rfl) ?_; refine we_int ?_
              refine wsub_tup (v := .int (i' : Nat)) (by decide) (by decide) rfl ?_
              refine we_pure 4 (by exact rfl) ?_; refine wcmp_gt ?_; refine wtru_bool ?_
              by_cases c2 : i' > last + 1
              · rw [if_pos (.inr c2)] at hP
                rw [← hP] at h
                refine ifT (dT (by lia)) ?_
                refine ifT rfl ?_; refine x_return ?_; refine we_bool ?_
                exact ⟨σ, fun _ _ h => h, h⟩
              · rw [if_neg (by lia)] at hP
                refine ifF (dF (by lia)) ?_
                refine wall_or_nil ?_; refine ifF rfl ?_; refine wxs_nil ?_; refine x_assign ?_; refine k_sub ?_; refine we_pure 1 (by exact rfl) ?_; refine we_int ?_
                refine wsub_tup (v := .int (i' : Nat)) (by decide) (by decide) rfl ?_
                refine wxs_nil ?_; refine wxs_nil ?_
                exact ⟨i', hP, Loc.le_cons (by exact rfl) (Loc.le_cons (by exact rfl) (Loc.le_nil _)), fun _ _ h => h⟩
        · rintro last ρ₂ σ₂ hP hl2 hs2
          rw [List.length_map, List.drop_length] at hP
          refine WS.le ?_ hl2 hs2
          have hP : true = entsOk bi bi rows := hP
          rw [← hP] at h
          refine x_return ?_; refine we_bool ?_
          exact ⟨σ, fun _ _ h => h, h⟩
      · refine ifT (bneT (by lia)) ?_
        refine x_return ?_; refine we_cmp ?_; refine k_sub ?_; refine we_pure 1 (by exact rfl) ?_; refine we_int ?_
        refine wsub_tup (v := .int (r.kind : Nat)) (by decide) (by decide) rfl ?_
        refine we_int ?_; refine wcmp_eq ?_
        refine ⟨σ, fun _ _ h => h, ?_⟩
        have e : ((r.kind : Int) == 2) = decide (r.kind = 2) := by
          by_cases q : r.kind = 2
          · rw [beqT (by lia), decide_eq_true q]
          · rw [beqF (by lia), decide_eq_false q]
        rw [e]
        have hLET : LET (b0 :: b1 :: rs) (some r) = decide (r.kind = 2) := by
          show (if r.kind ≠ 1 then decide (r.kind = 2) else entsOk b0.bi b0.bi (b0 :: b1 :: rs)) = _
          rw [if_pos hk]
        rw [hLET] at h
        exact h

end
section
variable {prog : Program} {w : World} {mean : ExcName → Option Value} {mg mb : Str → Option Value} {C : Ctx (G0 prog w mean mg mb)} {ρ : Loc} {σ : Store} {Q Qr : V → Store → Prop} {Qn : Loc → Store → Prop} {X : Prop}
theorem wasg_tup3 {Q' : Loc → Prop} {x y z : Str} {px py pz pos : Pos} {k : Nat} {u v t : V} (h : Q' (fput z t (fput y v (fput x u ρ)))) (hx : C.env.kindOf x = some .local := by rfl) (hy : C.env.kindOf y = some .local := by rfl) (hz : C.env.kindOf z = some .local := by rfl) :
    WAsg C (.Tuple [.Name x px, .Name y py, .Name z pz] k pos) (.tup [u, v, t]) ρ σ Q' := fun ok fz hid w hr s Qc Ec st hQ => by
  cases hr with
  | tup hm hrs =>
  rename_i ws tt
  obtain ⟨w1, w2, w3, rfl, h1, h2, h3⟩ := hrs.three
  have hT : IsTup s.heap tt [w1, w2, w3].toArray := by
    obtain ⟨⟨m, news, F, N, l, ow⟩, _, _, _⟩ := st
    exact ⟨_, (N _ (ow.inF _ hm)).1, rfl, 0, rfl⟩
  show wpN C.nd (G0 prog w mean mg mb).M C.A (do standAt pos; unpack (.ref tt) (assignEach [.Name x px, .Name y py, .Name z pz] C.env)) Qc Ec s
  refine nBind (nStand ?_)
  unfold unpack
  refine nBind (nHold ?_)
  show wpN C.nd (G0 prog w mean mg mb).M C.A (unpackItems (.ref tt) ([w1, w2, w3].toArray.size) none) _ Ec s
  refine .any (unpackItems_tuple ok.hh hT fun h' he => ?_)
  have st' := st.ext he
  show wpN C.nd (G0 prog w mean mg mb).M C.A (assignInOrder [assign (.Name x px) C.env, assign (.Name y py) C.env, assign (.Name z pz) C.env] [w1, w2, w3]) Qc Ec _
  refine nBind (nHold (nBind (nStand (nBindName (st'.store ok h1 (fun s1 st1 => ?_) hx)))))
  refine nBind (nHold (nBind (nStand (nBindName (st1.store ok h2 (fun s2 st2 => ?_) hy)))))
  refine nBind (nHold (nBind (nStand (nBindName (st2.store ok h3 (fun s3 st3 => ?_) hz)))))
  exact nPure (hQ _ _ h st3)
theorem Store.le_del {τ σ' : Store} {a : Addr} (h : Store.Le τ σ') (hn : τ a = none) : Store.Le τ (σ'.del a) := fun b o e => by
  unfold Store.del
  rw [if_neg (fun q => by subst q; rw [hn] at e; cases e)]
  exact h b o e
theorem WS.frzLoc {t : Sem Flow} {x : Str} {a : Addr} {vs : List V} {τ : Store} (hx : fget x ρ = some (.ref a)) (ha : σ a = some (.list vs)) (hle : Store.Le τ (σ.del a)) (h : WS C t (fput x (.lst vs) ρ) τ Qn Qr X) : WS C t ρ σ Qn Qr X := fun ok fz hid s Qc Ec st hn hr hX => by
  obtain ⟨fz', f1, r1, st1⟩ := st.freezeList ha
  refine h ok fz' hid s Qc Ec (St.le ?_ (Loc.le_refl _) hle) (fun ρ₁ σ₁ fz₁ s₁ f2 q st2 => hn _ _ _ _ (subTrans f1 f2) q st2) (fun v u ρ₁ σ₁ fz₁ s₁ f2 r2 q st2 => hr _ _ _ _ _ _ (subTrans f1 f2) r2 q st2) hX
  obtain ⟨⟨m, news, F, N, l, ow⟩, sg, sd, so⟩ := st1
  refine ⟨⟨m, news, F, N, fun y v e => ?_, ow⟩, sg, sd, so⟩
  by_cases hy : y = x
  · subst hy
    rw [fget_fput_self] at e
    cases e
    obtain ⟨w, hw, hr⟩ := l y _ hx
    cases hr
    exact ⟨_, hw, r1⟩
  · rw [fget_fput_ne _ hy] at e
    exact l y v e
noncomputable abbrev entT (e : Nat × Nat × Nat × List UInt8) : V := .tup [.int (e.1 : Nat), .int (e.2.1 : Nat), .int (e.2.2.1 : Nat), .bytes e.2.2.2]
noncomputable abbrev hardT (e : Nat × Nat × Nat) : V := .tup [.int (e.1 : Nat), .int (e.2.1 : Nat), .int (e.2.2 : Nat)]
noncomputable abbrev memV (ls : List (List Nat)) (f : Bool) : V := .tup (ls.map idsV ++ [.bool f])
theorem say_drop {rs : List Row} {i : Nat} {r : Row} (h : rs[i]? = some r) : SAY (rs.drop i) = say1 (SAY (rs.drop (i + 1))) r := by
  obtain ⟨hi, rfl⟩ := List.getElem?_eq_some_iff.mp h
  rw [List.drop_eq_getElem_cons hi]
  rfl
theorem say_len {rs : List Row} : (SAY rs).stand.length ≤ rs.length ∧ (SAY rs).pending.length ≤ rs.length := by
  induction rs with
  | nil => exact ⟨Nat.le_refl _, Nat.le_refl _⟩
  | cons r rs ih =>
    have e : SAY (r :: rs) = say1 (SAY rs) r := rfl
    rw [e]
    generalize SAY rs = a at *
    cases r <;> unfold say1 <;> (repeat' split) <;> simp <;> lia
theorem s_lsays {u : V} {bi bt : Nat} {ls : List (List Nat)} {f : Bool} {rs : List Row} (room : C.Room 1) (hu : ∀ σ', Store.Le σ σ' → IsLst σ' u ((Row.base bi bt ls f :: rs).map Row.V)) (hl : rs.length ≤ 90) (hk : ∀ r ∈ rs, r.kind ≠ 4)
    (h : Q (.tup [.int ((rs.length + 1 : Nat) : Int), .int (bi : Nat), .int (bt : Nat), memV ls f, hardT (SAY rs).hard, .lst ((SAY rs).stand.map entT), .lst ((SAY rs).pending.map entT)]) σ) :
    WCode C (.raw (.ref 615)) [u] ρ σ Q X := by
  refine wfun ["rows"] [("rows", u)] (n := 0) (by exact rfl) (by exact rfl) room (b1 fun a => by exact rfl) (by exact rfl) (by decide +kernel) (by decide +kernel) fun L' gh room' => ?_
  have hL := hu σ (fun _ _ h => h)
  have len : ((Row.base bi bt ls f :: rs).map Row.V).length = rs.length + 1 := by simp
  refine x_assign ?_; refine k_tuple ?_; refine wargs_pure (by exact rfl) ?_; refine ⟨Nat.le_of_ble_eq_true rfl, ?_⟩; refine x_assign ?_; refine we_bool ?_; refine x_assign ?_; refine we_list ?_; refine wargs_pure (by exact rfl) ?_; refine ⟨Nat.le_of_ble_eq_true rfl, ?_⟩
  intro a ha
  refine x_assign ?_; refine we_list ?_; refine wargs_pure (by exact rfl) ?_; refine ⟨Nat.le_of_ble_eq_true rfl, ?_⟩
  intro a' ha'
  have haa : a ≠ a' := fun q => by subst q; rw [Store.set_self] at ha'; cases ha'
  have ha2 : σ a' = none := (Store.set_ne _ _ (Ne.symm haa)).symm.trans ha'
  have hta : (σ.set a' (.list [])) a = none := (Store.set_ne _ _ haa).trans ha
  refine WS.frzLoc (x := "stand") (a := a) (τ := σ.set a' (.list [])) (by exact rfl) ((Store.set_ne _ _ haa).trans (Store.set_self ..)) (Store.le_del (by rw [Store.set_comm haa]; exact Store.le_set hta _) hta) ?_
  refine WS.frzLoc (x := "pending") (a := a') (τ := σ) (by exact rfl) (Store.set_self ..) (Store.le_del (Store.le_set ha2 _) ha2) ?_
  refine x_cons ?_
  refine wx_for_down0 (ι := Say) rs.length (fun s => [("rows", u), ("hard", hardT s.hard), ("closed", .bool s.closed), ("stand", .lst (s.stand.map entT)), ("pending", .lst (s.pending.map entT))]) (fun _ => σ) (fun i s => s = SAY (rs.drop (rs.length - i))) (by lia) ?_ ?_ ?_
  · refine k_call ?_; refine we_b_range (by exact rfl) ?_; refine ⟨(by first | exact .builtin _ | exact .type _ | exact .K _ (by exact rfl)), ?_⟩; refine k_args ?_; refine k_bin ?_; refine k_call ?_; refine we_b_len (by exact rfl) ?_; refine ⟨(by first | exact .builtin _ | exact .type _ | exact .K _ (by exact rfl)), ?_⟩; refine wargs_pure (by exact rfl) ?_
    refine wlen_list hL (by lia) ?_
    rw [len]
    refine we_int ?_; refine wbin_sub ?_; refine k_args ?_; refine we_int ?_; refine k_args ?_; refine we_neg ?_; refine we_int ?_; refine ⟨_, rfl, ?_⟩; refine wargs_pure (by exact rfl) ?_
    rw [show (((rs.length + 1 : Nat) : Int) - 1) = (rs.length : Int) by lia]
    exact wrange3 (by decide) (by decide) ⟨rfl, ⟨(0, 0, 0), false, [], []⟩, by rw [Nat.sub_zero, List.drop_length]; rfl, Loc.le_cons (by exact rfl) (Loc.le_cons (by exact rfl) (Loc.le_cons (by exact rfl) (Loc.le_cons (by exact rfl) (Loc.le_cons (by exact rfl) (Loc.le_nil _))))), fun _ _ h => h⟩
  · rintro i s hi hs
    have hlt : rs.length - i - 1 < rs.length := by lia
    obtain ⟨r, hr⟩ : ∃ r, rs[rs.length - i - 1]? = some r := ⟨_, List.getElem?_eq_getElem hlt⟩
    have hnext : SAY (rs.drop (rs.length - (i + 1))) = say1 s r := by
      rw [show rs.length - (i + 1) = rs.length - i - 1 by lia, say_drop hr, show rs.length - i - 1 + 1 = rs.length - i by lia, hs]
    have hb := say_len (rs := rs.drop (rs.length - i))
    rw [← hs] at hb
    obtain ⟨hb1, hb2⟩ := hb
    rw [List.length_drop] at hb1 hb2
    have hrk := hk r (List.mem_of_getElem? hr)
    have hrow : ((Row.base bi bt ls f :: rs).map Row.V)[(((rs.length - i : Nat) : Int)).toNat]? = some r.V := by
      rw [show (((rs.length - i : Nat) : Int)).toNat = (rs.length - i - 1) + 1 by lia, List.map_cons, List.getElem?_cons_succ, List.getElem?_map, hr]
      rfl
    obtain ⟨sh, sc, ss, sp⟩ := s
    dsimp only at hb1 hb2 ⊢
    refine x_assign_t ?_; refine k_sub ?_; refine we_pure 1 (by exact rfl) ?_; refine we_pure 1 (by exact rfl) ?_
    refine wsub_list (v := r.V) hL (by lia) (by lia) hrow ?_
    cases r with
    | base => exact absurd rfl hrk
    | hard t v c =>
      refine wasg_tup2 (u := .int 1) ?_
      refine p_if_t (by exact rfl) (beqT (by lia)) ?_; refine x_if ?_; refine wtest_not ?_; refine wtest_value ?_; refine we_pure 1 (by exact rfl) ?_; refine wtru_bool ?_
      have le5 : ∀ (τ : Loc), fget "rows" τ = some u → fget "hard" τ = some (hardT (say1 ⟨sh, sc, ss, sp⟩ (.hard t v c)).hard) → fget "closed" τ = some (.bool true) → fget "stand" τ = some (.lst (ss.map entT)) → fget "pending" τ = some (.lst (sp.map entT)) →
          ∃ j', j' = SAY (rs.drop (rs.length - (i + 1))) ∧ Loc.Le [("rows", u), ("hard", hardT j'.hard), ("closed", .bool j'.closed), ("stand", .lst (j'.stand.map entT)), ("pending", .lst (j'.pending.map entT))] τ ∧ Store.Le σ σ := fun τ a1 a2 a3 a4 a5 =>
        ⟨_, hnext.symm, Loc.le_cons a1 (Loc.le_cons a2 (Loc.le_cons a3 (Loc.le_cons a4 (Loc.le_cons a5 (Loc.le_nil _))))), fun _ _ h => h⟩
      cases sc with
      | true =>
        refine ifF rfl ?_
        refine wxs_nil ?_; refine x_assign ?_; refine we_bool ?_; refine wxs_nil ?_; refine wxs_nil ?_
        exact le5 _ (by exact rfl) (by exact rfl) (by exact rfl) (by exact rfl) (by exact rfl)
      | false =>
        refine ifT rfl ?_
        refine x_assign ?_; refine we_pure 1 (by exact rfl) ?_; refine wxs_nil ?_; refine x_assign ?_; refine we_bool ?_; refine wxs_nil ?_; refine wxs_nil ?_
        exact le5 _ (by exact rfl) (by exact rfl) (by exact rfl) (by exact rfl) (by exact rfl)
    | ent t i' k d =>
      refine wasg_tup2 (u := .int 2) (v := entT (t, i', k, d)) ?_
      refine p_if_f (by exact rfl) (beqF (by lia)) ?_; refine x_if ?_; refine wtest_not ?_; refine wtest_value ?_; refine we_pure 1 (by exact rfl) ?_; refine wtru_bool ?_
      cases sc with
      | false =>
        refine ifT rfl ?_
        refine x_assign ?_; refine k_bin ?_; refine we_list ?_; refine wargs_pure (by exact rfl) ?_; refine ⟨Nat.le_of_ble_eq_true rfl, ?_⟩
        intro b hb
        refine we_pure 1 (by exact rfl) ?_
        refine wbin_list_add (.ref (Store.set_self ..)) .lst (by simp; lia) fun y hy => ?_
        have hby : b ≠ y := fun q => by subst q; rw [Store.set_self] at hy; cases hy
        have hy2 : σ y = none := (Store.set_ne _ _ (Ne.symm hby)).symm.trans hy
        refine WS.frzLoc (x := "pending") (a := y) (τ := σ) (by exact rfl) (Store.set_self ..) (Store.le_del ((Store.le_set hb _).trans (Store.le_set hy _)) hy2) ?_
        refine wxs_nil ?_; refine wxs_nil ?_; refine wxs_nil ?_
        exact ⟨_, hnext.symm, Loc.le_cons (by exact rfl) (Loc.le_cons (by exact rfl) (Loc.le_cons (by exact rfl) (Loc.le_cons (by exact rfl) (Loc.le_cons (by exact rfl) (Loc.le_nil _))))), fun _ _ h => h⟩
      | true =>
        refine ifF rfl ?_
        refine x_if ?_; refine t_or ?_; refine k_cmp ?_; refine k_call ?_; refine we_b_len (by exact rfl) ?_; refine ⟨(by first | exact .builtin _ | exact .type _ | exact .K _ (by exact rfl)), ?_⟩; refine wargs_pure (by exact rfl) ?_
        refine wlen_list .lst (by simp; lia) ?_
        rw [List.length_map]
        refine we_int ?_; refine wcmp_eq ?_; refine wtru_bool ?_
        rcases ss with _ | ⟨e0, ss⟩
        · have e : say1 ⟨sh, true, [], sp⟩ (.ent t i' k d) = ⟨sh, true, [(t, i', k, d)], sp⟩ := by simp [say1]
          rw [e] at hnext
          refine ifT (beqT rfl) ?_
          refine ifT rfl ?_; refine x_assign ?_; refine k_bin ?_; refine we_list ?_; refine wargs_pure (by exact rfl) ?_; refine ⟨Nat.le_of_ble_eq_true rfl, ?_⟩
          intro b hb
          refine we_pure 1 (by exact rfl) ?_
          refine wbin_list_add (.ref (Store.set_self ..)) .lst (by simp) fun y hy => ?_
          have hby : b ≠ y := fun q => by subst q; rw [Store.set_self] at hy; cases hy
          have hy2 : σ y = none := (Store.set_ne _ _ (Ne.symm hby)).symm.trans hy
          refine WS.frzLoc (x := "stand") (a := y) (τ := σ) (by exact rfl) (Store.set_self ..) (Store.le_del ((Store.le_set hb _).trans (Store.le_set hy _)) hy2) ?_
          refine wxs_nil ?_; refine wxs_nil ?_; refine wxs_nil ?_; refine wxs_nil ?_
          exact ⟨_, hnext.symm, Loc.le_cons (by exact rfl) (Loc.le_cons (by exact rfl) (Loc.le_cons (by exact rfl) (Loc.le_cons (by exact rfl) (Loc.le_cons (by exact rfl) (Loc.le_nil _))))), fun _ _ h => h⟩
        · refine ifF (beqF (by simp; lia)) ?_
          refine a_or ?_; refine k_cmp ?_; refine k_sub ?_; refine we_pure 1 (by exact rfl) ?_; refine we_int ?_
          refine wsub_tup (v := .int (i' : Nat)) (by decide) (by decide) rfl ?_
          refine k_sub ?_; refine k_sub ?_; refine we_pure 1 (by exact rfl) ?_; refine we_int ?_
          refine wsub_list (v := entT e0) .lst (by decide) (by decide) rfl ?_
          refine we_int ?_
          refine wsub_tup (v := .int (e0.2.1 : Nat)) (by decide) (by decide) rfl ?_
          refine wcmp_lt ?_; refine wtru_bool ?_
          by_cases c : i' < e0.2.1
          · have e : say1 ⟨sh, true, e0 :: ss, sp⟩ (.ent t i' k d) = ⟨sh, true, (t, i', k, d) :: e0 :: ss, sp⟩ := by simp [say1, c]
            rw [e] at hnext
            refine ifT (dT (by lia)) ?_
            refine ifT rfl ?_; refine x_assign ?_; refine k_bin ?_; refine we_list ?_; refine wargs_pure (by exact rfl) ?_; refine ⟨Nat.le_of_ble_eq_true rfl, ?_⟩
            intro b hb
            refine we_pure 1 (by exact rfl) ?_
            refine wbin_list_add (.ref (Store.set_self ..)) .lst (by simp at hb1 ⊢; lia) fun y hy => ?_
            have hby : b ≠ y := fun q => by subst q; rw [Store.set_self] at hy; cases hy
            have hy2 : σ y = none := (Store.set_ne _ _ (Ne.symm hby)).symm.trans hy
            refine WS.frzLoc (x := "stand") (a := y) (τ := σ) (by exact rfl) (Store.set_self ..) (Store.le_del ((Store.le_set hb _).trans (Store.le_set hy _)) hy2) ?_
            refine wxs_nil ?_; refine wxs_nil ?_; refine wxs_nil ?_; refine wxs_nil ?_
            exact ⟨_, hnext.symm, Loc.le_cons (by exact rfl) (Loc.le_cons (by exact rfl) (Loc.le_cons (by exact rfl) (Loc.le_cons (by exact rfl) (Loc.le_cons (by exact rfl) (Loc.le_nil _))))), fun _ _ h => h⟩
          · have e : say1 ⟨sh, true, e0 :: ss, sp⟩ (.ent t i' k d) = ⟨sh, true, e0 :: ss, sp⟩ := by simp [say1, c]
            rw [e] at hnext
            refine ifF (dF (by lia)) ?_
            refine wall_or_nil ?_; refine ifF rfl ?_; refine wxs_nil ?_; refine wxs_nil ?_; refine wxs_nil ?_; refine wxs_nil ?_
            exact ⟨_, hnext.symm, Loc.le_cons (by exact rfl) (Loc.le_cons (by exact rfl) (Loc.le_cons (by exact rfl) (Loc.le_cons (by exact rfl) (Loc.le_cons (by exact rfl) (Loc.le_nil _))))), fun _ _ h => h⟩
  · rintro s ρ₂ σ₂ hs hl2 hs2
    rw [Nat.sub_self, List.drop_zero] at hs
    subst hs
    refine WS.le ?_ hl2 hs2
    refine x_assign_t ?_; refine k_sub ?_; refine k_sub ?_; refine we_pure 1 (by exact rfl) ?_; refine we_int ?_
    refine wsub_list (v := (Row.base bi bt ls f).V) hL (by decide) (by decide) rfl ?_
    refine we_int ?_
    refine wsub_tup (v := (Row.base bi bt ls f).v) (by decide) (by decide) rfl ?_
    refine wasg_tup3 (u := .int (bi : Nat)) (v := .int (bt : Nat)) (t := memV ls f) ?_
    refine x_return ?_; refine k_tuple ?_; refine k_args ?_; refine k_call ?_; refine we_b_len (by exact rfl) ?_; refine ⟨(by first | exact .builtin _ | exact .type _ | exact .K _ (by exact rfl)), ?_⟩; refine wargs_pure (by exact rfl) ?_
    refine wlen_list hL (by lia) ?_
    rw [len]
    refine wargs_pure (by exact rfl) ?_; refine ⟨Nat.le_of_ble_eq_true rfl, ?_⟩
    exact ⟨σ, fun _ _ h => h, h⟩

end
section
variable {prog : Program} {w : World} {mean : ExcName → Option Value} {mg mb : Str → Option Value} {C : Ctx (G0 prog w mean mg mb)} {ρ : Loc} {σ : Store} {Q Qr : V → Store → Prop} {Qn : Loc → Store → Prop} {X : Prop}
theorem elt_mod {scope : Scope} {D : Addr} {x : Str} {px p1 p2 : Pos} {k : _} {n : Int} {i : Int} {fz : Led} {hid : Led} {m : Str → Option Value} {v : Value} {s : Shared} {Q E : Value → Shared → Prop}
    (st : St C ρ σ fz hid s) (hns : s.heap.Ns D m) (hm : m x = some v) (hr : Rep fz (.int i) v) (hn : 0 < n) (hk : scope.kind = .function) (hx : scope.names.lookup x = some .local) (hd : (x == ("__debug__" : Str)) = false)
    (h : ∀ b s'', Rep fz (.int (i % n)) b → St C ρ σ fz hid s'' → Q b s'') : wpAny (G0 prog w mean mg mb).M C.A (eval (.BinOp (.Name x px) .Mod (.Constant (.int n) k p1) p2) (compEnvC scope [] D C.env)) Q E s := by
  cases hr with
  | int _ t =>
  refine wpN.toAny (nBinOp (.any (wpAny_Name (wpAny_loadName_local (env := compEnvC scope [] D C.env) hk (lookup_relabel_local hx) hns hm (.any (wpAny_Constant_int ?_))) hd)))
  have e : i.fmod n = i % n := Int.fmod_eq_emod_of_nonneg _ (by lia)
  refine .any (mod_int' (b := n) (by lia) ?_)
  rw [e]
  exact h _ _ (.int _ _) ((st.toks _).toks _)
theorem elt_row {pl : Sem Bool} {scope : Scope} {D : Addr} {x : Str} {px pa pos : Pos} {t i k : Nat} {d : List UInt8} {fz hid : Led} {m : Str → Option Value} {v : Value} {s : Shared} {Q E : Value → Shared → Prop} (ok : C.Ok) (room : C.Room 1)
    (st : St C ρ σ fz hid s) (hns : s.heap.Ns D m) (hm : m x = some v) (hr : Rep fz (.obj 359 (entF t i k d)) v) (hk : scope.kind = .function) (hx : scope.names.lookup x = some .local) (hd : (x == ("__debug__" : Str)) = false)
    (h : ∀ b fz'' s'', (∀ q ∈ fz, q ∈ fz'') → Rep fz'' (.tup [.int (t : Nat), .int (i : Nat), .int (k : Nat), .bytes d]) b → St C ρ σ fz'' hid s'' → Q b s'')
    (hc : eval (.Call (.Attribute (.Name x px) "row" pa) [] [] pos) (compEnvC scope [] D C.env) = (do
      let ov ← eval (.Name x px) (compEnvC scope [] D C.env)
      standAt pa.atName
      let (f, first) ← holding [ov] (getMethod ov "row" pl)
      callWith pos f first (backTo pos (starEach [] (compEnvC scope [] D C.env))) (backToKw pos (keywordEach [] (compEnvC scope [] D C.env)))) := by rfl) :
    wpAny (G0 prog w mean mg mb).M C.A (eval (.Call (.Attribute (.Name x px) "row" pa) [] [] pos) (compEnvC scope [] D C.env)) Q E s := by
  rw [hc]
  refine wpN.toAny (nBind (.any (wpAny_Name (wpAny_loadName_local (env := compEnvC scope [] D C.env) hk (lookup_relabel_local hx) hns hm ?_) hd)))
  refine nBind (nStand (nBind (nHold ?_)))
  have hm2 := (wmeth_inst (C := C.off) (ρ := ρ) (σ := σ) (X := False) (Q' := fun f fs σ' => f = .raw (.ref 335) ∧ fs = [.obj 359 (entF t i k d)] ∧ σ' = σ) (name := "row") (f := 335) .obj (by kernel_rfl) (by exact rfl) (by kernel_rfl) (by exact rfl) ⟨rfl, rfl, rfl⟩) ok.off fz hid v hr s
  refine hm2 _ _ st.offC (fun f fs wf ws σ' fz' s' f1 r1 rs1 hq st1 => ?_) (fun f => f.elim) pl
  obtain ⟨rfl, rfl, rfl⟩ := hq
  refine wcallWith0 (C := C.off) (X := False) (Q := fun u σ'' => u = .tup [.int (t : Nat), .int (i : Nat), .int (k : Nat), .bytes d] ∧ σ'' = σ') (.K 335 (by kernel_rfl)) (s_ent_row (C := C.off) (by exact room) ⟨rfl, rfl⟩).call ok.off fz' hid wf ws r1 rs1 s' _ _ st1 (fun b u σ'' fz'' s'' f2 r2 hq st2 => ?_) fun f => f.elim
  obtain ⟨rfl, rfl⟩ := hq
  exact h b fz'' s'' (subTrans f1 f2) r2 st2.onC

end
section
variable {prog : Program} {w : World} {mean : ExcName → Option Value} {mg mb : Str → Option Value} {C : Ctx (G0 prog w mean mg mb)} {ρ : Loc} {σ : Store} {Q Qr : V → Store → Prop} {Qn : Loc → Store → Prop} {X : Prop}
theorem nTryExcept {body : List Stmt} {h₀ : ExceptHandler} {hs : List ExceptHandler} {pos : Pos} {nd : Bool} {A : Around} {E : Value → Shared → Prop} {s : Shared} {env : Env} {Q : Flow → Shared → Prop}
    (h : wpN nd (model prog w) A (execs body env) (fun f s₁ => Q f s₁)
      (fun e s₁ => wpN nd (model prog w) A (noteFrame e env) (fun _ s₂ => wpN nd (model prog w) A (setFlight e none) (fun _ s₃ => wpN nd (model prog w) A (handleBy e env (h₀ :: hs)) Q E s₃) E s₂) E s₁) s) :
    wpN nd (model prog w) A (exec (.Try body (h₀ :: hs) [] [] pos) env) Q E s := by
  rw [arm_exec_Try]
  refine nBind (nStand ?_)
  unfold tryStmt
  simp only [List.isEmpty_nil, if_true, List.isEmpty_cons, Bool.false_and, Bool.false_eq_true, if_false]
  refine nBind (nAttempt (nMono h (fun f s₁ h₁ => ?_) fun e s₁ h₁ => ?_))
  · cases f <;> first | exact nPure h₁ | exact .any (wpAny_execs_nil h₁)
  · exact nBind (nMono h₁ (fun _ _ h₂ => nBind h₂) fun _ _ x => x)
theorem exm56 {cls : Value} (h : ExcCls (G0 prog w mean mg mb) cls) : exmOne (G0 prog w mean mg mb).K cls (.ref 56) = some true := by
  obtain ⟨c, rfl, hc⟩ := h
  have hc : c ∈ [56, 68] := hc
  simp only [List.mem_cons, List.not_mem_nil, or_false] at hc
  rcases hc with rfl | rfl
  · kernel_rfl
  · kernel_rfl
theorem looks_cls {M : Model} {h : Heap} {a : Addr} {o : Obj} (e : h.get? a = some o) : Looks M h (typeOf (.ref a)) o.cls := (Looks.ld e).andThen .now
theorem catch_held {base : Heap} {a : Addr} {cls a0 : Value} {gh : Heap} {m : Str → Option Value} {y : Str} {np py ap hp : Pos} {k : _} {bp : Pos} {Qc : Flow → Shared → Prop} {Ec : Value → Shared → Prop} {s : Shared} (ok : C.Ok)
    (hb : ∀ b o, C.h₀.get? b = some o → base.get? b = some o) (hh : Heap.HeldW base (C.env :: C.outer) a cls a0 C.L s.heap) (hc : ExcCls (G0 prog w mean mg mb) cls) (F : Fr C.h₀ C.L gh m) (hu : gh.UpToSlots s.heap)
    (hQ : ∀ h' t, base.StaysIn h' → Fr C.h₀ C.L h' (fun z => if z = y then some (.bool true) else m z) → Qc .next { s with heap := h', toks := t })
    (hy : C.env.kindOf y = some .local) (hx : C.env.kindOf "Corrupt" = some .globalImplicit) (hsw : swapsWith (.Constant (.bool true) k bp) (some (.Name y py)) ap.line C.env = pure false) :
    wpAny (G0 prog w mean mg mb).M C.A (setFlight (.ref a) none) (fun _ s₃ => wpAny (G0 prog w mean mg mb).M C.A (handleBy (.ref a) C.env [.ExceptHandler (some (.Name "Corrupt" np)) none [.Assign [.Name y py] (.Constant (.bool true) k bp) ap] hp]) Qc Ec s₃) Ec s := by
  refine wpAny_landsW hh fun h₁ hf₁ hu₁ => ?_
  have F₁ : Fr C.h₀ C.L h₁ m := F.of_stays (fun b o e => hf₁.1 b o (hb b o e)) (hu.trans hu₁)
  refine wpAny_handleBy_cons (codeAny_handlers_test (nameX_K F₁ ok.X (topRead_of ok.T) (show nsIn (G0 prog w mean mg mb).K mainGlobals "Corrupt" = some (some (.ref 56)) from rfl) ?_ ok.hk hx (by decide))) (by intro q; cases q)
  obtain ⟨ob, hob, hobc⟩ := hf₁.there
  have LT : Looks (G0 prog w mean mg mb).M h₁ (typeOf (.ref a)) cls := hobc ▸ looks_cls hob
  refine (exm_one (ok.X.keeps F₁.keep) LT (exm56 hc)).here (s := { s with heap := h₁ }) ?_
  refine codeAny_handlers_suite (lands_againW hf₁ fun h₂ hf₂ hu₂ => ?_)
  have F₂ : Fr C.h₀ C.L h₂ m := F₁.of_stays (fun b o e => hf₂.1 b o (hb b o e)) hu₂
  refine wpN.toAny (nCons (nAssign (.any (wpAny_Constant_bool ?_)) hsw))
  have hL : base.get? C.L = none := (hf₂.2.2.1.mem (b := C.L) (List.mem_filterMap.mpr ⟨C.env, .head _, rfl⟩)).1
  refine .any (wpAny_storeName_local (env := C.env) hy F₂.ns (fun h₃ hn₃ hs₃ => ?_) (by show (C.cs.kind == .class || (C.cs.kind == .module && C.L != mainGlobals)) = false; rw [ok.hk]; rfl))
  refine .any (wpAny_execs_nil ?_)
  exact hQ h₃ _ (fun b o e => (hs₃.2 b (fun q => by rw [q, hL] at e; cases e)).trans (hf₂.1 b o e)) (F₂.set hn₃ hs₃)

end
section
variable {prog : Program} {w : World} {mean : ExcName → Option Value} {mg mb : Str → Option Value} {C : Ctx (G0 prog w mean mg mb)} {ρ : Loc} {σ : Store} {Q Qr : V → Store → Prop} {Qn : Loc → Store → Prop} {X : Prop}
theorem Own.emp : Own Store.emp [] [] [] where
  nd := List.Pairwise.nil
  inF := fun _ h => h
  inH := fun _ h => h
  sto := fun a o e => by cases e
  ap := fun a o e => by cases e
  own := fun a o d e => by cases e
  fh := fun p hp => by cases hp
  hn := List.Pairwise.nil
/-- a callee's frame that knows the whole heap but its caller's frame -/
noncomputable def Ctx.sub2 {g : Gl} (C : Ctx g) (qual : Str) (scope : Scope) (f : Addr) (cdv : Value) (h : Heap) : Ctx g :=
  { C.sub qual scope f cdv h.objs.size h with base := hideAll h [C.L] }
theorem code_keep {g : Gl} {C : Ctx g} {ρ ρ' : Loc} {σ : Store} {fz hid : Led} {s : Shared} {n : Nat} {name qual : Str} {params : Arguments} {body : List Stmt} {scope : Scope} {dV kV doc pm cdv ct oc : Value} {an od : Option Addr} {osl : Array (Option Value)} {f : Addr} {as : List V} {vs : List Value} {Ec : Value → Shared → Prop}
    (ho : g.K.lookup f = some ⟨oc, od, .func (fnOf name qual params body scope dV kV doc pm an cdv ct), osl⟩) (hcd : codeIn g.K cdv qual = true) (room : C.Room (n + 1)) (ok : C.Ok) (hout : C.outer = []) (st : St C ρ σ fz hid s) (has : Reps [] as vs)
    (hb : ∀ fz s ws, Reps fz as ws → g.K.In s.heap → ∃ bs, BindsTo s (fnOf name qual params body scope dV kV doc pm an cdv ct) ⟨ws, []⟩ bs ∧ RepB fz ρ' bs)
    (hloc : (ρ'.all fun y => scope.names.lookup y.1 == some .local) = true) (hnd : (ρ'.map (·.1)).Nodup)
    (h : (C.sub2 qual scope f cdv s.heap).Room n → WXs (C.sub2 qual scope f cdv s.heap) body ρ' Store.emp (fun _ _ => False) (fun _ _ => False) True)
    (hE : ∀ a cls a0 s', ExcCls g cls → Heap.FlyingW (hideAll s.heap [C.L]) (C.env :: C.outer) a cls a0 s'.heap → s.heap.UpToSlots s'.heap → s'.gens = C.gens → s'.drawn = C.drawn → s'.os = C.os → Ec (.ref a) s')
    (hk : scope.kind = .function := by rfl) (hco : scope.isCoroutine = false := by rfl) (hgen : scope.isGenerator = false := by rfl) (hcell : ∀ x ∈ scope.names, x.2 ≠ .cell := by decide) :
    wpN C.nd g.M C.A (call (.ref f) vs) (fun _ _ => False) Ec s := by
  refine st.op7 fun m news F N l ow sg sd so => ?_
  obtain ⟨bs, hbind, hrb⟩ := hb [] s vs has (ok.X.keeps F.keep)
  have hroom : C.A.depth < recursionLimit := by have := room.1; lia
  have hbl : ∀ y ∈ bs, scope.names.lookup y.1 = some .local := fun y hy => by
    have hk' : y.1 ∈ ρ'.map (·.1) := by rw [← hrb.keys]; exact List.mem_map_of_mem hy
    obtain ⟨z, hz, e⟩ := List.mem_map.mp hk'
    have := List.all_eq_true.mp hloc z hz
    rw [← e]; simpa using this
  have hframes : s.heap.FunFrames (hideAll s.heap [C.L]) (C.env :: C.outer) := by
    rw [hout]
    exact .cons (by rw [show C.env.scope.kind = C.cs.kind from rfl, ok.hk]; decide) rfl F.ns (hideAll_none _ (.head _)) trivial
  refine nCall (codeN_def (fd := fnOf name qual params body scope dV kV doc pm an cdv ct) (body := body) (binds := bs) hroom ((ok.X.keeps F.keep) _ _ ho) rfl (ok.T.nolimit.keeps F.keep) (codeRec_of (ok.X.keeps F.keep) hcd) rfl hbind hcell hbl (fun h₁ hns hk₁ => ?_) hco hgen hk)
  have F' : Fr s.heap s.heap.objs.size h₁ (fun x => bs.reverse.lookup x) := ⟨hns, hk₁, Nat.le_refl _⟩
  have ok' : (C.sub2 qual scope f cdv s.heap).Ok := by
    refine ⟨⟨ok.hA, fun b o e => of_hideAll _ e, hframes⟩, ok.X.keeps F.keep, ok.T.keeps F.keep, ?_, ok.hh, hk, ok.hg⟩
    show (C.A.frames.map _) = _
    rw [ok.hA]; rfl
  have room' : (C.sub2 qual scope f cdv s.heap).Room n := by
    obtain ⟨r1, r2⟩ := room
    refine ⟨?_, ?_⟩
    · show C.A.depth + 1 + 4 * n + 4 < recursionLimit; lia
    · show C.A.units + 3 + 16 * n + 16 < cLine; lia
  have st' : St (C.sub2 qual scope f cdv s.heap) ρ' Store.emp [] [] { s with heap := h₁, toks := s.toks + bs.length } :=
    ⟨⟨_, [], F', News.nil, hrb.loc hnd, Own.emp⟩, sg, sd, so⟩
  refine h room' ok' [] [] _ _ _ st' (fun ρ₂ σ₂ fz₂ s₂ f2 h2 st2 => h2.elim) (fun v u ρ₂ σ₂ fz₂ s₂ f2 r2 h2 st2 => h2.elim) fun hx => ?_
  intro ρ₂ e s₂ x
  cases x with
  | made hc xg xd xo F2 l2 hm =>
    obtain ⟨ff, kb⟩ := funFrames_of ok' F2
    refine .any (wpAny_leaves_madeW ok'.hA rfl kb ff hm fun h' t hf _ _ hu => hE _ _ _ _ hc hf ?_ xg xd xo)
    exact ((Heap.UpToSlots.of_keeps F2.keep).trans (UpToSlots.made hm)).trans hu
  | fly hc xg xd xo F2 l2 hu hf =>
    exact .any (wpAny_leaves_onW ok'.hA rfl hf fun h' hf' hu' => hE _ _ _ _ hc hf' (((Heap.UpToSlots.of_keeps F2.keep).trans hu).trans hu') xg xd xo)
  | held hc xg xd xo F2 l2 hu hh =>
    unfold leaving
    refine .any (wpAny_bind (wpAny_noteFrame_againW rfl hh.2.2.2 ?_))
    refine wpAny_landsW hh fun h' hfl hu' => ?_
    obtain ⟨k1, k2, ⟨_, _, k3⟩, k4⟩ := hfl
    exact hE _ _ _ _ hc ⟨k1, k2, k3, k4⟩ (((Heap.UpToSlots.of_keeps F2.keep).trans hu).trans hu') xg xd xo
theorem wget_raw {g : Gl} {C : Ctx g} {ρ : Loc} {σ : Store} {Q : V → Store → Prop} {X : Prop} {a Cl dx : Addr} {sl : Array (Option Value)} {es : List DictEntry} {n : Nat} {name : Str} {v : V} {fs : Flds} (h1 : C.h₀.get? a = some ⟨.ref Cl, some dx, .plain, sl⟩) (h2 : C.h₀.get? dx = some (dictOf es n))
    (hg : plainGet g.K Cl name = true) (hh : hasDictIn g.K Cl = true) (ha : findIn g.K (.ref Cl) name = some none) (hv : ∃ w, getL name es = some (some w) ∧ Rep [] v w ∧ handedIn w = true) (h : Q v σ) :
    WGet C (.raw (.ref a)) name ρ σ Q X := fun ok fz hid w hr s Qc Ec st hQ hX => by
  cases hr
  have st0 := st
  refine st.op fun m news F N l ow => ?_
  obtain ⟨w, hw, hr2, hh2⟩ := hv
  have I : InstAt s.heap a ⟨.ref Cl, some dx, .plain, sl⟩ Cl (some (dictOf es n)) := ⟨F.keep _ _ h1, rfl, rfl, F.keep _ _ h2⟩
  exact .any (get_own F ok.X I hg hh ha rfl hw hh2 (hQ _ _ _ _ _ (subRefl fz) (hr2.mono fun _ h => by cases h) h (st0.toks _)))

end
section
variable {prog : Program} {w : World} {mean : ExcName → Option Value} {mg mb : Str → Option Value} {C : Ctx (G0 prog w mean mg mb)} {ρ : Loc} {σ : Store} {Q Qr : V → Store → Prop} {Qn : Loc → Store → Prop} {X : Prop}
theorem s_check_ok {s d p e : Addr} {z : SS} (hi : σ s = some (.inst 562 d (segF z e p))) (room : C.Room 1) (hz : 2 ≤ z.count) (h : Q .none σ) : WCode C (.raw (.ref 559)) [.ref s] ρ σ Q X := by
  refine wfun ["self"] [("self", .ref s)] (n := 0) (by exact rfl) (by exact rfl) room (b1 fun a => by exact rfl) (by exact rfl) (by decide +kernel) (by decide +kernel) fun L' gh room' => ?_
  refine x_if ?_; refine k_cmp ?_; refine k_attr ?_; refine we_pure 1 (by exact rfl) ?_; refine wget_inst (by first | exact .obj | exact .ref (by walk_at "wst")) (by kernel_rfl) (by kernel_rfl) (by kernel_rfl) (by exact rfl) (by intro w e; cases e) ?_; refine we_int ?_; refine wcmp_lt ?_; refine wtru_bool ?_; refine ifF (dF (by lia)) ?_; refine wxs_nil ?_; refine wxs_nil ?_
  exact ⟨σ, fun _ _ h => h, h⟩
theorem call_check {fz hid : Led} {sh : Shared} {Ec : Value → Shared → Prop} {s d p e : Addr} {z : SS} (hi : σ s = some (.inst 562 d (segF z e p))) (room : C.Room 1) (ok : C.Ok) (hout : C.outer = []) (st : St C ρ σ fz hid sh) (hz : z.count < 2)
    (hE : ∀ a cls a0 s', ExcCls (G0 prog w mean mg mb) cls → Heap.FlyingW (hideAll sh.heap [C.L]) (C.env :: C.outer) a cls a0 s'.heap → sh.heap.UpToSlots s'.heap → s'.gens = C.gens → s'.drawn = C.drawn → s'.os = C.os → Ec (.ref a) s') :
    wpN C.nd (G0 prog w mean mg mb).M C.A (call (.ref 559) [.ref s]) (fun _ _ => False) Ec sh := by
  refine code_keep (g := G0 prog w mean mg mb) (as := [.raw (.ref s)]) (ρ' := [("self", .raw (.ref s))]) (n := 0) (by exact rfl) (by exact rfl) room ok hout st (.cons (.raw _) .nil) (b1 fun a => by exact rfl) (by exact rfl) (by show (["self"] : List Str).Nodup; decide +kernel) (fun room' => ?_) hE
  have hat : ∃ es n, sh.heap.get? s = some (instObj 562 d) ∧ sh.heap.get? d = some (dictOf es n) ∧ RepFs fz (segF z e p) es := by
    refine st.op fun m news F N l ow => ?_
    obtain ⟨h1, es, n, h2, h3⟩ := ow.sto _ _ hi
    exact ⟨es, n, (N _ h1).1, (N _ h2).1, h3⟩
  obtain ⟨es, n, g1, g2, g3⟩ := hat
  refine x_if ?_; refine k_cmp ?_; refine k_attr ?_; refine we_pure 1 (by exact rfl) ?_
  refine wget_raw (Cl := 562) (dx := d) (sl := #[]) (es := es) (n := n) (v := .int (z.count : Nat)) (fs := []) (by exact g1) (by exact g2) (by kernel_rfl) (by kernel_rfl) (by kernel_rfl) ?_ ?_
  · obtain ⟨w', h1, h2⟩ := getL_of g3 (x := "count") (v := .int (z.count : Nat)) (by exact rfl)
    cases h2
    exact ⟨_, h1, .int _ _, rfl⟩
  refine we_int ?_; refine wcmp_lt ?_; refine wtru_bool ?_; refine ifT (dT (by lia)) ?_; refine x_cons ?_
  refine wx_corrupt rfl trivial ?_
  refine k_args ?_; refine we_str (n := 200) (by decide +kernel) ?_; refine wargs_pure (by exact rfl) ?_; exact Nat.le_of_ble_eq_true rfl
theorem wx_check {s d p e : Addr} {z : SS} {p1 p2 p3 p4 p5 p6 p7 p8 p9 p10 : Pos} {k : _} {pl : Sem Bool} (hout : C.outer = []) (room : C.Room 1) (hl : fget "state" ρ = some (.ref s)) (hi : σ s = some (.inst 562 d (segF z e p)))
    (h1 : z.count < 2 → Qn (fput "broken" (.bool true) ρ) σ) (h2 : 2 ≤ z.count → Qn ρ σ)
    (hs : C.env.kindOf "state" = some .local := by rfl) (hy : C.env.kindOf "broken" = some .local := by rfl) (hx : C.env.kindOf "Corrupt" = some .globalImplicit := by rfl)
    (hsw : swapsWith (.Constant (.bool true) k p7) (some (.Name "broken" p6)) p8.line C.env = pure false := by rfl) (hint : interactive C.env = false := by rfl)
    (hsx : swapsWith (.Call (.Attribute (.Name "state" p1) "check_whole" p2) [] [] p3) none p4.line C.env = pure false := by rfl)
    (hc : eval (.Call (.Attribute (.Name "state" p1) "check_whole" p2) [] [] p3) C.env = (do
      let ov ← eval (.Name "state" p1) C.env
      standAt p2.atName
      let (f, first) ← holding [ov] (getMethod ov "check_whole" pl)
      callWith p3 f first (backTo p3 (starEach [] C.env)) (backToKw p3 (keywordEach [] C.env))) := by rfl) :
    WX C (.Try [.Expr (.Call (.Attribute (.Name "state" p1) "check_whole" p2) [] [] p3) p4] [.ExceptHandler (some (.Name "Corrupt" p5)) none [.Assign [.Name "broken" p6] (.Constant (.bool true) k p7) p8] p9] [] [] p10) ρ σ Qn Qr X := fun ok fz hid sh Qc Ec st hn hr hX => by
  refine nTryExcept ?_
  by_cases hz : 2 ≤ z.count
  · have body : WXs C [.Expr (.Call (.Attribute (.Name "state" p1) "check_whole" p2) [] [] p3) p4] ρ σ (fun ρ' σ' => ρ' = ρ ∧ σ' = σ) (fun _ _ => False) False := by
      refine wxs_cons (wx_expr (we_meth0 (pl := pl) (we_local hl ?_ hs) hc) hint hsx)
      refine wmeth_inst (.ref hi) (by kernel_rfl) (by exact rfl) (by kernel_rfl) (by exact rfl) ⟨.K 559 (by kernel_rfl), ?_⟩
      exact (s_check_ok hi room hz ⟨rfl, wxs_nil ⟨rfl, rfl⟩⟩).call
    refine body ok fz hid sh _ _ st (fun ρ' σ' fz' s' f q st' => ?_) (fun v u ρ' σ' fz' s' f r q st' => q.elim) fun f => f.elim
    obtain ⟨rfl, rfl⟩ := q
    exact hn _ _ _ _ f (h2 hz) st'
  · have hz' : z.count < 2 := by lia
    refine nCons (nExpr ?_ hint hsx)
    rw [hc]
    have st0 := st
    refine st.op7 fun m news F N l ow sg sd so => ?_
    obtain ⟨w0, hw0, hr0⟩ := l "state" _ hl
    cases hr0
    refine nBind (.any (nameX_L F hw0 ?_ ok.hk hs (by decide)))
    refine nBind (nStand (nBind (nHold ?_)))
    obtain ⟨x, ox, es, n, hxe, I, r⟩ := st0.inst (.ref hi) (.ref s)
    cases hxe
    refine .any (method_inst F ok.X I (show plainGet (G0 prog w mean mg mb).K 562 "check_whole" = true by kernel_rfl) (show findIn (G0 prog w mean mg mb).K (.ref 562) "check_whole" = some (some (.ref 559)) from rfl) (by kernel_rfl) (getL_none r (by exact rfl)) ?_)
    have hKin : (G0 prog w mean mg mb).K.In sh.heap := ok.X.keeps F.keep
    refine nCallWith (prog := prog) (w := w) rfl (nEvalArgs0 ⟨(Callee.K 559 (by kernel_rfl) : Callee (G0 prog w mean mg mb).K _).kept (fz := []) (.raw _) hKin, ?_⟩)
    refine nMono (call_check hi room ok hout st0 hz' (Ec := fun ev s₁ => wpN C.nd (model prog w) C.A (noteFrame ev C.env) (fun _ s₂ => wpN C.nd (model prog w) C.A (setFlight ev none) (fun _ s₃ => wpN C.nd (model prog w) C.A (handleBy ev C.env [.ExceptHandler (some (.Name "Corrupt" p5)) none [.Assign [.Name "broken" p6] (.Constant (.bool true) k p7) p8] p9]) Qc Ec s₃) Ec s₂) Ec s₁) ?_) (fun _ _ f => f.elim) fun _ _ q => q
    intro a cls a0 s' hcl hf hu xg xd xo
    refine .any (wpAny_looks_onW ok.hA rfl hf fun h₁ hh hu1 => .any (wpAny_mono (catch_held (s := { s' with heap := h₁ }) (gh := sh.heap) (m := m) (Qc := Qc) (Ec := Ec) ok (fun b o e => hideAll_get _ (F.keep b o e) ?_) hh hcl F (hu.trans hu1) ?_ hy hx hsw) (fun _ s₃ q => .any q) fun _ _ q => q))
    · intro q
      rw [List.mem_singleton] at q
      exact absurd (Nat.lt_of_lt_of_le (Heap.lt_size e) F.above) (by rw [q]; exact Nat.lt_irrefl _)
    · intro h' t hb hF
      refine hn _ _ _ _ (subRefl fz) (h1 hz') ⟨⟨_, news, hF, fun p hp => ⟨hb _ _ (hideAll_get _ (N p hp).1 ?_), (N p hp).2⟩, l.put (.bool true), ow⟩, xg, xd, xo⟩
      intro q
      rw [List.mem_singleton] at q
      exact (N p hp).2.1 q

end
section
variable {prog : Program} {w : World} {mean : ExcName → Option Value} {mg mb : Str → Option Value} {C : Ctx (G0 prog w mean mg mb)} {ρ : Loc} {σ : Store} {Q Qr : V → Store → Prop} {Qn : Loc → Store → Prop} {X : Prop}
/-- what is so at the law's end -/
structure Good {g : Gl} (C : Ctx g) (s' : Shared) : Prop where
  keep : ∀ b o, C.h₀.get? b = some o → s'.heap.get? b = some o
  gens : s'.gens = C.gens
  drawn : s'.drawn = C.drawn
  os : s'.os = C.os
theorem St.good {g : Gl} {C : Ctx g} {ρ : Loc} {σ : Store} {fz hid : Led} {s : Shared} (st : St C ρ σ fz hid s) : Good C s := by
  refine st.op7 fun m news F N l ow a b c => ?_
  exact ⟨F.keep, a, b, c⟩
/-- the law's own statements: they go on, or they give True back -/
noncomputable def WR {g : Gl} (C : Ctx g) (t : Sem Flow) (ρ : Loc) (σ : Store) (Qn : Loc → Store → Prop) : Prop := C.Ok → ∀ fz hid s Qc Ec, St C ρ σ fz hid s →
  (∀ ρ' σ' fz' s', (∀ p ∈ fz, p ∈ fz') → Qn ρ' σ' → St C ρ' σ' fz' hid s' → Qc .next s') → (∀ s', Good C s' → Qc (.ret (.bool true)) s') → wpN C.nd g.M C.A t Qc Ec s
section
variable {g : Gl} {C : Ctx g} {ρ : Loc} {σ : Store} {Qn : Loc → Store → Prop} {X : Prop}
theorem WS.wr {t : Sem Flow} (h : WS C t ρ σ Qn (fun v _ => v = .bool true) False) : WR C t ρ σ Qn := fun ok fz hid s Qc Ec st hn hr =>
  h ok fz hid s Qc Ec st hn (fun v u ρ' σ' fz' s' f r q st' => by
    subst q
    cases r
    exact hr s' st'.good) fun f => f.elim
theorem WR.le {t : Sem Flow} {ρ' : Loc} {σ' : Store} (h : WR C t ρ' σ' Qn) (k : Loc.Le ρ' ρ) (k' : Store.Le σ' σ) : WR C t ρ σ Qn := fun ok fz hid s Qc Ec st => h ok fz hid s Qc Ec (st.le k k')
theorem wr_nil (h : Qn ρ σ) : WR C (execs [] C.env) ρ σ Qn := fun ok fz hid s Qc Ec st hn hr => .any (wpAny_execs_nil (hn _ _ _ _ (subRefl fz) h st))
theorem wr_cons {t : Stmt} {ts : List Stmt} (h : WR C (exec t C.env) ρ σ (fun ρ₁ σ₁ => WR C (execs ts C.env) ρ₁ σ₁ Qn)) : WR C (execs (t :: ts) C.env) ρ σ Qn := fun ok fz hid s Qc Ec st hn hr =>
  nCons (h ok fz hid s _ Ec st (fun ρ₁ σ₁ fz₁ s₁ f1 h1 st1 => h1 ok fz₁ hid s₁ _ Ec st1 (fun ρ₂ σ₂ fz₂ s₂ f2 h2 st2 => hn _ _ _ _ (subTrans f1 f2) h2 st2) hr) hr)
theorem wr_step {t : Stmt} {ts : List Stmt} (h : WX C t ρ σ (fun ρ₁ σ₁ => WR C (execs ts C.env) ρ₁ σ₁ Qn) (fun v _ => v = .bool true) False) : WR C (execs (t :: ts) C.env) ρ σ Qn := wr_cons (WS.wr h)
theorem wr_for_range {t iter : Expr} {body : List Stmt} {pos : Pos}
    (h : WE C iter ρ σ (fun u σ₁ => ∃ (a b c : Int) (n : Nat) (I : Nat → Loc → Store → Prop), u = .rng a b c ∧ Builtin.Range.rangeSize a b c = (n : Int) ∧ Builtin.Range.small a b c = true ∧ I 0 ρ σ₁ ∧
      (∀ i ρ σ, i < n → I i ρ σ → WAsg C t (.int (a + c * i)) ρ σ (fun ρ' => WR C (execs body C.env) ρ' σ (fun ρ₂ σ₂ => ∃ ρ₃ σ₃, I (i + 1) ρ₃ σ₃ ∧ Loc.Le ρ₃ ρ₂ ∧ Store.Le σ₃ σ₂))) ∧ (∀ ρ σ, I n ρ σ → Qn ρ σ)) False)
    (hgo : LetGo g t) (hs : ∀ x, foldedSetIterable iter C.env x = pure x := by intro _; rfl) : WR C (exec (.For t iter body [] pos) C.env) ρ σ Qn := fun ok fz hid s Qc Ec st hn hr => by
  refine nFor (h ok fz hid s _ Ec st (fun v u σ₁ fz₁ s₁ f1 r1 h1 st1 => ?_) fun x => x.elim) hs
  refine Ex5 h1 fun a b c n I h => An6 h fun eu hsz hsm h0 turn fin => ?_
  clear h h1
  subst eu
  refine r1.rng_e fun t1 t2 t3 r hm => ?_
  have hx : IsRange s₁.heap r a b c t1 t2 t3 := by
    refine st1.op fun m news F N l ow => ?_
    exact (N _ (ow.inF _ hm)).1
  refine .any (wpAny_pyIter_range hx hsm ?_)
  have st2 := st1.pushHid { cls := .type "range_iterator", data := .fields #[rawInt a, rawInt (Builtin.Range.rangeSize a b c), rawInt c] }
  refine codeN_for (fun k s => ∃ (i : Nat) (ρ : Loc) (σ : Store) (fz' : Led) (x left : Int), k = n - i ∧ i ≤ n ∧ I i ρ σ ∧ (∀ p ∈ fz₁, p ∈ fz') ∧ x = a + c * i ∧ left = (n : Int) - i ∧ St C ρ σ fz' ((s₁.heap.objs.size, ({ cls := .type "range_iterator", dict := none, data := .fields #[rawInt x, rawInt left, rawInt c], slots := #[] } : Obj)) :: hid) s) (fun k s₂ hI2 => ?_) _
    ⟨0, ρ, σ₁, fz₁, _, _, rfl, Nat.zero_le _, h0, subRefl fz₁, by simp, by rw [hsz]; simp, st2⟩
  refine Ex5 hI2 fun i ρ₂ σ₂ fz₂ x h => h.elim fun left h => An7 h fun en hle hi f2 hxe hlf st3 => ?_
  clear h hI2
  subst en
  have hit : IsRangeIter s₂.heap s₁.heap.objs.size x left c := st3.getHid
  by_cases hlt : i < n
  · refine .any (wpAny_pyNext_range_item hit (by lia) fun h' hit' hsb => ?_)
    have st4 := st3.turnHid (k := s₂.toks + 1) hsb hit'
    refine .any (hgo _ _ _ _ _ _ (.inr ⟨_, _, _, hit'⟩) ?_)
    subst hxe
    refine turn i ρ₂ σ₂ hlt hi ok fz₂ _ _ (.int _ _) _ _ _ st4 fun ρ₃ s₃ h3 st5 => ?_
    refine h3 ok fz₂ _ s₃ _ _ st5 (fun ρ₄ σ₄ fz₄ s₄ f4 h4 st6 => ?_) hr
    obtain ⟨ρ₅, σ₅, h5, l1, l2⟩ := h4
    refine ⟨n - (i + 1), by lia, i + 1, ρ₅, σ₅, fz₄, _, _, rfl, by lia, h5, subTrans f2 f4, ?_, ?_, st6.le l1 l2⟩
    · rw [Int.natCast_add, Int.mul_add]; simp [Int.add_assoc]
    · lia
  · have hie : i = n := by lia
    subst hie
    refine .any (wpAny_pyNext_range_end ok.hh hit (by lia) fun h' he => ?_)
    exact (hn _ _ _ _ (subTrans f1 f2) (fin _ _ hi) (st3.loseHid (k := s₂.toks) he))
noncomputable def V.flat : V → Bool
  | .none => true
  | .bool _ => true
  | .int _ => true
  | .bytes _ => true
  | _ => false
theorem Rep.flat {fz : Led} {v : V} {w : Value} (hv : v.flat = true) (h : Rep fz v w) : Rep [] v w := by
  cases h <;> first | exact .none | exact .bool _ | exact .int _ _ | exact .bytes _ _ | cases hv
end
theorem fget_all {P : V → Bool} : ∀ {ρ : Loc}, (ρ.all fun p => P p.2) = true → ∀ {x : Str} {v : V}, fget x ρ = some v → P v = true
  | [], _, x, v, h => by cases h
  | (y, u) :: r, ha, x, v, h => by
    have ha : (P u && r.all fun p => P p.2) = true := ha
    rw [Bool.and_eq_true] at ha
    unfold fget at h
    split at h
    · cases h; exact ha.1
    · exact fget_all ha.2 h
theorem wr_try {ρ₀ : Loc} {e : Expr} {rest : List Stmt} {y : Str} {np py ap hp ep pos : Pos} {k : _} {bp : Pos} (hbase : ∀ b o, C.h₀.get? b = some o → C.base.get? b = some o) (hρ : Loc.Le ρ₀ ρ) (hflat : (ρ₀.all fun p => p.2.flat) = true)
    (h : WE C e ρ σ (fun v σ₁ => v = .none ∧ WR C (execs rest C.env) ρ σ₁ Qn) X) (hexc : X → WR C (execs rest C.env) (fput y (.bool true) ρ₀) Store.emp (fun _ _ => False))
    (hy : C.env.kindOf y = some .local := by rfl) (hx : C.env.kindOf "Corrupt" = some .globalImplicit := by rfl)
    (hsw : swapsWith (.Constant (.bool true) k bp) (some (.Name y py)) ap.line C.env = pure false := by rfl) (hint : interactive C.env = false := by rfl) (hsx : swapsWith e none ep.line C.env = pure false := by rfl) :
    WR C (execs (.Try [.Expr e ep] [.ExceptHandler (some (.Name "Corrupt" np)) none [.Assign [.Name y py] (.Constant (.bool true) k bp) ap] hp] [] [] pos :: rest) C.env) ρ σ Qn := fun ok fz hid s Qc Ec st hn hr => by
  refine nCons (nTryExcept (nCons (nExpr (h ok fz hid s _ _ st (fun v u σ₁ fz₁ s₁ f1 r1 hq st1 => ?_) fun hX => ?_) hint hsx)))
  · obtain ⟨rfl, h1⟩ := hq
    cases r1
    refine .any (wpAny_execs_nil ?_)
    exact h1 ok fz₁ hid s₁ Qc Ec st1 (fun ρ₂ σ₂ fz₂ s₂ f2 h2 st2 => hn _ _ _ _ (subTrans f1 f2) h2 st2) hr
  · intro ev s' x
    refine .any (x.noted ok fun a cls a0 gh m fzx h' he hc F l hu hh hg hd ho => ?_)
    subst he
    refine .any (wpAny_mono (catch_held (s := { s' with heap := h' }) ok hbase hh hc F hu (fun h'' t hb hF => ?_) hy hx hsw) (fun _ s₃ q => .any q) fun _ _ q => q)
    have hl : LocRel ρ₀ [] m := fun x v e => by
      obtain ⟨w', h1, h2⟩ := l x v (hρ x v e)
      exact ⟨w', h1, h2.flat (fget_all (P := V.flat) hflat e)⟩
    exact hexc hX ok [] [] _ Qc Ec ⟨⟨_, [], hF, News.nil, hl.put (.bool true), Own.emp⟩, hg, hd, ho⟩ (fun _ _ _ _ _ f => f.elim) hr

end
section
variable {prog : Program} {w : World} {mean : ExcName → Option Value} {mg mb : Str → Option Value} {C : Ctx (G0 prog w mean mg mb)} {ρ : Loc} {σ : Store} {Q Qr : V → Store → Prop} {Qn : Loc → Store → Prop} {X : Prop}
noncomputable def Ctx.top (g : Gl) (qual : Str) (scope : Scope) (f : Addr) (cdv : Value) (s : Shared) : Ctx g :=
  { nd := true, cn := qual, cs := scope, L := s.heap.objs.size, a := f, ccd := cdv, cl := [("ids", s.heap.objs.size + 1)], outer := [], A₀ := callerA, A := callerA.deeper (envX qual scope s.heap.objs.size f cdv [("ids", s.heap.objs.size + 1)]), base := s.heap, h₀ := s.heap, gens := s.gens, drawn := s.drawn, os := s.os }
theorem law_entry {g : Gl} {name qual : Str} {params : Arguments} {body : List Stmt} {scope : Scope} {dV kV doc pm cdv ct oc : Value} {an od : Option Addr} {osl : Array (Option Value)} {f a : Addr} {s : Shared} {Qc : Value → Shared → Prop} {Ec : Value → Shared → Prop}
    (ho : g.K.lookup f = some ⟨oc, od, .func (fnOf name qual params body scope dV kV doc pm an cdv ct), osl⟩) (hcd : codeIn g.K cdv qual = true) (X : g.K.In s.heap) (T : Top g.p g.loose g.mean g.mg g.mb s.heap)
    (hb : ∀ v : Value, bindArgs (fnOf name qual params body scope dV kV doc pm an cdv ct) ⟨[v], []⟩ = pure [(("script" : Str), v)])
    (hcl : ∀ n : Addr, cellsFrom n scope.names [] = [(("ids" : Str), n)]) (hloc : scope.names.lookup ("script" : Str) = some NameKind.local)
    (h : ∀ oc s', oc.data = .cell none → (Ctx.top g qual scope f cdv s).Ok → (Ctx.top g qual scope f cdv s).Room 20 →
      St (Ctx.top g qual scope f cdv s) [("script", .raw (.ref a))] Store.emp [] [(s.heap.objs.size + 1, oc)] s' → ∀ Ec', wpN true g.M (Ctx.top g qual scope f cdv s).A (execs body (Ctx.top g qual scope f cdv s).env) (fun fl s'' => Qc (match fl with | .ret v => v | _ => .none) s'') Ec' s')
    (hk : scope.kind = .function := by rfl) (hco : scope.isCoroutine = false := by rfl) (hgen : scope.isGenerator = false := by rfl) :
    wpN true g.M callerA (call (.ref f) [.ref a]) Qc Ec s := by
  refine nCall (codeN_tree rfl ?_)
  show wpN true _ callerA.in1 (callAny (.ref f) ⟨[.ref a], []⟩) _ _ s
  simp only [callAny]
  refine nBind (.any (wpAny_load (X _ _ ho) ?_))
  have hcd' := codeRec_of X hcd
  obtain ⟨c, occ, vs, tq, hc, hoc, hdc, hq⟩ := hcd'
  have hc : cdv = .ref c := hc
  subst hc
  simp only [callFunction, hco, hgen]
  refine nBind (m := field (.ref c) 1) (.any (wpAny_field hoc hdc hq (nBind (nPure ?_))))
  refine nBind ?_
  rw [hb]
  refine nPure (nBind (.any (wpAny_newFunctionEnv_cells hk (fun x hx => ?_) fun env he s' x => ?_)))
  · simp only [List.mem_singleton] at hx
    subst hx
    exact .inl hloc
  · subst he
    rw [hcl] at x ⊢
    have hroom : callerA.depth < recursionLimit := by decide
    refine nBind (.any (wpAny_enterFrame (T.nolimit.keeps x.toInCall.keep) hroom (nPure (And.intro rfl ?_))))
    obtain ⟨⟨⟨hh, tk, hsame⟩, hns, hkeep, hfresh⟩, hcell, hap, hab⟩ := x
    have hc1 := hcell "ids" (s.heap.objs.size + 1) rfl
    obtain ⟨oc', hoc1, hoc2⟩ := hc1
    have hkl : (Ctx.top g qual scope f (.ref c) s).env.kindOf "script" = some .local := hloc
    have hns' : s'.heap.Ns s.heap.objs.size (bindL (Ctx.top g qual scope f (.ref c) s).env.kindOf [(("script" : Str), .ref a)] fun _ => none) := hns
    have hoc2' : oc'.data = .cell (bindC (Ctx.top g qual scope f (.ref c) s).env.kindOf [(("script" : Str), .ref a)] (fun _ => none) "ids") := hoc2
    have hn2 : bindC (Ctx.top g qual scope f (.ref c) s).env.kindOf [(("script" : Str), .ref a)] (fun _ => none) "ids" = none := by
      unfold bindC
      rw [if_pos hkl]
      rfl
    rw [hn2] at hoc2'
    have hm : bindL (Ctx.top g qual scope f (.ref c) s).env.kindOf [(("script" : Str), .ref a)] (fun _ => none) "script" = some (.ref a) := by
      unfold bindL
      rw [if_pos hkl]
      rfl
    have ok : (Ctx.top g qual scope f (.ref c) s).Ok := ⟨⟨rfl, fun _ _ e => e, trivial⟩, X, T, rfl, rfl, hk, rfl⟩
    have room : (Ctx.top g qual scope f (.ref c) s).Room 20 := ⟨by show 1 + claimMargin + 1 + 4 * 20 + 4 < recursionLimit; decide, by show 4 + 3 + 16 * 20 + 16 < cLine; decide⟩
    have st : St (Ctx.top g qual scope f (.ref c) s) [("script", .raw (.ref a))] Store.emp [] [(s.heap.objs.size + 1, oc')] s' := by
      refine ⟨⟨_, [(s.heap.objs.size + 1, oc')], ⟨hns', hkeep, Nat.le_refl _⟩, fun p hp => ?_, fun x v e => ?_, Own.emp.addHid fun p hp => by cases hp⟩, by rw [hsame]; rfl, by rw [hsame]; rfl, by rw [hsame]; rfl⟩
      · rw [List.mem_singleton] at hp
        subst hp
        exact ⟨hoc1, Nat.succ_ne_self _, Heap.get?_none_of_le (Nat.le_succ _)⟩
      · unfold fget at e
        split at e
        · rename_i hy
          rw [beq_iff_eq] at hy
          subst hy
          cases e
          exact ⟨_, hm, .raw _⟩
        · cases e
    exact codeN_func (nd := true) (env := (Ctx.top g qual scope f (.ref c) s).env) (h oc' s' hoc2' ok room st _)

end
section
variable {prog : Program} {w : World} {mean : ExcName → Option Value} {mg mb : Str → Option Value} {C : Ctx (G0 prog w mean mg mb)} {ρ : Loc} {σ : Store} {Q Qr : V → Store → Prop} {Qn : Loc → Store → Prop} {X : Prop}
/-- statements that end the law -/
noncomputable def WF {g : Gl} (C : Ctx g) (hid : Led) (t : Sem Flow) (ρ : Loc) (σ : Store) : Prop := C.Ok → ∀ fz s Qc Ec, St C ρ σ fz hid s → (∀ s', Good C s' → Qc (.ret (.bool true)) s') → wpN C.nd g.M C.A t Qc Ec s
section
variable {g : Gl} {C : Ctx g} {ρ : Loc} {σ : Store} {Qn : Loc → Store → Prop} {X : Prop} {hid : Led}
theorem wf_cons {t : Stmt} {ts : List Stmt} (h : WX C t ρ σ (fun ρ₁ σ₁ => WF C hid (execs ts C.env) ρ₁ σ₁) (fun v _ => v = .bool true) False) : WF C hid (execs (t :: ts) C.env) ρ σ := fun ok fz s Qc Ec st hr =>
  nCons (WS.wr h ok fz hid s _ Ec st (fun ρ₁ σ₁ fz₁ s₁ f1 h1 st1 => h1 ok fz₁ s₁ Qc Ec st1 hr) hr)
theorem WF.le {t : Sem Flow} {ρ' : Loc} {σ' : Store} (h : WF C hid t ρ' σ') (k : Loc.Le ρ' ρ) (k' : Store.Le σ' σ) : WF C hid t ρ σ := fun ok fz s Qc Ec st => h ok fz s Qc Ec (st.le k k')
/-- a loop whose target is a cell -/
theorem wf_cell {x : Str} {c : Addr} {np pos : Pos} {iter : Expr} {body rest : List Stmt} {ι : Type} {oc : Obj} {v₀ : Option Value} (hx : C.env.kindOf x = some .cell) (hcl : C.env.cells.lookup x = some c) (hoc : oc.data = .cell v₀)
    (R : ι → Loc) (S : ι → Store) (P : Nat → ι → Prop)
    (h : WE C iter ρ σ (fun u σ₁ => ∃ vs j, (∀ i j σ, P i j → Store.Le (S j) σ → IsLst σ u vs) ∧ P 0 j ∧ Loc.Le (R j) ρ ∧ Store.Le (S j) σ₁ ∧
      (∀ i v j, vs[i]? = some v → P i j → C.Ok → ∀ fz hid oc w s Qc Ec, St C (R j) (S j) fz hid s → (c, oc) ∈ hid → oc.data = .cell (some w) → Rep fz v w →
        (∀ j' ρ' σ' fz' s', P (i + 1) j' → Loc.Le (R j') ρ' → Store.Le (S j') σ' → (∀ p ∈ fz, p ∈ fz') → St C ρ' σ' fz' hid s' → Qc .next s') → wpN C.nd g.M C.A (execs body C.env) Qc Ec s) ∧
      (∀ j, P vs.length j → WF C hid (execs rest C.env) (R j) (S j))) False)
    (hs : ∀ x, foldedSetIterable iter C.env x = pure x := by intro _; rfl) : WF C ((c, oc) :: hid) (execs (.For (.Name x np) iter body [] pos :: rest) C.env) ρ σ := fun ok fz s Qc Ec st hr => by
  refine nCons (nFor (h ok fz _ s _ Ec st (fun v u σ₁ fz₁ s₁ f1 r1 h1 st1 => ?_) fun f => f.elim) hs)
  refine Ex2 h1 fun vs j₀ h => An6 h fun hI h0 l0 s0 turn fin => ?_
  clear h h1
  obtain ⟨l, ws₀, n₀, e, hxl, hrs⟩ := st1.lst (hI 0 j₀ _ h0 s0) r1
  subst e
  refine .any (wpAny_pyIter_list (isList_of hxl) ?_)
  have st2 := st1.pushHid { cls := .type "list_iterator", data := .fields #[.ref l, .int 0 0] }
  refine codeN_for (fun n s => ∃ i j fz' o oc', n = vs.length - i ∧ i ≤ vs.length ∧ P i j ∧ (∀ p ∈ fz₁, p ∈ fz') ∧ (o.cls = .type "list_iterator" ∧ o.data = .fields #[.ref l, .int i 0]) ∧ (∃ v, oc'.data = .cell v) ∧ St C (R j) (S j) fz' ((s₁.heap.objs.size, o) :: (c, oc') :: hid) s) (fun n s₂ hI2 => ?_) _
    ⟨0, j₀, fz₁, _, oc, rfl, Nat.zero_le _, h0, subRefl fz₁, ⟨rfl, rfl⟩, ⟨_, hoc⟩, st2.le l0 s0⟩
  refine Ex5 hI2 fun i j fz₂ o oc' h => An7 h fun en hle hi f2 ho hvc' st3 => ?_
  clear h hI2
  subst en
  obtain ⟨vc, hvc⟩ := hvc'
  have hit : s₂.heap.IsListIter s₁.heap.objs.size l i := ⟨o, st3.getHid, ho.1, ho.2⟩
  obtain ⟨l', ws, n, e, hx2, hrs2⟩ := st3.lst (hI i j _ hi fun _ _ h => h) (r1.mono f2)
  cases e
  cases hv : vs[i]? with
  | some v =>
    obtain ⟨w, hw, hrw⟩ := hrs2.get hv
    have hlt : i < vs.length := (List.getElem?_eq_some_iff.mp hv).1
    refine .any (wpAny_pyNext_list_item hit (isList_of hx2) (by simpa using hw) fun h' hit' hsb => ?_)
    obtain ⟨o', ho', hc', hd'⟩ := hit'
    have st4 := (st3.turnHid (k := s₂.toks) hsb ho').perm (List.Perm.swap (s₁.heap.objs.size, o') (c, oc') hid)
    refine .any (letGo_name _ _ _ _ _ _ (.inl ⟨l, i + 1, o', ho', hc', hd'⟩) ?_)
    refine .any (wpAny_assign_Name (wpAny_storeName_cell ok.hk hx hcl ⟨oc', st4.getHid, hvc⟩ fun h'' hcell hs'' => ?_))
    obtain ⟨oc2, hoc2, hoc2d⟩ := hcell
    have st5 := (st4.turnHid (k := s₂.toks) hs'' hoc2)
    refine turn i v j hv hi ok fz₂ _ oc2 w _ _ _ st5 (.head _) hoc2d hrw fun j' ρ' σ' fz' s' hj' hl' hs' hf' st6 => ?_
    exact ⟨vs.length - (i + 1), by lia, i + 1, j', fz', o', oc2, rfl, by lia, hj', subTrans f2 hf', ⟨hc', hd'⟩, ⟨_, hoc2d⟩, (st6.le hl' hs').perm (List.Perm.swap (c, oc2) (s₁.heap.objs.size, o') hid)⟩
  | none =>
    have hge : vs.length ≤ i := List.getElem?_eq_none_iff.mp hv
    have hie : i = vs.length := by lia
    subst hie
    refine .any (wpAny_pyNext_list_end ok.hh hit (isList_of hx2) (by simp [hrs2.length]) fun h' he => ?_)
    exact fin j hi ok fz₂ _ Qc Ec (st3.loseHid (k := s₂.toks) he).dropHid hr
end

end
section
variable {prog : Program} {w : World} {mean : ExcName → Option Value} {mg mb : Str → Option Value} {C : Ctx (G0 prog w mean mg mb)} {ρ : Loc} {σ : Store} {Q Qr : V → Store → Prop} {Qn : Loc → Store → Prop} {X : Prop}
noncomputable def pickScope {params : Arguments} {body : List Stmt} {scope : Scope} (_ : PySem.Challenge.pw_no0414_01.theDef "law" = some (params, body, scope)) : Scope := scope
noncomputable def pickBody {params : Arguments} {body : List Stmt} {scope : Scope} (_ : PySem.Challenge.pw_no0414_01.theDef "law" = some (params, body, scope)) : List Stmt := body
noncomputable def lawScope : Scope := pickScope rfl
noncomputable def lawBody : List Stmt := pickBody rfl
noncomputable def pickS {b0 b1 b2 b3 b4 b5 b6 b7 b8 b9 b10 b11 b12 b13 b14 b15 b16 b17 b18 b19 : Stmt} (_ : lawBody = [b0, b1, b2, b3, b4, b5, b6, b7, b8, b9, b10, b11, b12, b13, b14, b15, b16, b17, b18, b19]) : Stmt := b18
noncomputable def pickFor {s : Stmt} {t it : Expr} {b e : List Stmt} {p : Pos} (_ : s = .For t it b e p) : List Stmt := b
noncomputable def lawLoop : List Stmt := pickFor (s := pickS rfl) rfl
noncomputable def pickB {b0 b1 b2 b3 b4 b5 b6 b7 b8 b9 b10 : Stmt} {t : List Stmt} (_ : lawLoop = b0 :: b1 :: b2 :: b3 :: b4 :: b5 :: b6 :: b7 :: b8 :: b9 :: b10 :: t) : List Stmt := t
noncomputable def loopB : List Stmt := pickB rfl
noncomputable def pick8 {b0 b1 b2 b3 b4 b5 b6 b7 : Stmt} {t : List Stmt} (_ : lawLoop = b0 :: b1 :: b2 :: b3 :: b4 :: b5 :: b6 :: b7 :: t) : List Stmt := t
noncomputable def loop8 : List Stmt := pick8 rfl
noncomputable def pick9 {b0 b1 : Stmt} {t : List Stmt} (_ : loop8 = b0 :: b1 :: t) : List Stmt := b1 :: t
noncomputable def loop9 : List Stmt := pick9 rfl
noncomputable abbrev LC (prog : Program) (w : World) (mean : ExcName → Option Value) (mg mb : Str → Option Value) (qual : Str) (f : Addr) (cdv : Value) (s : Shared) : Ctx (G0 prog w mean mg mb) := Ctx.top (G0 prog w mean mg mb) qual lawScope f cdv s
/-! what the law draws -/
noncomputable def wayF (x i : Nat) : Nat := if i < 2 ∧ x % 7 ≠ 5 then (if i = 0 then 13 else 7) else x % 16
noncomputable def idxF (w y base last : Nat) : Nat := if w = 12 then (if y % 2 = 0 then last + 2 else base) else if w = 11 ∧ last > base then base + 1 + y % (last - base) else last + 1
noncomputable def dataF (y : Nat) : List UInt8 := List.replicate (y / 6 % 3) (y % 256).toUInt8
noncomputable def isEnt (w y i : Nat) : Bool := decide (w < 7 ∨ w = 11 ∨ w = 12 ∨ (w = 15 ∧ i > 1 ∧ y % 2 = 0))
noncomputable def isHard (w i : Nat) : Bool := decide (w < 11 ∨ (w = 15 ∧ i > 0))
noncomputable def rec0F (op : List UInt8) (w y i idx : Nat) : List UInt8 := if isEnt w y i then 2 :: encE (y % 200) idx (y / 3 % 2 * 2) (dataF y) else if isHard w i then encH (y % 200) (y / 7 % 4) (y / 28 % 9) else op
noncomputable def rec1F (r : List UInt8) (w y : Nat) : List UInt8 := if w = 14 then (if y % 2 = 0 then [] else [(5 + y / 2 % 251).toUInt8, 0, 0, 0]) else r
noncomputable def rec2F (r : List UInt8) (w y : Nat) : List UInt8 := if w = 15 then
    (if y / 2 % 3 = 0 then r.take (y / 2 / 3 % r.length) else if y / 2 % 3 = 1 then r ++ [(y / 2 / 3 % 256).toUInt8] else r.take (y / 2 / 3 % r.length) ++ [(y / 2 / 3 / r.length % 256).toUInt8] ++ r.drop (y / 2 / 3 % r.length + 1)) else r
noncomputable def recF (op : List UInt8) (x i base last : Nat) : List UInt8 :=
  rec2F (rec1F (rec0F op (wayF x i) (x / 16) i (idxF (wayF x i) (x / 16) base last)) (wayF x i) (x / 16)) (wayF x i) (x / 16)
theorem wr_join {g : Gl} {C : Ctx g} {ρ ρ₁ : Loc} {σ : Store} {Qn : Loc → Store → Prop} {t : Stmt} {ts : List Stmt} (h : WX C t ρ σ (fun ρ' σ' => Loc.Le ρ₁ ρ' ∧ Store.Le σ σ') (fun v _ => v = .bool true) False) (k : WR C (execs ts C.env) ρ₁ σ Qn) : WR C (execs (t :: ts) C.env) ρ σ Qn :=
  wr_step (h.mono (fun ρ' σ' ⟨a, b⟩ => k.le a b) (fun _ _ h => h) fun x => x)
theorem le_refl_store (σ : Store) : Store.Le σ σ := fun _ _ h => h
theorem dl_len {y : Nat} : (dataF y).length ≤ 2 := by unfold dataF; rw [List.length_replicate]; lia
theorem loopA {qual : Str} {f : Addr} {cdv : Value} {s₀ : Shared} {Qn : Loc → Store → Prop} {ns : List Nat} {op : List UInt8} {i base last : Nat} {st r : Addr} (room : (LC prog w mean mg mb qual f cdv s₀).Room 20) (h0 : ns ≠ []) (hl : ns.length ≤ 100) (hi : i < 100) (hop : 0 < op.length ∧ op.length ≤ 100) (hlast : last + 2 < 2 ^ 60) (hbase : base < 2 ^ 50)
    (k : ∀ w' y ix, w' = wayF (drawF ns (2 + i)) i → y = drawF ns (2 + i) / 16 → ix = idxF w' y base last → ix < 2 ^ 64 → WR (LC prog w mean mg mb qual f cdv s₀) (execs loop8 (LC prog w mean mg mb qual f cdv s₀).env) [("nums", .lst (natsV ns)), ("base", .int (base : Nat)), ("last", .int (last : Nat)), ("opening", .bytes op), ("state", .ref st), ("rows", .ref r), ("i", .int (i : Nat)), ("y", .int (y : Nat)), ("way", .int (w' : Nat)), ("index", .int (ix : Nat)), ("record", .bytes op)] σ Qn) :
    WR (LC prog w mean mg mb qual f cdv s₀) (execs lawLoop (LC prog w mean mg mb qual f cdv s₀).env) [("nums", .lst (natsV ns)), ("base", .int (base : Nat)), ("last", .int (last : Nat)), ("opening", .bytes op), ("state", .ref st), ("rows", .ref r), ("i", .int (i : Nat))] σ Qn := by
  unfold lawLoop pickFor
  refine wr_step ?_
  refine wx_assign ?_; refine e_call (by exact rfl) (by first | exact .builtin _ | exact .type _ | exact .K _ (by exact rfl)) (by exact rfl) ?_
  refine (s_draw (i := 2 + i) (room.le (by decide)) (fun _ _ => .lst) h0 hl (by lia) ?_).call
  generalize drawF ns (2 + i) = x at k ⊢
  refine wr_step ?_
  refine wx_assign ?_; refine k_bin ?_; refine we_pure 1 (by exact rfl) ?_; refine we_int ?_; refine wbin_mod (by first | decide | lia) ?_
  refine wr_step ?_
  refine wx_assign ?_; refine k_bin ?_; refine we_pure 1 (by exact rfl) ?_; refine we_int ?_; refine wbin_div (by first | decide | lia) (by first | decide | lia) ?_
  refine wr_join (ρ₁ := [("nums", .lst (natsV ns)), ("base", .int (base : Nat)), ("last", .int (last : Nat)), ("opening", .bytes op), ("state", .ref st), ("rows", .ref r), ("i", .int (i : Nat)), ("y", .int ((x / 16 : Nat) : Int)), ("way", .int (wayF x i : Nat))]) ?_ ?_
  · by_cases c : i < 2 ∧ x % 7 ≠ 5
    · obtain ⟨c1, c2⟩ := c
      refine wx_if ?_; refine t_and ?_; refine wtest_pcmp 4 (by exact rfl) ?_; refine ifT (dT (by lia)) ?_; refine a_and ?_; refine k_cmp ?_; refine k_bin ?_; refine we_pure 1 (by exact rfl) ?_; refine we_int ?_; refine wbin_mod (by first | decide | lia) ?_; refine we_int ?_; refine wcmp_ne ?_; refine wtru_bool ?_; refine ifT (bneT (by lia)) ?_; refine wall_and_nil ?_; refine ifT rfl ?_; refine x_assign ?_; refine k_sub ?_; refine we_list ?_; refine wargs_pure (by exact rfl) ?_; refine ⟨Nat.le_of_ble_eq_true rfl, ?_⟩
      intro a ha
      refine we_pure 1 (by exact rfl) ?_
      rcases (show i = 0 ∨ i = 1 by lia) with rfl | rfl
      · refine wsub_list (v := .int 13) (.ref (Store.set_self ..)) (by decide) (by decide) rfl ?_
        refine wxs_nil ?_
        have e : wayF x 0 = 13 := by unfold wayF; rw [if_pos ⟨c1, c2⟩, if_pos rfl]
        rw [e]
        exact ⟨by walk_at "lel", Store.le_set ha _⟩
      · refine wsub_list (v := .int 7) (.ref (Store.set_self ..)) (by decide) (by decide) rfl ?_
        refine wxs_nil ?_
        have e : wayF x 1 = 7 := by unfold wayF; rw [if_pos ⟨c1, c2⟩, if_neg (by decide)]
        rw [e]
        exact ⟨by walk_at "lel", Store.le_set ha _⟩
    · have e : wayF x i = x % 16 := by unfold wayF; rw [if_neg c]
      rw [e]
      by_cases c1 : i < 2
      · have c2 : x % 7 = 5 := by lia
        refine wx_if ?_; refine t_and ?_; refine wtest_pcmp 4 (by exact rfl) ?_; refine ifT (dT (by lia)) ?_; refine a_and ?_; refine k_cmp ?_; refine k_bin ?_; refine we_pure 1 (by exact rfl) ?_; refine we_int ?_; refine wbin_mod (by first | decide | lia) ?_; refine we_int ?_; refine wcmp_ne ?_; refine wtru_bool ?_; refine ifF (bneF (by lia)) ?_; refine ifF rfl ?_; refine wxs_nil ?_
        exact ⟨by walk_at "lel", le_refl_store _⟩
      · refine wx_if ?_; refine t_and ?_; refine wtest_pcmp 4 (by exact rfl) ?_; refine ifF (dF (by lia)) ?_; refine ifF rfl ?_; refine wxs_nil ?_
        exact ⟨by walk_at "lel", le_refl_store _⟩
  generalize hw' : wayF x i = w'
  generalize hy' : x / 16 = y
  refine wr_step ?_
  refine wx_assign ?_; refine we_pure 4 (by exact rfl) ?_
  refine wr_join (ρ₁ := [("nums", .lst (natsV ns)), ("base", .int (base : Nat)), ("last", .int (last : Nat)), ("opening", .bytes op), ("state", .ref st), ("rows", .ref r), ("i", .int (i : Nat)), ("y", .int (y : Nat)), ("way", .int (w' : Nat)), ("index", .int ((if w' = 11 ∧ last > base then base + 1 + y % (last - base) else last + 1 : Nat) : Int))]) ?_ ?_
  · by_cases c1 : w' = 11
    · by_cases c2 : last > base
      · rw [if_pos ⟨c1, c2⟩]
        refine wx_if ?_; refine t_and ?_; refine wtest_pcmp 4 (by exact rfl) ?_; refine ifT (beqT (by lia)) ?_; refine p_and_t (by exact rfl) (dT (by lia)) ?_; refine wall_and_nil ?_; refine ifT rfl ?_; refine x_assign ?_; refine k_bin ?_; refine we_pure 4 (by exact rfl) ?_; refine k_bin ?_; refine we_pure 1 (by exact rfl) ?_; refine we_pure 4 (by exact rfl) ?_; refine wbin_mod (by first | decide | lia) ?_; refine wbin_add ?_; refine wxs_nil ?_
        have e : (base : Int) + 1 + (y : Int) % ((last : Int) - (base : Int)) = ((base + 1 + y % (last - base) : Nat) : Int) := by
          have : (last : Int) - (base : Int) = ((last - base : Nat) : Int) := by lia
          rw [this]
          rfl
        rw [e]
        exact ⟨by walk_at "lel", le_refl_store _⟩
      · rw [if_neg (by lia)]
        refine wx_if ?_; refine t_and ?_; refine wtest_pcmp 4 (by exact rfl) ?_; refine ifT (beqT (by lia)) ?_; refine p_and_f (by exact rfl) (dF (by lia)) ?_; refine ifF rfl ?_; refine wxs_nil ?_
        exact ⟨by walk_at "lel", le_refl_store _⟩
    · rw [if_neg (by lia)]
      refine wx_if ?_; refine t_and ?_; refine wtest_pcmp 4 (by exact rfl) ?_; refine ifF (beqF (by lia)) ?_; refine ifF rfl ?_; refine wxs_nil ?_
      exact ⟨by walk_at "lel", le_refl_store _⟩
  refine wr_join (ρ₁ := [("nums", .lst (natsV ns)), ("base", .int (base : Nat)), ("last", .int (last : Nat)), ("opening", .bytes op), ("state", .ref st), ("rows", .ref r), ("i", .int (i : Nat)), ("y", .int (y : Nat)), ("way", .int (w' : Nat)), ("index", .int (idxF w' y base last : Nat))]) ?_ ?_
  · unfold idxF
    by_cases c1 : w' = 12
    · rw [if_pos c1]
      refine wx_if ?_; refine wtest_pcmp 4 (by exact rfl) ?_; refine ifT (beqT (by lia)) ?_; refine x_assign ?_; refine k_sub ?_; refine we_list ?_; refine wargs_pure (by exact rfl) ?_; refine ⟨Nat.le_of_ble_eq_true rfl, ?_⟩
      intro a ha
      refine k_bin ?_; refine we_pure 1 (by exact rfl) ?_; refine we_int ?_; refine wbin_mod (by first | decide | lia) ?_
      by_cases c2 : y % 2 = 0
      · rw [if_pos c2]
        refine wsub_list (v := .int ((last : Int) + 2)) (.ref (Store.set_self ..)) (by lia) (by lia) (by rw [show ((y : Int) % 2).toNat = 0 by lia]; rfl) ?_
        refine wxs_nil ?_
        exact ⟨by walk_at "lel", Store.le_set ha _⟩
      · rw [if_neg c2]
        refine wsub_list (v := .int (base : Int)) (.ref (Store.set_self ..)) (by lia) (by lia) (by rw [show ((y : Int) % 2).toNat = 1 by lia]; rfl) ?_
        refine wxs_nil ?_
        exact ⟨by walk_at "lel", Store.le_set ha _⟩
    · rw [if_neg c1]
      refine wx_if ?_; refine wtest_pcmp 4 (by exact rfl) ?_; refine ifF (beqF (by lia)) ?_; refine wxs_nil ?_
      exact ⟨by walk_at "lel", le_refl_store _⟩
  have hidx : idxF w' y base last < 2 ^ 64 := by
    unfold idxF
    have h1 : y % (last - base) < last - base ∨ last ≤ base := by
      rcases Nat.lt_or_ge base last with h | h
      · exact .inl (Nat.mod_lt _ (by lia))
      · exact .inr h
    split
    · split <;> lia
    · split <;> lia
  generalize hix : idxF w' y base last = ix at hidx ⊢
  refine wr_step ?_
  refine wx_assign ?_; refine we_pure 1 (by exact rfl) ?_
  exact (k w' y ix hw'.symm hy'.symm hix.symm hidx).le (by walk_at "lel") (le_refl_store _)

end
section
variable {prog : Program} {w : World} {mean : ExcName → Option Value} {mg mb : Str → Option Value} {C : Ctx (G0 prog w mean mg mb)} {ρ : Loc} {σ : Store} {Q Qr : V → Store → Prop} {Qn : Loc → Store → Prop} {X : Prop}
theorem WTest.mono {g : Gl} {C : Ctx g} {e : Expr} {ρ : Loc} {σ : Store} {Q' Q'' : Bool → Store → Prop} {X : Prop} (h : WTest C e ρ σ Q' X) (k : ∀ b σ', Q' b σ' → Q'' b σ') : WTest C e ρ σ Q'' X := fun ok fz hid s Qc Ec st hQ hX =>
  h ok fz hid s Qc Ec st (fun b σ' fz' s' f q st' => hQ b σ' fz' s' f (k _ _ q) st') hX
/-- a test whose answer is known as one bool -/
theorem wtest_is {g : Gl} {C : Ctx g} {e : Expr} {ρ : Loc} {σ : Store} {Q' : Bool → Store → Prop} {X : Prop} (c : Bool) (h : WTest C e ρ σ (fun b σ' => b = c ∧ σ' = σ) X) (k : Q' c σ) : WTest C e ρ σ Q' X := h.mono fun b σ' ⟨a, b⟩ => by
  subst a b; exact k
theorem loop8w {qual : Str} {f : Addr} {cdv : Value} {s₀ : Shared} {Qn : Loc → Store → Prop} {ns : List Nat} {op : List UInt8} {i base last y w' ix : Nat} {st r : Addr} (room : (LC prog w mean mg mb qual f cdv s₀).Room 20) (hi : i < 100) (hop : 0 < op.length ∧ op.length ≤ 100) (hix : ix < 2 ^ 64)
    (k : WR (LC prog w mean mg mb qual f cdv s₀) (execs loop9 (LC prog w mean mg mb qual f cdv s₀).env) [("nums", .lst (natsV ns)), ("base", .int (base : Nat)), ("last", .int (last : Nat)), ("opening", .bytes op), ("state", .ref st), ("rows", .ref r), ("i", .int (i : Nat)), ("y", .int (y : Nat)), ("way", .int (w' : Nat)), ("record", .bytes (rec0F op w' y i ix))] σ Qn) :
    WR (LC prog w mean mg mb qual f cdv s₀) (execs loop8 (LC prog w mean mg mb qual f cdv s₀).env) [("nums", .lst (natsV ns)), ("base", .int (base : Nat)), ("last", .int (last : Nat)), ("opening", .bytes op), ("state", .ref st), ("rows", .ref r), ("i", .int (i : Nat)), ("y", .int (y : Nat)), ("way", .int (w' : Nat)), ("index", .int (ix : Nat)), ("record", .bytes op)] σ Qn := by
  unfold loop8 pick8
  refine wr_join (ρ₁ := [("nums", .lst (natsV ns)), ("base", .int (base : Nat)), ("last", .int (last : Nat)), ("opening", .bytes op), ("state", .ref st), ("rows", .ref r), ("i", .int (i : Nat)), ("y", .int (y : Nat)), ("way", .int (w' : Nat)), ("record", .bytes (rec0F op w' y i ix))]) ?_ k
  refine wx_if (wtest_is (isEnt w' y i) ?_ ?_)
  · unfold isEnt
    by_cases c1 : w' < 7
    · rw [dT (.inl c1)]
      refine t_or ?_; refine wtest_pcmp 4 (by exact rfl) ?_; refine ifT (dT (by lia)) ?_
      exact ⟨rfl, rfl⟩
    by_cases c2 : w' = 11
    · rw [dT (.inr (.inl c2))]
      refine t_or ?_; refine wtest_pcmp 4 (by exact rfl) ?_; refine ifF (dF (by lia)) ?_; refine p_or_t (by exact rfl) (beqT (by lia)) ?_
      exact ⟨rfl, rfl⟩
    by_cases c3 : w' = 12
    · rw [dT (.inr (.inr (.inl c3)))]
      refine t_or ?_; refine wtest_pcmp 4 (by exact rfl) ?_; refine ifF (dF (by lia)) ?_; refine p_or_f (by exact rfl) (beqF (by lia)) ?_; refine p_or_t (by exact rfl) (beqT (by lia)) ?_
      exact ⟨rfl, rfl⟩
    by_cases c4 : w' = 15
    · by_cases c5 : i > 1
      · by_cases c6 : y % 2 = 0
        · rw [dT (.inr (.inr (.inr ⟨c4, c5, c6⟩)))]
          refine t_or ?_; refine wtest_pcmp 4 (by exact rfl) ?_; refine ifF (dF (by lia)) ?_; refine p_or_f (by exact rfl) (beqF (by lia)) ?_; refine p_or_f (by exact rfl) (beqF (by lia)) ?_; refine a_or ?_; refine t_and ?_; refine wtest_pcmp 4 (by exact rfl) ?_; refine ifT (beqT (by lia)) ?_; refine p_and_t (by exact rfl) (dT (by lia)) ?_; refine a_and ?_; refine k_cmp ?_; refine k_bin ?_; refine we_pure 1 (by exact rfl) ?_; refine we_int ?_; refine wbin_mod (by first | decide | lia) ?_; refine we_int ?_; refine wcmp_eq ?_; refine wtru_bool ?_; refine ifT (beqT (by lia)) ?_; refine wall_and_nil ?_; refine ifT rfl ?_
          exact ⟨rfl, rfl⟩
        · rw [dF (by lia)]
          refine t_or ?_; refine wtest_pcmp 4 (by exact rfl) ?_; refine ifF (dF (by lia)) ?_; refine p_or_f (by exact rfl) (beqF (by lia)) ?_; refine p_or_f (by exact rfl) (beqF (by lia)) ?_; refine a_or ?_; refine t_and ?_; refine wtest_pcmp 4 (by exact rfl) ?_; refine ifT (beqT (by lia)) ?_; refine p_and_t (by exact rfl) (dT (by lia)) ?_; refine a_and ?_; refine k_cmp ?_; refine k_bin ?_; refine we_pure 1 (by exact rfl) ?_; refine we_int ?_; refine wbin_mod (by first | decide | lia) ?_; refine we_int ?_; refine wcmp_eq ?_; refine wtru_bool ?_; refine ifF (beqF (by lia)) ?_; refine ifF rfl ?_; refine wall_or_nil ?_
          exact ⟨rfl, rfl⟩
      · rw [dF (by lia)]
        refine t_or ?_; refine wtest_pcmp 4 (by exact rfl) ?_; refine ifF (dF (by lia)) ?_; refine p_or_f (by exact rfl) (beqF (by lia)) ?_; refine p_or_f (by exact rfl) (beqF (by lia)) ?_; refine a_or ?_; refine t_and ?_; refine wtest_pcmp 4 (by exact rfl) ?_; refine ifT (beqT (by lia)) ?_; refine p_and_f (by exact rfl) (dF (by lia)) ?_; refine ifF rfl ?_; refine wall_or_nil ?_
        exact ⟨rfl, rfl⟩
    · rw [dF (by lia)]
      refine t_or ?_; refine wtest_pcmp 4 (by exact rfl) ?_; refine ifF (dF (by lia)) ?_; refine p_or_f (by exact rfl) (beqF (by lia)) ?_; refine p_or_f (by exact rfl) (beqF (by lia)) ?_; refine a_or ?_; refine t_and ?_; refine wtest_pcmp 4 (by exact rfl) ?_; refine ifF (beqF (by lia)) ?_; refine ifF rfl ?_; refine wall_or_nil ?_
      exact ⟨rfl, rfl⟩
  cases he : isEnt w' y i with
  | true =>
    have e0 : rec0F op w' y i ix = 2 :: encE (y % 200) ix (y / 3 % 2 * 2) (dataF y) := by unfold rec0F; rw [if_pos he]
    rw [e0]
    refine ifT rfl ?_
    refine x_assign ?_; refine k_call ?_; refine we_b_bytes (by exact rfl) ?_; refine ⟨(by first | exact .builtin _ | exact .type _ | exact .K _ (by exact rfl)), ?_⟩; refine k_args ?_; refine k_bin ?_; refine we_list ?_; refine k_args ?_; refine k_bin ?_; refine we_pure 1 (by exact rfl) ?_; refine we_int ?_; refine wbin_mod (by first | decide | lia) ?_; refine wargs_pure (by exact rfl) ?_; refine ⟨Nat.le_of_ble_eq_true rfl, ?_⟩
    intro a ha
    refine k_bin ?_; refine k_bin ?_; refine we_pure 1 (by exact rfl) ?_; refine we_int ?_; refine wbin_div (by first | decide | lia) (by first | decide | lia) ?_; refine we_int ?_; refine wbin_mod (by first | decide | lia) ?_
    refine wbin_list_mul (.ref (Store.set_self ..)) (by lia) (by simp; lia) (by lia) fun b hb => ?_
    refine wargs_pure (by exact rfl) ?_
    have el : (List.replicate ((y : Int) / 6 % 3).toNat [V.int ((y : Int) % 256)]).flatten = (List.replicate (y / 6 % 3) (((y % 256 : Nat)) : Int)).map V.int := by
      rw [show ((y : Int) / 6 % 3).toNat = y / 6 % 3 by lia]
      simp
    rw [el]
    have hle2 : Store.Le σ ((σ.set a (.list [V.int ((y : Int) % 256)])).set b (.list ((List.replicate (y / 6 % 3) (((y % 256 : Nat)) : Int)).map V.int))) := (Store.le_set ha _).trans (Store.le_set hb _)
    refine wcall_bytes_ints (ns := List.replicate (y / 6 % 3) (((y % 256 : Nat)) : Int)) (.ref (Store.set_self ..)) (fun n hn => by rw [(List.mem_replicate.mp hn).2]; lia) (by rw [List.length_replicate]; lia) ?_
    have ed : ((List.replicate (y / 6 % 3) (((y % 256 : Nat)) : Int)).map fun n => n.toNat.toUInt8) = dataF y := by unfold dataF; rw [List.map_replicate]; rfl
    rw [ed]
    have hdl := dl_len (y := y)
    generalize hσ2 : (σ.set a (.list [V.int ((y : Int) % 256)])).set b (.list ((List.replicate (y / 6 % 3) (((y % 256 : Nat)) : Int)).map V.int)) = σ2 at hle2 ⊢
    refine x_assign ?_; refine k_bin ?_; refine k_bin ?_; refine k_bin ?_; refine k_call ?_; refine we_b_bytes (by exact rfl) ?_; refine ⟨(by first | exact .builtin _ | exact .type _ | exact .K _ (by exact rfl)), ?_⟩; refine k_args ?_; refine we_list ?_; refine wargs_pure (by exact rfl) ?_; refine ⟨Nat.le_of_ble_eq_true rfl, ?_⟩
    intro a2 ha2
    have hle3 := hle2.trans (Store.le_set ha2 (.list [V.int 2]))
    refine wargs_pure (by exact rfl) ?_
    refine wcall_bytes_ints (ns := [2]) (.ref (Store.set_self ..)) (by simp) (Nat.le_of_ble_eq_true rfl) ?_
    refine k_call ?_; refine we_pure 1 (by exact rfl) ?_; refine ⟨(by first | exact .builtin _ | exact .type _ | exact .K _ (by exact rfl)), ?_⟩; refine k_args ?_; refine k_bin ?_; refine we_pure 1 (by exact rfl) ?_; refine we_int ?_; refine wbin_mod (by first | decide | lia) ?_; refine wargs_pure (by exact rfl) ?_
    have l1 : (leb (y % 200)).length ≤ 10 := leb10 (by lia)
    have l2 : (leb ix).length ≤ 10 := leb10 hix
    have l3 : (leb (y / 3 % 2 * 2)).length ≤ 10 := leb10 (by lia)
    have l4 : (leb (dataF y).length).length ≤ 10 := leb10 (by lia)
    refine (s_lput (n := y % 200) (room.le (by decide)) (by lia) ?_).call
    refine wbin_bytes (by simp; lia) ?_
    refine e_call (by exact rfl) (by first | exact .builtin _ | exact .type _ | exact .K _ (by exact rfl)) (by exact rfl) ?_
    refine (s_lput (n := ix) (room.le (by decide)) hix ?_).call
    refine wbin_bytes (by simp; lia) ?_
    refine k_call ?_; refine we_pure 1 (by exact rfl) ?_; refine ⟨(by first | exact .builtin _ | exact .type _ | exact .K _ (by exact rfl)), ?_⟩; refine k_args ?_; refine k_bin ?_; refine k_bin ?_; refine k_bin ?_; refine we_pure 1 (by exact rfl) ?_; refine we_int ?_; refine wbin_div (by first | decide | lia) (by first | decide | lia) ?_; refine we_int ?_; refine wbin_mod (by first | decide | lia) ?_; refine we_int ?_
    refine wbin_mul (by lia) ?_
    refine wargs_pure (by exact rfl) ?_
    refine (s_lput (n := y / 3 % 2 * 2) (room.le (by decide)) (by lia) ?_).call
    refine wbin_bytes (by simp; lia) ?_
    refine x_assign ?_; refine k_bin ?_; refine k_bin ?_; refine we_pure 1 (by exact rfl) ?_; refine k_call ?_; refine we_pure 1 (by exact rfl) ?_; refine ⟨(by first | exact .builtin _ | exact .type _ | exact .K _ (by exact rfl)), ?_⟩; refine k_args ?_; refine k_call ?_; refine we_b_len (by exact rfl) ?_; refine ⟨(by first | exact .builtin _ | exact .type _ | exact .K _ (by exact rfl)), ?_⟩; refine wargs_pure (by exact rfl) ?_; refine wlen_bytes (by first | assumption | lia) ?_; refine wargs_pure (by exact rfl) ?_
    refine (s_lput (n := (dataF y).length) (room.le (by decide)) (by lia) ?_).call
    refine wbin_bytes (by simp; lia) ?_
    refine we_pure 1 (by exact rfl) ?_
    refine wbin_bytes (by simp; lia) ?_
    refine x_if ?_; refine k_cmp ?_; refine k_call ?_; refine we_pure 1 (by exact rfl) ?_; refine ⟨(by first | exact .builtin _ | exact .type _ | exact .K _ (by exact rfl)), ?_⟩; refine k_args ?_; refine k_call ?_; refine we_pure 1 (by exact rfl) ?_; refine ⟨(by first | exact .builtin _ | exact .type _ | exact .K _ (by exact rfl)), ?_⟩; refine k_args ?_; refine k_bin ?_; refine we_pure 1 (by exact rfl) ?_; refine we_int ?_; refine wbin_mod (by first | decide | lia) ?_; refine k_args ?_; refine we_pure 1 (by exact rfl) ?_; refine k_args ?_; refine k_bin ?_; refine k_bin ?_; refine k_bin ?_; refine we_pure 1 (by exact rfl) ?_; refine we_int ?_; refine wbin_div (by first | decide | lia) (by first | decide | lia) ?_; refine we_int ?_; refine wbin_mod (by first | decide | lia) ?_; refine we_int ?_
    refine wbin_mul (by lia) ?_
    refine wargs_pure (by exact rfl) ?_
    refine s_Entry (t := y % 200) (i := ix) (k := y / 3 % 2 * 2) (d := dataF y) (room.le (by decide)) ?_
    refine wargs_pure (by exact rfl) ?_
    refine (s_entry_record (by exact rfl) (room.le (by decide)) (by lia) hix (by lia) (by lia) ?_).call
    refine we_pure 1 (by exact rfl) ?_
    refine wcmp_bytes_ne ?_
    have er : List.map (fun n : Int => n.toNat.toUInt8) [2] ++ leb (y % 200) ++ leb ix ++ leb (y / 3 % 2 * 2) ++ leb (dataF y).length ++ dataF y = 2 :: encE (y % 200) ix (y / 3 % 2 * 2) (dataF y) := by unfold encE; simp
    rw [er]
    refine wtru_bool ?_
    refine ifF (by simp) ?_
    refine wxs_nil ?_; refine wxs_nil ?_
    exact ⟨by walk_at "lel", hle3⟩
  | false =>
    refine ifF rfl ?_
    have e0 : rec0F op w' y i ix = if isHard w' i then encH (y % 200) (y / 7 % 4) (y / 28 % 9) else op := by unfold rec0F; rw [if_neg (by rw [he]; decide)]
    rw [e0]
    refine wxs_cons (wx_if (wtest_is (isHard w' i) ?_ ?_))
    · unfold isHard
      by_cases c1 : w' < 11
      · rw [dT (.inl c1)]
        refine t_or ?_; refine wtest_pcmp 4 (by exact rfl) ?_; refine ifT (dT (by lia)) ?_
        exact ⟨rfl, rfl⟩
      by_cases c4 : w' = 15
      · by_cases c5 : i > 0
        · rw [dT (.inr ⟨c4, c5⟩)]
          refine t_or ?_; refine wtest_pcmp 4 (by exact rfl) ?_; refine ifF (dF (by lia)) ?_; refine a_or ?_; refine t_and ?_; refine wtest_pcmp 4 (by exact rfl) ?_; refine ifT (beqT (by lia)) ?_; refine p_and_t (by exact rfl) (dT (by lia)) ?_; refine wall_and_nil ?_; refine ifT rfl ?_
          exact ⟨rfl, rfl⟩
        · rw [dF (by lia)]
          refine t_or ?_; refine wtest_pcmp 4 (by exact rfl) ?_; refine ifF (dF (by lia)) ?_; refine a_or ?_; refine t_and ?_; refine wtest_pcmp 4 (by exact rfl) ?_; refine ifT (beqT (by lia)) ?_; refine p_and_f (by exact rfl) (dF (by lia)) ?_; refine ifF rfl ?_; refine wall_or_nil ?_
          exact ⟨rfl, rfl⟩
      · rw [dF (by lia)]
        refine t_or ?_; refine wtest_pcmp 4 (by exact rfl) ?_; refine ifF (dF (by lia)) ?_; refine a_or ?_; refine t_and ?_; refine wtest_pcmp 4 (by exact rfl) ?_; refine ifF (beqF (by lia)) ?_; refine ifF rfl ?_; refine wall_or_nil ?_
        exact ⟨rfl, rfl⟩
    cases hh : isHard w' i with
    | true =>
      rw [show (if true = true then encH (y % 200) (y / 7 % 4) (y / 28 % 9) else op) = encH (y % 200) (y / 7 % 4) (y / 28 % 9) from rfl]
      refine ifT rfl ?_
      refine x_assign ?_; refine k_bin ?_; refine k_bin ?_; refine k_bin ?_; refine k_call ?_; refine we_b_bytes (by exact rfl) ?_; refine ⟨(by first | exact .builtin _ | exact .type _ | exact .K _ (by exact rfl)), ?_⟩; refine k_args ?_; refine we_list ?_; refine wargs_pure (by exact rfl) ?_; refine ⟨Nat.le_of_ble_eq_true rfl, ?_⟩
      intro a2 ha2
      have hle3 := Store.le_set ha2 (.list [V.int 1])
      refine wargs_pure (by exact rfl) ?_
      refine wcall_bytes_ints (ns := [1]) (.ref (Store.set_self ..)) (by simp) (Nat.le_of_ble_eq_true rfl) ?_
      refine k_call ?_; refine we_pure 1 (by exact rfl) ?_; refine ⟨(by first | exact .builtin _ | exact .type _ | exact .K _ (by exact rfl)), ?_⟩; refine k_args ?_; refine k_bin ?_; refine we_pure 1 (by exact rfl) ?_; refine we_int ?_; refine wbin_mod (by first | decide | lia) ?_; refine wargs_pure (by exact rfl) ?_
      have l1 : (leb (y % 200)).length ≤ 10 := leb10 (by lia)
      have l2 : (leb (y / 7 % 4)).length ≤ 10 := leb10 (by lia)
      have l3 : (leb (y / 28 % 9)).length ≤ 10 := leb10 (by lia)
      refine (s_lput (n := y % 200) (room.le (by decide)) (by lia) ?_).call
      refine wbin_bytes (by simp; lia) ?_
      refine k_call ?_; refine we_pure 1 (by exact rfl) ?_; refine ⟨(by first | exact .builtin _ | exact .type _ | exact .K _ (by exact rfl)), ?_⟩; refine k_args ?_; refine k_bin ?_; refine k_bin ?_; refine we_pure 1 (by exact rfl) ?_; refine we_int ?_; refine wbin_div (by first | decide | lia) (by first | decide | lia) ?_; refine we_int ?_; refine wbin_mod (by first | decide | lia) ?_; refine wargs_pure (by exact rfl) ?_
      refine (s_lput (n := y / 7 % 4) (room.le (by decide)) (by lia) ?_).call
      refine wbin_bytes (by simp; lia) ?_
      refine k_call ?_; refine we_pure 1 (by exact rfl) ?_; refine ⟨(by first | exact .builtin _ | exact .type _ | exact .K _ (by exact rfl)), ?_⟩; refine k_args ?_; refine k_bin ?_; refine k_bin ?_; refine we_pure 1 (by exact rfl) ?_; refine we_int ?_; refine wbin_div (by first | decide | lia) (by first | decide | lia) ?_; refine we_int ?_; refine wbin_mod (by first | decide | lia) ?_; refine wargs_pure (by exact rfl) ?_
      refine (s_lput (n := y / 28 % 9) (room.le (by decide)) (by lia) ?_).call
      refine wbin_bytes (by simp; lia) ?_
      refine x_if ?_; refine k_cmp ?_; refine k_call ?_; refine we_pure 1 (by exact rfl) ?_; refine ⟨(by first | exact .builtin _ | exact .type _ | exact .K _ (by exact rfl)), ?_⟩; refine k_args ?_; refine k_call ?_; refine we_pure 1 (by exact rfl) ?_; refine ⟨(by first | exact .builtin _ | exact .type _ | exact .K _ (by exact rfl)), ?_⟩; refine k_args ?_; refine k_bin ?_; refine we_pure 1 (by exact rfl) ?_; refine we_int ?_; refine wbin_mod (by first | decide | lia) ?_; refine k_args ?_; refine k_bin ?_; refine k_bin ?_; refine we_pure 1 (by exact rfl) ?_; refine we_int ?_; refine wbin_div (by first | decide | lia) (by first | decide | lia) ?_; refine we_int ?_; refine wbin_mod (by first | decide | lia) ?_; refine k_args ?_; refine k_bin ?_; refine k_bin ?_; refine we_pure 1 (by exact rfl) ?_; refine we_int ?_; refine wbin_div (by first | decide | lia) (by first | decide | lia) ?_; refine we_int ?_; refine wbin_mod (by first | decide | lia) ?_; refine wargs_pure (by exact rfl) ?_
      refine s_HardState (t := y % 200) (v := y / 7 % 4) (c := y / 28 % 9) (room.le (by decide)) ?_
      refine wargs_pure (by exact rfl) ?_
      refine (s_hard_record (by exact rfl) (room.le (by decide)) (by lia) (by lia) (by lia) ?_).call
      refine we_pure 1 (by exact rfl) ?_
      refine wcmp_bytes_ne ?_
      have er : List.map (fun n : Int => n.toNat.toUInt8) [1] ++ leb (y % 200) ++ leb (y / 7 % 4) ++ leb (y / 28 % 9) = encH (y % 200) (y / 7 % 4) (y / 28 % 9) := by unfold encH; simp
      rw [er]
      refine wtru_bool ?_
      refine ifF (by simp) ?_
      refine wxs_nil ?_; refine wxs_nil ?_; refine wxs_nil ?_
      exact ⟨by walk_at "lel", hle3⟩
    | false =>
      rw [show (if false = true then encH (y % 200) (y / 7 % 4) (y / 28 % 9) else op) = op from rfl]
      refine ifF rfl ?_
      refine wxs_nil ?_; refine wxs_nil ?_
      exact ⟨by walk_at "lel", le_refl_store _⟩

end
section
variable {prog : Program} {w : World} {mean : ExcName → Option Value} {mg mb : Str → Option Value} {C : Ctx (G0 prog w mean mg mb)} {ρ : Loc} {σ : Store} {Q Qr : V → Store → Prop} {Qn : Loc → Store → Prop} {X : Prop}
theorem rec0_len {op : List UInt8} {w y i ix : Nat} (hop : 0 < op.length ∧ op.length ≤ 100) (hix : ix < 2 ^ 64) : 0 < (rec0F op w y i ix).length ∧ (rec0F op w y i ix).length ≤ 100 := by
  unfold rec0F
  have l1 : (leb (y % 200)).length ≤ 10 := leb10 (by lia)
  have l2 : (leb ix).length ≤ 10 := leb10 hix
  have l3 : (leb (y / 3 % 2 * 2)).length ≤ 10 := leb10 (by lia)
  have h2 := dl_len (y := y)
  have l4 : (leb (dataF y).length).length ≤ 10 := leb10 (by lia)
  have l5 : (leb (y / 7 % 4)).length ≤ 10 := leb10 (by lia)
  have l6 : (leb (y / 28 % 9)).length ≤ 10 := leb10 (by lia)
  split
  · unfold encE; simp; lia
  · split
    · unfold encH; simp; lia
    · exact hop
theorem loop9w {qual : Str} {f : Addr} {cdv : Value} {s₀ : Shared} {Qn : Loc → Store → Prop} {ns : List Nat} {op r0 : List UInt8} {i base last y w' : Nat} {st r : Addr} (hr : 0 < r0.length ∧ r0.length ≤ 100)
    (k : WR (LC prog w mean mg mb qual f cdv s₀) (execs loopB (LC prog w mean mg mb qual f cdv s₀).env) [("nums", .lst (natsV ns)), ("base", .int (base : Nat)), ("last", .int (last : Nat)), ("opening", .bytes op), ("state", .ref st), ("rows", .ref r), ("i", .int (i : Nat)), ("record", .bytes (rec2F (rec1F r0 w' y) w' y))] σ Qn) :
    WR (LC prog w mean mg mb qual f cdv s₀) (execs loop9 (LC prog w mean mg mb qual f cdv s₀).env) [("nums", .lst (natsV ns)), ("base", .int (base : Nat)), ("last", .int (last : Nat)), ("opening", .bytes op), ("state", .ref st), ("rows", .ref r), ("i", .int (i : Nat)), ("y", .int (y : Nat)), ("way", .int (w' : Nat)), ("record", .bytes r0)] σ Qn := by
  unfold loop9 pick9
  refine wr_join (ρ₁ := [("nums", .lst (natsV ns)), ("base", .int (base : Nat)), ("last", .int (last : Nat)), ("opening", .bytes op), ("state", .ref st), ("rows", .ref r), ("i", .int (i : Nat)), ("y", .int (y : Nat)), ("way", .int (w' : Nat)), ("record", .bytes (rec1F r0 w' y))]) ?_ ?_
  · by_cases c : w' = 14
    · refine wx_if ?_; refine wtest_pcmp 4 (by exact rfl) ?_; refine ifT (beqT (by lia)) ?_; refine x_assign ?_; refine k_sub ?_; refine we_list ?_; refine k_args ?_; refine we_bytes ?_; refine k_args ?_; refine k_call ?_; refine we_b_bytes (by exact rfl) ?_; refine ⟨(by first | exact .builtin _ | exact .type _ | exact .K _ (by exact rfl)), ?_⟩; refine k_args ?_; refine we_list ?_; refine k_args ?_; refine k_bin ?_; refine we_int ?_; refine k_bin ?_; refine k_bin ?_; refine we_pure 1 (by exact rfl) ?_; refine we_int ?_; refine wbin_div (by first | decide | lia) (by first | decide | lia) ?_; refine we_int ?_; refine wbin_mod (by first | decide | lia) ?_; refine wbin_add ?_; refine wargs_pure (by exact rfl) ?_; refine ⟨Nat.le_of_ble_eq_true rfl, ?_⟩
      intro a ha
      refine wargs_pure (by exact rfl) ?_
      refine wcall_bytes_ints (ns := [(5 : Int) + (y : Int) / 2 % 251, 0, 0, 0]) (.ref (Store.set_self ..)) (by simp; lia) (Nat.le_of_ble_eq_true rfl) ?_
      refine wargs_pure (by exact rfl) ?_; refine ⟨Nat.le_of_ble_eq_true rfl, ?_⟩
      intro b hb
      have hle := (Store.le_set ha (.list [V.int ((5 : Int) + (y : Int) / 2 % 251), V.int 0, V.int 0, V.int 0])).trans (Store.le_set hb (.list [V.bytes [], V.bytes (List.map (fun n : Int => n.toNat.toUInt8) [(5 : Int) + (y : Int) / 2 % 251, 0, 0, 0])]))
      refine k_bin ?_; refine we_pure 1 (by exact rfl) ?_; refine we_int ?_; refine wbin_mod (by first | decide | lia) ?_
      by_cases c2 : y % 2 = 0
      · have e : rec1F r0 w' y = [] := by unfold rec1F; rw [if_pos c, if_pos c2]
        rw [e]
        refine wsub_list (v := .bytes []) (.ref (Store.set_self ..)) (by lia) (by lia) (by rw [show ((y : Int) % 2).toNat = 0 by lia]; rfl) ?_
        refine wxs_nil ?_
        exact ⟨by walk_at "lel", hle⟩
      · have e : rec1F r0 w' y = List.map (fun n : Int => n.toNat.toUInt8) [(5 : Int) + (y : Int) / 2 % 251, 0, 0, 0] := by unfold rec1F; rw [if_pos c, if_neg c2]; rfl
        rw [e]
        refine wsub_list (v := .bytes (List.map (fun n : Int => n.toNat.toUInt8) [(5 : Int) + (y : Int) / 2 % 251, 0, 0, 0])) (.ref (Store.set_self ..)) (by lia) (by lia) (by rw [show ((y : Int) % 2).toNat = 1 by lia]; rfl) ?_
        refine wxs_nil ?_
        exact ⟨by walk_at "lel", hle⟩
    · have e : rec1F r0 w' y = r0 := by unfold rec1F; rw [if_neg c]
      rw [e]
      refine wx_if ?_; refine wtest_pcmp 4 (by exact rfl) ?_; refine ifF (beqF (by lia)) ?_; refine wxs_nil ?_
      exact ⟨by walk_at "lel", le_refl_store _⟩
  refine wr_join (ρ₁ := [("nums", .lst (natsV ns)), ("base", .int (base : Nat)), ("last", .int (last : Nat)), ("opening", .bytes op), ("state", .ref st), ("rows", .ref r), ("i", .int (i : Nat)), ("record", .bytes (rec2F (rec1F r0 w' y) w' y))]) ?_ k
  by_cases c : w' = 15
  · have e1 : rec1F r0 w' y = r0 := by unfold rec1F; rw [if_neg (by lia)]
    rw [e1]
    have hr2 : r0.length ≤ 16000000 := by lia
    have e2 : rec2F r0 w' y = if y / 2 % 3 = 0 then r0.take (y / 2 / 3 % r0.length) else if y / 2 % 3 = 1 then r0 ++ [(y / 2 / 3 % 256).toUInt8] else r0.take (y / 2 / 3 % r0.length) ++ [(y / 2 / 3 / r0.length % 256).toUInt8] ++ r0.drop (y / 2 / 3 % r0.length + 1) := by unfold rec2F; rw [if_pos c]
    have hpl : y / 2 / 3 % r0.length < r0.length := Nat.mod_lt _ hr.1
    have hnn : 0 ≤ (y : Int) / 2 / 3 % (r0.length : Int) := Int.emod_nonneg _ (by lia)
    refine wx_if ?_; refine wtest_pcmp 4 (by exact rfl) ?_; refine ifT (beqT (by lia)) ?_; refine x_assign ?_; refine k_bin ?_; refine we_pure 1 (by exact rfl) ?_; refine we_int ?_; refine wbin_div (by first | decide | lia) (by first | decide | lia) ?_; refine x_assign ?_; refine k_bin ?_; refine k_bin ?_; refine we_pure 1 (by exact rfl) ?_; refine we_int ?_; refine wbin_div (by first | decide | lia) (by first | decide | lia) ?_; refine k_call ?_; refine we_b_len (by exact rfl) ?_; refine ⟨(by first | exact .builtin _ | exact .type _ | exact .K _ (by exact rfl)), ?_⟩; refine wargs_pure (by exact rfl) ?_; refine wlen_bytes (by first | assumption | lia) ?_; refine wbin_mod (by first | decide | lia) ?_; refine x_if ?_; refine k_cmp ?_; refine k_bin ?_; refine we_pure 1 (by exact rfl) ?_; refine we_int ?_; refine wbin_mod (by first | decide | lia) ?_; refine we_int ?_; refine wcmp_eq ?_; refine wtru_bool ?_
    by_cases c1 : y / 2 % 3 = 0
    · rw [e2, if_pos c1]
      refine ifT (beqT (by lia)) ?_
      refine wxs_cons (wx_assign (we_slice_bytes ?_))
      refine we_pure 1 (by exact rfl) ?_; refine wpart_none ?_; refine wpart_some ?_; refine we_pure 1 (by exact rfl) ?_; refine ⟨_, rfl, ?_⟩; refine ⟨_, rfl, (by first | assumption | lia), (by intro i e; cases e; first | done | lia), (by intro i e; cases e; first | done | lia), ?_⟩; refine wxs_nil ?_; refine wxs_nil ?_
      have ec : cutL r0 none (some ((y : Int) / 2 / 3 % (r0.length : Int))) = r0.take (y / 2 / 3 % r0.length) := rfl
      rw [ec]
      exact ⟨by walk_at "lel", le_refl_store _⟩
    rw [e2, if_neg c1]
    refine ifF (beqF (by lia)) ?_
    refine x_if ?_; refine k_cmp ?_; refine k_bin ?_; refine we_pure 1 (by exact rfl) ?_; refine we_int ?_; refine wbin_mod (by first | decide | lia) ?_; refine we_int ?_; refine wcmp_eq ?_; refine wtru_bool ?_
    by_cases c2 : y / 2 % 3 = 1
    · rw [if_pos c2]
      refine ifT (beqT (by lia)) ?_
      refine x_assign ?_; refine k_bin ?_; refine we_pure 1 (by exact rfl) ?_; refine k_call ?_; refine we_b_bytes (by exact rfl) ?_; refine ⟨(by first | exact .builtin _ | exact .type _ | exact .K _ (by exact rfl)), ?_⟩; refine k_args ?_; refine we_list ?_; refine k_args ?_; refine k_bin ?_; refine k_bin ?_; refine we_pure 1 (by exact rfl) ?_; refine we_int ?_; refine wbin_div (by first | decide | lia) (by first | decide | lia) ?_; refine we_int ?_; refine wbin_mod (by first | decide | lia) ?_; refine wargs_pure (by exact rfl) ?_; refine ⟨Nat.le_of_ble_eq_true rfl, ?_⟩
      intro a ha
      refine wargs_pure (by exact rfl) ?_
      refine wcall_bytes_ints (ns := [(y : Int) / 2 / 3 % 256]) (.ref (Store.set_self ..)) (by simp; lia) (Nat.le_of_ble_eq_true rfl) ?_
      refine wbin_bytes (by simp; lia) ?_
      refine wxs_nil ?_; refine wxs_nil ?_; refine wxs_nil ?_
      have ec : r0 ++ List.map (fun n : Int => n.toNat.toUInt8) [(y : Int) / 2 / 3 % 256] = r0 ++ [(y / 2 / 3 % 256).toUInt8] := rfl
      rw [ec]
      exact ⟨by walk_at "lel", Store.le_set ha _⟩
    · rw [if_neg c2]
      refine ifF (beqF (by lia)) ?_
      refine wxs_cons (wx_assign (we_bin (we_bin (we_slice_bytes ?_))))
      refine we_pure 1 (by exact rfl) ?_; refine wpart_none ?_; refine wpart_some ?_; refine we_pure 1 (by exact rfl) ?_; refine ⟨_, rfl, ?_⟩; refine ⟨_, rfl, (by first | assumption | lia), (by intro i e; cases e; first | done | lia), (by intro i e; cases e; first | done | lia), ?_⟩; refine k_call ?_; refine we_b_bytes (by exact rfl) ?_; refine ⟨(by first | exact .builtin _ | exact .type _ | exact .K _ (by exact rfl)), ?_⟩; refine k_args ?_; refine we_list ?_; refine k_args ?_; refine k_bin ?_; refine k_bin ?_; refine k_bin ?_; refine we_pure 1 (by exact rfl) ?_; refine we_int ?_; refine wbin_div (by first | decide | lia) (by first | decide | lia) ?_; refine k_call ?_; refine we_b_len (by exact rfl) ?_; refine ⟨(by first | exact .builtin _ | exact .type _ | exact .K _ (by exact rfl)), ?_⟩; refine wargs_pure (by exact rfl) ?_; refine wlen_bytes (by first | assumption | lia) ?_; refine wbin_div (by first | decide | lia) (by first | decide | lia) ?_; refine we_int ?_; refine wbin_mod (by first | decide | lia) ?_; refine wargs_pure (by exact rfl) ?_; refine ⟨Nat.le_of_ble_eq_true rfl, ?_⟩
      have ec : cutL r0 none (some ((y : Int) / 2 / 3 % (r0.length : Int))) = r0.take (y / 2 / 3 % r0.length) := rfl
      rw [ec]
      intro a ha
      refine wargs_pure (by exact rfl) ?_
      refine wcall_bytes_ints (ns := [(y : Int) / 2 / 3 / (r0.length : Int) % 256]) (.ref (Store.set_self ..)) (by simp; lia) (Nat.le_of_ble_eq_true rfl) ?_
      refine wbin_bytes (by simp; lia) ?_
      refine we_slice_bytes ?_; refine we_pure 1 (by exact rfl) ?_; refine wpart_some ?_; refine we_pure 4 (by exact rfl) ?_; refine ⟨_, rfl, ?_⟩; refine wpart_none ?_; refine ⟨_, rfl, (by first | assumption | lia), (by intro i e; cases e; first | done | lia), (by intro i e; cases e; first | done | lia), ?_⟩
      have hcl := cutL_length r0 (some ((y : Int) / 2 / 3 % (r0.length : Int) + 1)) none
      refine wbin_bytes (by simp; lia) ?_
      refine wxs_nil ?_; refine wxs_nil ?_; refine wxs_nil ?_
      have ed : r0.take (y / 2 / 3 % r0.length) ++ List.map (fun n : Int => n.toNat.toUInt8) [(y : Int) / 2 / 3 / (r0.length : Int) % 256] ++ cutL r0 (some ((y : Int) / 2 / 3 % (r0.length : Int) + 1)) none = r0.take (y / 2 / 3 % r0.length) ++ [(y / 2 / 3 / r0.length % 256).toUInt8] ++ r0.drop (y / 2 / 3 % r0.length + 1) := rfl
      rw [ed]
      exact ⟨by walk_at "lel", Store.le_set ha _⟩
  · have e : rec2F (rec1F r0 w' y) w' y = rec1F r0 w' y := by unfold rec2F; rw [if_neg c]
    rw [e]
    refine wx_if ?_; refine wtest_pcmp 4 (by exact rfl) ?_; refine ifF (beqF (by lia)) ?_; refine wxs_nil ?_
    exact ⟨by walk_at "lel", le_refl_store _⟩

end
section
variable {prog : Program} {w : World} {mean : ExcName → Option Value} {mg mb : Str → Option Value} {C : Ctx (G0 prog w mean mg mb)} {ρ : Loc} {σ : Store} {Q Qr : V → Store → Prop} {Qn : Loc → Store → Prop} {X : Prop}
noncomputable def pickC {b0 b1 b2 b3 b4 b5 : Stmt} {t : List Stmt} (_ : loopB = b0 :: b1 :: b2 :: b3 :: b4 :: b5 :: t) : List Stmt := t
noncomputable def loopC : List Stmt := pickC rfl
theorem Seg.rebase {σ' : Store} {s d p r : Addr} {z : SS} {o o' : AObj} (k : Seg (Store.emp.set r o) σ' s d p z) : Seg (Store.emp.set r o') (σ'.set r o') s d p z := by
  have ne : ∀ a, (Store.emp.set r o) a = none → a ≠ r := fun a h q => by subst q; rw [Store.set_self] at h; cases h
  have no : ∀ a, a ≠ r → (Store.emp.set r o') a = none := fun a h => Store.set_ne _ _ h
  obtain ⟨e, g1, g2, g3, g4, g5⟩ := k.ex
  refine ⟨⟨e, (Store.set_ne _ _ (ne s k.ns)).trans g1, (Store.set_ne _ _ (ne e g5)).trans g2, g3, g4, no e (ne e g5)⟩, (Store.set_ne _ _ (ne p k.p0)).trans k.pe, k.pn, no p (ne p k.p0), fun a x h => ?_, no s (ne s k.ns)⟩
  by_cases ha : a = r
  · subst ha
    rw [Store.set_self] at h ⊢
    exact h
  · rw [Store.set_ne _ _ ha] at h; cases h
theorem Seg.rowsAt {σ' : Store} {s d p r : Addr} {z : SS} {o : AObj} (k : Seg (Store.emp.set r o) σ' s d p z) : σ' r = some o := k.le r o (Store.set_self ..)
noncomputable def Ent.T (e : Ent) : Nat × Nat × Nat × List UInt8 := (e.t, e.i, e.k, e.d)
/-- what the segment tells is what the law says -/
structure Told (rows : List Row) (z : SS) : Prop where
  ex : ∃ bi bt v l o x f rs, rows = .base bi bt [v, l, o, x] f :: rs ∧ z.count = rs.length + 1 ∧ z.bi = bi ∧ z.bt = bt ∧ z.conf = confV v l o x f ∧ (rise (zs v) = zs v ∧ rise (zs l) = zs l ∧ rise (zs o) = zs o ∧ rise (zs x) = zs x) ∧ (v.length ≤ 100 ∧ l.length ≤ 100 ∧ o.length ≤ 100 ∧ x.length ≤ 100) ∧
    (z.ht, z.hv, z.hc) = (SAY rs).hard ∧ z.es.map Ent.T = (SAY rs).stand ∧ z.ps.map Ent.T = (SAY rs).pending ∧ ∀ r ∈ rs, r.kind ≠ 4
theorem loopBw {qual : Str} {f : Addr} {cdv : Value} {s₀ : Shared} {Qn : Loc → Store → Prop} {ns : List Nat} {op rec : List UInt8} {i base last : Nat} {s d p r : Addr} {rows : List Row} {z : SS} (room : (LC prog w mean mg mb qual f cdv s₀).Room 20) (hi : i < 100)
    (hrec : rec.length < 64) (hrows : rows.length ≤ 90) (hb : rows = [] ∨ ∃ i t ls f rs, rows = .base i t ls f :: rs) (hz : z.es.length + z.ps.length ≤ 1000) (hps : ∀ e ∈ z.ps, e.i < 2 ^ 64)
    (H1 : LET rows (LR rec) = true → ∃ nr z', LR rec = some nr ∧ TAKE rec z = some z') (H2 : LET rows (LR rec) = false → TAKE rec z = none)
    (hseg : Seg (Store.emp.set r (.list (rows.map Row.V))) σ s d p z)
    (k : ∀ nr z' p' σ', LET rows (LR rec) = true → LR rec = some nr → TAKE rec z = some z' → Seg (Store.emp.set r (.list (rows.map Row.V))) σ' s d p' z' →
      WR (LC prog w mean mg mb qual f cdv s₀) (execs loopC (LC prog w mean mg mb qual f cdv s₀).env) [("nums", .lst (natsV ns)), ("base", .int (base : Nat)), ("last", .int (last : Nat)), ("opening", .bytes op), ("state", .ref s), ("rows", .ref r), ("i", .int (i : Nat)), ("new", nr.V)] σ' Qn) :
    WR (LC prog w mean mg mb qual f cdv s₀) (execs loopB (LC prog w mean mg mb qual f cdv s₀).env) [("nums", .lst (natsV ns)), ("base", .int (base : Nat)), ("last", .int (last : Nat)), ("opening", .bytes op), ("state", .ref s), ("rows", .ref r), ("i", .int (i : Nat)), ("record", .bytes rec)] σ Qn := by
  unfold loopB pickB
  have hr := hseg.rowsAt
  obtain ⟨ea, g1, g2, g3, g4, g5⟩ := hseg.ex
  refine wr_step ?_
  refine wx_assign ?_; refine e_call (by exact rfl) (by first | exact .builtin _ | exact .type _ | exact .K _ (by exact rfl)) (by exact rfl) ?_
  refine (s_lread (room.le (by decide)) (by lia) ?_).call
  refine wr_step ?_
  refine wx_assign ?_; refine e_call (by exact rfl) (by first | exact .builtin _ | exact .type _ | exact .K _ (by exact rfl)) (by exact rfl) ?_
  refine (s_llet (room.le (by decide)) (fun σ' h => .ref (h _ _ hr)) (by lia) hb ?_).call
  refine wr_step ?_
  refine wx_assign ?_; refine we_bool ?_
  refine wr_try (X := TAKE rec z = none) (ρ₀ := [("let", .bool (LET rows (LR rec)))]) (fun _ _ h => h) (by walk_at "lel") rfl ?_ ?_
  · refine we_meth ?_; refine we_pure 1 (by exact rfl) ?_; refine wmeth_inst (by first | exact .obj | exact .ref (by walk_at "wst")) (by kernel_rfl) (by exact rfl) (by kernel_rfl) (by exact rfl) ?_; refine ⟨(by first | exact .builtin _ | exact .type _ | exact .K _ (by exact rfl)), ?_⟩; refine wargs_pure (by exact rfl) ?_
    refine (s_take hseg (room.le (by decide)) hrec hz hps (fun z' p' σ' e ks => ⟨rfl, ?_⟩) fun e => e).call
    have hL : LET rows (LR rec) = true := by
      cases h : LET rows (LR rec) with
      | true => rfl
      | false => rw [H2 h] at e; cases e
    obtain ⟨nr, z'', e1, e2⟩ := H1 hL
    have k' := k nr z' p' σ' hL e1 e ks
    rw [hL, e1]
    refine wr_step ?_
    refine wx_if ?_; refine k_cmp ?_; refine we_pure 1 (by exact rfl) ?_; refine we_pure 1 (by exact rfl) ?_; refine wcmp_bool_eq ?_; refine wtru_bool ?_
    refine ifF rfl ?_
    refine wxs_nil ?_
    refine wr_step ?_
    refine wx_if ?_; refine wtest_value ?_; refine we_pure 1 (by exact rfl) ?_; refine wtru_bool ?_; refine ifF rfl ?_; refine wxs_nil ?_
    exact k'.le (by walk_at "lel") (le_refl_store _)
  · intro hX
    have hL : LET rows (LR rec) = false := by
      cases h : LET rows (LR rec) with
      | false => rfl
      | true => obtain ⟨nr, z'', e1, e2⟩ := H1 h; rw [hX] at e2; cases e2
    rw [hL]
    refine wr_step ?_
    refine wx_if ?_; refine k_cmp ?_; refine we_pure 1 (by exact rfl) ?_; refine we_pure 1 (by exact rfl) ?_; refine wcmp_bool_eq ?_; refine wtru_bool ?_
    refine ifF rfl ?_
    refine wxs_nil ?_
    refine wr_step ?_
    refine wx_if ?_; refine wtest_value ?_; refine we_pure 1 (by exact rfl) ?_; refine wtru_bool ?_; refine ifT rfl ?_; refine x_return ?_; refine we_bool ?_
    rfl

end
section
variable {prog : Program} {w : World} {mean : ExcName → Option Value} {mg mb : Str → Option Value} {C : Ctx (G0 prog w mean mg mb)} {ρ : Loc} {σ : Store} {Q Qr : V → Store → Prop} {Qn : Loc → Store → Prop} {X : Prop}
theorem WR.frzLoc {t : Sem Flow} {x : Str} {a : Addr} {vs : List V} {τ : Store} {g : Gl} {C : Ctx g} {ρ : Loc} {σ : Store} {Qn : Loc → Store → Prop} (hx : fget x ρ = some (.ref a)) (ha : σ a = some (.list vs)) (hle : Store.Le τ (σ.del a)) (h : WR C t (fput x (.lst vs) ρ) τ Qn) : WR C t ρ σ Qn := fun ok fz hid s Qc Ec st hn hr => by
  obtain ⟨fz', f1, r1, st1⟩ := st.freezeList ha
  refine h ok fz' hid s Qc Ec (St.le ?_ (Loc.le_refl _) hle) (fun ρ₁ σ₁ fz₁ s₁ f2 q st2 => hn _ _ _ _ (subTrans f1 f2) q st2) hr
  refine st1.op7 fun m news F N l ow sg sd so => ?_
  refine ⟨⟨m, news, F, N, fun y v e => ?_, ow⟩, sg, sd, so⟩
  by_cases hy : y = x
  · subst hy
    rw [fget_fput_self] at e
    cases e
    obtain ⟨w, hw, hr⟩ := l y _ hx
    cases hr
    exact ⟨_, hw, r1⟩
  · rw [fget_fput_ne _ hy] at e
    exact l y v e
noncomputable def rowOf : V → V
  | .obj _ fs => .tup (fs.map (·.2))
  | v => v
theorem all_ids {n : Nat} (l : List Nat) : (natsV l).all (dat n) = true := by
  rw [List.all_eq_true]
  intro v hv
  obtain ⟨x, _, rfl⟩ := List.mem_map.mp hv
  cases n <;> rfl
theorem all_ent {n : Nat} (l : List (Nat × Nat × Nat × List UInt8)) : (l.map entT).all (dat (n + 1)) = true := by
  rw [List.all_eq_true]
  intro v hv
  obtain ⟨x, _, rfl⟩ := List.mem_map.mp hv
  cases n <;> rfl
theorem toldDat {bi bt c : Nat} {v l o x : List Nat} {f : Bool} {h : Nat × Nat × Nat} {s p : List (Nat × Nat × Nat × List UInt8)} :
    ([V.int (c : Nat), .int (bi : Nat), .int (bt : Nat), memV [v, l, o, x] f, hardT h, .lst (s.map entT), .lst (p.map entT)].all (dat 4)) = true := by
  have e1 : dat 4 (memV [v, l, o, x] f) = true := by
    show (dat 3 (.tup (natsV v)) && (dat 3 (.tup (natsV l)) && (dat 3 (.tup (natsV o)) && (dat 3 (.tup (natsV x)) && (dat 3 (.bool f) && true))))) = true
    have q : ∀ l, dat 3 (.tup (natsV l)) = true := fun l => all_ids (n := 2) l
    rw [q, q, q, q]; rfl
  have e2 : dat 4 (.lst (s.map entT)) = true := all_ent (n := 2) s
  have e3 : dat 4 (.lst (p.map entT)) = true := all_ent (n := 2) p
  simp only [List.all_cons, List.all_nil, e1, e2, e3, Bool.and_true, Bool.true_and]
  rfl
noncomputable def newBase (i : Nat) (nr : Row) (base : Nat) : Nat := if i = 0 then nr.bi else base
noncomputable def entIx (nr : Row) (last : Nat) : Nat := match nr with
  | .ent _ j _ _ => j
  | _ => last
noncomputable def newLast (i : Nat) (nr : Row) (last : Nat) : Nat := if i = 0 then nr.bi else entIx nr last
theorem loopCw {qual : Str} {f : Addr} {cdv : Value} {s₀ : Shared} {Qn : Loc → Store → Prop} {ns : List Nat} {op : List UInt8} {i base last : Nat} {s d p r : Addr} {rows : List Row} {nr : Row} {z : SS} (room : (LC prog w mean mg mb qual f cdv s₀).Room 20) (hi : rows.length = i) (hi9 : i < 50)
    (hk0 : i = 0 → nr.kind = 4) (hz : z.es.length ≤ 1000 ∧ z.ps.length ≤ 1000) (ht : Told (rows ++ [nr]) z) (hseg : Seg (Store.emp.set r (.list (rows.map Row.V))) σ s d p z)
    (k : ∀ ρ' σ', Loc.Le [("nums", .lst (natsV ns)), ("base", .int (newBase i nr base : Nat)), ("last", .int (newLast i nr last : Nat)), ("opening", .bytes op), ("state", .ref s), ("rows", .ref r)] ρ' → Seg (Store.emp.set r (.list ((rows ++ [nr]).map Row.V))) σ' s d p z → Qn ρ' σ') :
    WR (LC prog w mean mg mb qual f cdv s₀) (execs loopC (LC prog w mean mg mb qual f cdv s₀).env) [("nums", .lst (natsV ns)), ("base", .int (base : Nat)), ("last", .int (last : Nat)), ("opening", .bytes op), ("state", .ref s), ("rows", .ref r), ("i", .int (i : Nat)), ("new", nr.V)] σ Qn := by
  unfold loopC pickC
  have hr := hseg.rowsAt
  refine wr_step ?_
  refine wx_expr ?_; refine we_meth ?_; refine we_pure 1 (by exact rfl) ?_; refine wmeth_append (by walk_at "wst") ?_; refine ⟨(by first | exact .builtin _ | exact .type _ | exact .K _ (by exact rfl)), ?_⟩; refine wargs_pure (by exact rfl) ?_
  refine wcall_append hr (by simp; lia) ⟨rfl, ?_⟩
  have ea : rows.map Row.V ++ [nr.V] = (rows ++ [nr]).map Row.V := by simp
  rw [ea]
  have hseg2 := hseg.rebase (o' := .list ((rows ++ [nr]).map Row.V))
  generalize σ.set r (.list ((rows ++ [nr]).map Row.V)) = σ1 at hseg2 ⊢
  have hr1 := hseg2.rowsAt
  refine wr_join (ρ₁ := [("nums", .lst (natsV ns)), ("base", .int (base : Nat)), ("last", .int (entIx nr last : Nat)), ("opening", .bytes op), ("state", .ref s), ("rows", .ref r), ("i", .int (i : Nat)), ("new", nr.V)]) ?_ ?_
  · cases nr with
    | base bi bt ls fl =>
      refine wx_if ?_; refine k_cmp ?_; refine k_sub ?_; refine we_pure 1 (by exact rfl) ?_; refine we_int ?_
      refine wsub_tup (v := .int 4) (by decide) (by decide) rfl ?_
      refine we_int ?_; refine wcmp_eq ?_; refine wtru_bool ?_; refine ifF (beqF (by lia)) ?_; refine wxs_nil ?_
      exact ⟨by walk_at "lel", le_refl_store _⟩
    | hard t v c =>
      refine wx_if ?_; refine k_cmp ?_; refine k_sub ?_; refine we_pure 1 (by exact rfl) ?_; refine we_int ?_
      refine wsub_tup (v := .int 1) (by decide) (by decide) rfl ?_
      refine we_int ?_; refine wcmp_eq ?_; refine wtru_bool ?_; refine ifF (beqF (by lia)) ?_; refine wxs_nil ?_
      exact ⟨by walk_at "lel", le_refl_store _⟩
    | ent t j kk dd =>
      refine wx_if ?_; refine k_cmp ?_; refine k_sub ?_; refine we_pure 1 (by exact rfl) ?_; refine we_int ?_
      refine wsub_tup (v := .int 2) (by decide) (by decide) rfl ?_
      refine we_int ?_; refine wcmp_eq ?_; refine wtru_bool ?_; refine ifT (beqT (by lia)) ?_; refine x_assign ?_; refine k_sub ?_; refine k_sub ?_; refine we_pure 1 (by exact rfl) ?_; refine we_int ?_
      refine wsub_tup (v := (Row.ent t j kk dd).v) (by decide) (by decide) rfl ?_
      refine we_int ?_
      refine wsub_tup (v := .int (j : Nat)) (by decide) (by decide) rfl ?_
      refine wxs_nil ?_
      exact ⟨by walk_at "lel", le_refl_store _⟩
  refine wr_join (ρ₁ := [("nums", .lst (natsV ns)), ("base", .int (newBase i nr base : Nat)), ("last", .int (newLast i nr last : Nat)), ("opening", .bytes op), ("state", .ref s), ("rows", .ref r), ("i", .int (i : Nat))]) ?_ ?_
  · by_cases hi0 : i = 0
    · have hk := hk0 hi0
      cases nr with
      | base bi bt ls fl =>
        have e1 : newBase i (.base bi bt ls fl) base = bi := by unfold newBase; rw [if_pos hi0]; rfl
        have e2 : newLast i (.base bi bt ls fl) last = bi := by unfold newLast; rw [if_pos hi0]; rfl
        rw [e1, e2]
        refine wx_if ?_; refine wtest_pcmp 4 (by exact rfl) ?_; refine ifT (beqT (by lia)) ?_; refine x_assign ?_; refine k_sub ?_; refine k_sub ?_; refine we_pure 1 (by exact rfl) ?_; refine we_int ?_
        refine wsub_tup (v := (Row.base bi bt ls fl).v) (by decide) (by decide) rfl ?_
        refine we_int ?_
        refine wsub_tup (v := .int (bi : Nat)) (by decide) (by decide) rfl ?_
        refine x_assign ?_; refine we_pure 1 (by exact rfl) ?_; refine wxs_nil ?_
        exact ⟨by walk_at "lel", le_refl_store _⟩
      | hard t v c => cases hk
      | ent t j kk dd => cases hk
    · have e1 : newBase i nr base = base := by unfold newBase; rw [if_neg hi0]
      have e2 : newLast i nr last = entIx nr last := by unfold newLast; rw [if_neg hi0]
      rw [e1, e2]
      refine wx_if ?_; refine wtest_pcmp 4 (by exact rfl) ?_; refine ifF (beqF (by lia)) ?_; refine wxs_nil ?_
      exact ⟨by walk_at "lel", le_refl_store _⟩
  obtain ⟨bi, bt, v, l, o, x, fl, rs, hrows, hc, hbi, hbt, hconf, hrise, hlens, hhard, hes, hps, hkinds⟩ := ht.ex
  obtain ⟨ct, zbi, zbt, zconf, zht, zhv, zhc, zes, zps⟩ := z
  dsimp only at hc hbi hbt hconf hhard hes hps hz
  subst hc hbi hbt hconf
  obtain ⟨e, g1, g2, g3, g4, g5⟩ := hseg2.ex
  have g6 := hseg2.pe
  refine wr_step (wx_comp ?_)
  refine k_attr ?_; refine we_pure 1 (by exact rfl) ?_; refine wget_inst (by first | exact .obj | exact .ref (by walk_at "wst")) (by kernel_rfl) (by kernel_rfl) (by kernel_rfl) (by exact rfl) (by intro w e; cases e) ?_
  refine ⟨zes.map Ent.V, rowOf, .lst (fun σ' hle => .ref (hle _ _ g2)), by simp; lia, fun ok v' hv' σ' fz' hid' D m w1 s' Q E hle st hns hm hrep hq => ?_, fun D hD => ?_⟩
  · obtain ⟨en, _, rfl⟩ := List.mem_map.mp hv'
    exact elt_row ok (room.le (by decide)) st hns hm hrep rfl rfl (by decide) hq
  refine WR.frzLoc (x := "entries") (a := D) (τ := σ1) (by exact rfl) (Store.set_self ..) (Store.le_del (Store.le_set hD _) hD) ?_
  refine wr_step (wx_comp ?_)
  refine k_attr ?_; refine we_pure 1 (by exact rfl) ?_; refine wget_inst (by first | exact .obj | exact .ref (by walk_at "wst")) (by kernel_rfl) (by kernel_rfl) (by kernel_rfl) (by exact rfl) (by intro w e; cases e) ?_
  refine ⟨zps.map Ent.V, rowOf, .lst (fun σ' hle => .ref (hle _ _ g6)), by simp; lia, fun ok v' hv' σ' fz' hid' D m w1 s' Q E hle st hns hm hrep hq => ?_, fun D' hD' => ?_⟩
  · obtain ⟨en, _, rfl⟩ := List.mem_map.mp hv'
    exact elt_row ok (room.le (by decide)) st hns hm hrep rfl rfl (by decide) hq
  refine WR.frzLoc (x := "pending") (a := D') (τ := σ1) (by exact rfl) (Store.set_self ..) (Store.le_del (Store.le_set hD' _) hD') ?_
  have me : (zes.map Ent.V).map rowOf = (SAY rs).stand.map entT := by rw [← hes, List.map_map, List.map_map]; rfl
  have mp : (zps.map Ent.V).map rowOf = (SAY rs).pending.map entT := by rw [← hps, List.map_map, List.map_map]; rfl
  rw [me, mp]
  refine wr_step ?_
  refine wx_assign ?_; refine k_tuple ?_; refine k_args ?_; refine k_attr ?_; refine we_pure 1 (by exact rfl) ?_; refine wget_inst (by first | exact .obj | exact .ref (by walk_at "wst")) (by kernel_rfl) (by kernel_rfl) (by kernel_rfl) (by exact rfl) (by intro w e; cases e) ?_; refine k_args ?_; refine k_attr ?_; refine we_pure 1 (by exact rfl) ?_; refine wget_inst (by first | exact .obj | exact .ref (by walk_at "wst")) (by kernel_rfl) (by kernel_rfl) (by kernel_rfl) (by exact rfl) (by intro w e; cases e) ?_; refine k_args ?_; refine k_attr ?_; refine we_pure 1 (by exact rfl) ?_; refine wget_inst (by first | exact .obj | exact .ref (by walk_at "wst")) (by kernel_rfl) (by kernel_rfl) (by kernel_rfl) (by exact rfl) (by intro w e; cases e) ?_; refine k_args ?_; refine we_meth0 ?_; refine k_attr ?_; refine we_pure 1 (by exact rfl) ?_; refine wget_inst (by first | exact .obj | exact .ref (by walk_at "wst")) (by kernel_rfl) (by kernel_rfl) (by kernel_rfl) (by exact rfl) (by intro w e; cases e) ?_; refine wmeth_inst (by first | exact .obj | exact .ref (by walk_at "wst")) (by kernel_rfl) (by exact rfl) (by kernel_rfl) (by exact rfl) ?_; refine ⟨(by first | exact .builtin _ | exact .type _ | exact .K _ (by exact rfl)), ?_⟩
  obtain ⟨r1, r2, r3, r4⟩ := hrise
  obtain ⟨n1, n2, n3, n4⟩ := hlens
  have zl : ∀ l : List Nat, (zs l).length = l.length := fun l => by simp [zs]
  refine (s_conf_row (v := rise (zs v)) (l := rise (zs l)) (o := rise (zs o)) (x := rise (zs x)) (t := fl) (room.le (by decide)) (by rw [r1, zl]; lia) (by rw [r2, zl]; lia) (by rw [r3, zl]; lia) (by rw [r4, zl]; lia) ?_).call
  rw [r1, r2, r3, r4, ← natsV_zs, ← natsV_zs, ← natsV_zs, ← natsV_zs]
  refine k_args ?_; refine we_meth0 ?_; refine k_attr ?_; refine we_pure 1 (by exact rfl) ?_; refine wget_inst (by first | exact .obj | exact .ref (by walk_at "wst")) (by kernel_rfl) (by kernel_rfl) (by kernel_rfl) (by exact rfl) (by intro w e; cases e) ?_; refine wmeth_inst (by first | exact .obj | exact .ref (by walk_at "wst")) (by kernel_rfl) (by exact rfl) (by kernel_rfl) (by exact rfl) ?_; refine ⟨(by first | exact .builtin _ | exact .type _ | exact .K _ (by exact rfl)), ?_⟩
  refine (s_hard_row (room.le (by decide)) ?_).call
  refine wargs_pure (by exact rfl) ?_; refine ⟨Nat.le_of_ble_eq_true rfl, ?_⟩
  have hh : (V.tup [.int (zht : Nat), .int (zhv : Nat), .int (zhc : Nat)]) = hardT (SAY rs).hard := by rw [← hhard]
  rw [hh]
  refine wr_step ?_
  refine wx_if ?_; refine k_cmp ?_; refine we_pure 1 (by exact rfl) ?_; refine e_call (by exact rfl) (by first | exact .builtin _ | exact .type _ | exact .K _ (by exact rfl)) (by exact rfl) ?_
  have hrl : rs.length = i := by
    have := congrArg List.length hrows
    simp at this
    lia
  refine (s_lsays (u := .ref r) (bi := zbi) (bt := zbt) (ls := [v, l, o, x]) (f := fl) (rs := rs) (room.le (by decide)) (fun σ' hle => .ref (by rw [hle _ _ hr1, hrows])) (by lia) hkinds ?_).call
  refine wcmp_same_ne (n := 4) (room.le (by decide)) toldDat (by decide) ?_
  refine wtru_bool ?_; refine ifF rfl ?_; refine wxs_nil ?_
  refine wr_step ?_
  refine wx_assign ?_; refine we_bool ?_
  refine wr_step (wx_check rfl (room.le (by decide)) (by exact rfl) g1 (fun hlt => ?_) fun hge => ?_)
  · have hlt : rs.length + 1 < 2 := hlt
    refine wr_step ?_
    refine wx_if ?_; refine k_cmp ?_; refine we_pure 1 (by exact rfl) ?_; refine we_pcmp 4 (by exact rfl) ?_; refine wcmp_bool_ne ?_; refine wtru_bool ?_
    rw [beqT (show (i : Int) = 0 by lia)]
    refine ifF rfl ?_
    refine wxs_nil ?_
    exact wr_nil (k _ _ (by walk_at "lel") hseg2)
  · have hge : 2 ≤ rs.length + 1 := hge
    refine wr_step ?_
    refine wx_if ?_; refine k_cmp ?_; refine we_pure 1 (by exact rfl) ?_; refine we_pcmp 4 (by exact rfl) ?_; refine wcmp_bool_ne ?_; refine wtru_bool ?_
    rw [beqF (show (i : Int) ≠ 0 by lia)]
    refine ifF rfl ?_
    refine wxs_nil ?_
    exact wr_nil (k _ _ (by walk_at "lel") hseg2)

end
section
variable {prog : Program} {w : World} {mean : ExcName → Option Value} {mg mb : Str → Option Value} {C : Ctx (G0 prog w mean mg mb)} {ρ : Loc} {σ : Store} {Q Qr : V → Store → Prop} {Qn : Loc → Store → Prop} {X : Prop}
/-- what the plain law must give for a turn -/
structure Facts (op : List UInt8) (ns : List Nat) (P : Nat → Nat → Nat → List Row → SS → Prop) (i base last : Nat) (rows : List Row) (z : SS) : Prop where
  rl : rows.length = i
  rb : rows = [] ∨ ∃ i t ls f rs, rows = .base i t ls f :: rs
  r64 : (recF op (drawF ns (2 + i)) i base last).length < 64
  zl : z.es.length ≤ 400 ∧ z.ps.length ≤ 400
  ps : ∀ e ∈ z.ps, e.i < 2 ^ 64
  bl : last + 2 < 2 ^ 60
  bb : base < 2 ^ 50
  H1 : LET rows (LR (recF op (drawF ns (2 + i)) i base last)) = true → ∃ nr z', LR (recF op (drawF ns (2 + i)) i base last) = some nr ∧ TAKE (recF op (drawF ns (2 + i)) i base last) z = some z' ∧ Told (rows ++ [nr]) z' ∧ (i = 0 → nr.kind = 4) ∧ (z'.es.length ≤ 1000 ∧ z'.ps.length ≤ 1000) ∧
    P (i + 1) (newBase i nr base) (newLast i nr last) (rows ++ [nr]) z'
  H2 : LET rows (LR (recF op (drawF ns (2 + i)) i base last)) = false → TAKE (recF op (drawF ns (2 + i)) i base last) z = none
theorem turn_all {qual : Str} {f : Addr} {cdv : Value} {s₀ : Shared} {Qn : Loc → Store → Prop} {P : Nat → Nat → Nat → List Row → SS → Prop} {ns : List Nat} {op : List UInt8} {i base last : Nat} {s d p r : Addr} {rows : List Row} {z : SS} (room : (LC prog w mean mg mb qual f cdv s₀).Room 20) (hi : i < 8) (h0 : ns ≠ []) (hl : ns.length ≤ 100) (hop : 0 < op.length ∧ op.length ≤ 100)
    (F : Facts op ns P i base last rows z) (hseg : Seg (Store.emp.set r (.list (rows.map Row.V))) σ s d p z)
    (k : ∀ nr z' p' ρ' σ', P (i + 1) (newBase i nr base) (newLast i nr last) (rows ++ [nr]) z' → Loc.Le [("nums", .lst (natsV ns)), ("base", .int (newBase i nr base : Nat)), ("last", .int (newLast i nr last : Nat)), ("opening", .bytes op), ("state", .ref s), ("rows", .ref r)] ρ' → Seg (Store.emp.set r (.list ((rows ++ [nr]).map Row.V))) σ' s d p' z' → Qn ρ' σ') :
    WR (LC prog w mean mg mb qual f cdv s₀) (execs lawLoop (LC prog w mean mg mb qual f cdv s₀).env) [("nums", .lst (natsV ns)), ("base", .int (base : Nat)), ("last", .int (last : Nat)), ("opening", .bytes op), ("state", .ref s), ("rows", .ref r), ("i", .int (i : Nat))] σ Qn := by
  have rl := F.rl
  have zl := F.zl
  refine loopA room h0 hl (by lia) hop F.bl F.bb fun w' y ix hw hy hix hix64 => ?_
  refine loop8w room (by lia) hop hix64 ?_
  refine loop9w (rec0_len hop hix64) ?_
  have er : rec2F (rec1F (rec0F op w' y i ix) w' y) w' y = recF op (drawF ns (2 + i)) i base last := by subst hw hy hix; rfl
  rw [er]
  refine loopBw room (by lia) F.r64 (by lia) F.rb (by lia) F.ps (fun h => ?_) F.H2 hseg fun nr z' p' σ' hL e1 e2 ks => ?_
  · obtain ⟨nr, z', e1, e2, _⟩ := F.H1 h
    exact ⟨nr, z', e1, e2⟩
  · obtain ⟨nr', z'', e1', e2', ht, hk, hz, hP⟩ := F.H1 hL
    rw [e1'] at e1; cases e1
    rw [e2'] at e2; cases e2
    exact loopCw room rl (by lia) hk hz ht ks fun ρ' σ'' hle ks' => k nr z' p' ρ' σ'' hP hle ks'
theorem loop_all {qual : Str} {f : Addr} {cdv : Value} {s₀ : Shared} {Qn : Loc → Store → Prop} {P : Nat → Nat → Nat → List Row → SS → Prop} {ns : List Nat} {op : List UInt8} {dd base : Nat} {s d p r : Addr} (room : (LC prog w mean mg mb qual f cdv s₀).Room 20) (h0 : ns ≠ []) (hl : ns.length ≤ 100) (hop : 0 < op.length ∧ op.length ≤ 100)
    (F : ∀ i base last rows z, i < 8 → P i base last rows z → Facts op ns P i base last rows z) (hP : P 0 base base [] ⟨0, 0, 0, .none, 0, 0, 0, [], []⟩) (hseg : Seg (Store.emp.set r (.list [])) σ s d p ⟨0, 0, 0, .none, 0, 0, 0, [], []⟩) (hQ : ∀ ρ σ, Qn ρ σ) :
    WR (LC prog w mean mg mb qual f cdv s₀) (exec (pickS (rfl : lawBody = _)) (LC prog w mean mg mb qual f cdv s₀).env) [("nums", .lst (natsV ns)), ("d", .int (dd : Nat)), ("base", .int (base : Nat)), ("last", .int (base : Nat)), ("opening", .bytes op), ("state", .ref s), ("rows", .ref r)] σ Qn := by
  unfold pickS
  refine wr_for_range ?_ letGo_name
  refine k_call ?_; refine we_b_range (by exact rfl) ?_; refine ⟨(by first | exact .builtin _ | exact .type _ | exact .K _ (by exact rfl)), ?_⟩; refine k_args ?_; refine k_bin ?_; refine we_int ?_; refine k_bin ?_; refine k_bin ?_; refine we_pure 1 (by exact rfl) ?_; refine we_int ?_; refine wbin_div (by first | decide | lia) (by first | decide | lia) ?_; refine we_int ?_; refine wbin_mod (by first | decide | lia) ?_; refine wbin_add ?_; refine wargs_pure (by exact rfl) ?_
  refine wrange1 ?_
  refine ⟨0, (4 : Int) + (dd : Int) / 12 % 5, 1, 4 + dd / 12 % 5, fun i ρ' σ' => ∃ base last rows z p σ₀, P i base last rows z ∧ Loc.Le [("nums", .lst (natsV ns)), ("base", .int (base : Nat)), ("last", .int (last : Nat)), ("opening", .bytes op), ("state", .ref s), ("rows", .ref r)] ρ' ∧ Store.Le σ₀ σ' ∧ Seg (Store.emp.set r (.list (rows.map Row.V))) σ₀ s d p z, rfl, ?_, small_one (by decide) (by decide) (by lia) (by lia), ?_, ?_, fun _ _ _ => hQ _ _⟩
  · have := rangeSize_upto (4 + dd / 12 % 5)
    rw [show ((4 + dd / 12 % 5 : Nat) : Int) = 4 + (dd : Int) / 12 % 5 by lia] at this ⊢
    exact this
  · exact ⟨base, base, [], _, p, σ, hP, by walk_at "lel", fun _ _ h => h, hseg⟩
  · rintro i ρ' σ' hi ⟨b', l', rows, z, p', σ₀, hp, hle, hs, hseg'⟩
    refine wasg_name ?_
    rw [show (0 : Int) + 1 * (i : Int) = (i : Int) by lia]
    refine WR.le (ρ' := fput "i" (.int (i : Nat)) [("nums", .lst (natsV ns)), ("base", .int (b' : Nat)), ("last", .int (l' : Nat)), ("opening", .bytes op), ("state", .ref s), ("rows", .ref r)]) (σ' := σ₀) ?_ (Loc.le_fput hle) hs
    exact turn_all room (by lia) h0 hl hop (F i b' l' rows z (by lia) hp) hseg' fun nr z' p'' ρ₂ σ₂ hP' hle' ks => ⟨ρ₂, σ₂, ⟨_, _, _, _, p'', σ₂, hP', hle', fun _ _ h => h, ks⟩, fun _ _ h => h, fun _ _ h => h⟩

end
section
variable {prog : Program} {w : World} {mean : ExcName → Option Value} {mg mb : Str → Option Value} {C : Ctx (G0 prog w mean mg mb)} {ρ : Loc} {σ : Store} {Q Qr : V → Store → Prop} {Qn : Loc → Store → Prop} {X : Prop}
theorem wf_join {g : Gl} {C : Ctx g} {ρ ρ₁ : Loc} {σ σ₁ : Store} {hid : Led} {t : Stmt} {ts : List Stmt} (h : WX C t ρ σ (fun ρ' σ' => Loc.Le ρ₁ ρ' ∧ Store.Le σ₁ σ') (fun v _ => v = .bool true) False) (k : WF C hid (execs ts C.env) ρ₁ σ₁) : WF C hid (execs (t :: ts) C.env) ρ σ :=
  wf_cons (h.mono (fun ρ' σ' ⟨a, b⟩ => k.le a b) (fun _ _ h => h) fun x => x)
theorem WF.frzLoc {t : Sem Flow} {x : Str} {a : Addr} {vs : List V} {τ : Store} {g : Gl} {C : Ctx g} {ρ : Loc} {σ : Store} {hid : Led} (hx : fget x ρ = some (.ref a)) (ha : σ a = some (.list vs)) (hle : Store.Le τ (σ.del a)) (h : WF C hid t (fput x (.lst vs) ρ) τ) : WF C hid t ρ σ := fun ok fz s Qc Ec st hr => by
  obtain ⟨fz', f1, r1, st1⟩ := st.freezeList ha
  refine h ok fz' s Qc Ec (St.le ?_ (Loc.le_refl _) hle) hr
  refine st1.op7 fun m news F N l ow sg sd so => ?_
  refine ⟨⟨m, news, F, N, fun y v e => ?_, ow⟩, sg, sd, so⟩
  by_cases hy : y = x
  · subst hy
    rw [fget_fput_self] at e
    cases e
    obtain ⟨w, hw, hr⟩ := l y _ hx
    cases hr
    exact ⟨_, hw, r1⟩
  · rw [fget_fput_ne _ hy] at e
    exact l y v e
/-- a slice of a list that was there before the call -/
theorem we_slice_raw {g : Gl} {C : Ctx g} {ρ : Loc} {σ : Store} {Q : V → Store → Prop} {X : Prop} {value : Expr} {hi : Expr} {sp pos : Pos} {a : Addr} {ws : List Value} {vs : List V} (hl : C.h₀.IsList a ws.toArray) (hrs : Reps [] vs ws) (hlen : vs.length ≤ 1000000)
    (h : WE C value ρ σ (fun u σ₁ => u = .raw (.ref a) ∧ WE C hi ρ σ₁ (fun u σ₂ => ∃ j, u = .int j ∧ 0 ≤ j ∧ ∀ x, σ₂ x = none → Q (.ref x) (σ₂.set x (.list (vs.take j.toNat)))) X) X)
    (hsub : ∀ (x a : Addr), subscripted (.Slice none (some hi) none sp) false (.ref x) (.ref a) = operate [.ref a, .ref x] (getItem (.ref x) (.ref a)) := by intro _ _; with_unfolding_all rfl) :
    WE C (.Subscript value (.Slice none (some hi) none sp) pos) ρ σ Q X := fun ok fz hid s Qc Ec st hQ hX => by
  refine nSubscript (h ok fz hid s _ Ec st (fun v u σ₁ fz₁ s₁ f1 r1 h1 st1 => nSlice (.any (evalPart_none_step (h1.2 ok fz₁ hid s₁ _ Ec st1 (fun v2 u2 σ₂ fz₂ s₂ f2 r2 h2 st2 => ?_) hX)))) hX)
  obtain ⟨rfl, _⟩ := h1
  cases r1
  obtain ⟨j, rfl, hj, hq⟩ := h2
  cases r2
  have st2' := st2
  refine st2.op7 fun m news F N lc ow sg sd so => ?_
  have hx : s₂.heap.IsList a ws.toArray := by
    obtain ⟨o, h1, h2, n, h3⟩ := hl
    exact ⟨o, F.keep _ _ h1, h2, n, h3⟩
  refine .any (tail_swap (x := "x") (pos := pos) (slice_list F N hx .none (.int _ _) (fun h' F' N' => ?_) (hsub _ _) (by intro _; rfl) (by rw [List.size_toArray, hrs.length, sizeLine_eq]; lia)))
  have hn : ∀ p ∈ news, p.1 ≠ s₂.heap.objs.size + 1 := fun p hp => Nat.ne_of_lt (Nat.lt_succ_of_lt (Heap.lt_size (N p hp).1))
  have nσ : σ₂ (s₂.heap.objs.size + 1) = none := by
    cases q : σ₂ (s₂.heap.objs.size + 1) with
    | none => rfl
    | some o => obtain ⟨o2, hm⟩ := objIn_addr (ow.sto _ o q); exact absurd rfl (hn _ hm)
  have epick : slicePick ws.toArray none (some j) none = (ws.take j.toNat).toArray := by
    have ey : j = (j.toNat : Int) := by lia
    rw [ey, slicePick_upto' ws.toArray j.toNat]
    simp [← ey]
  refine hQ _ _ _ _ _ (subTrans f1 f2) (.ref _) (hq _ nσ) ⟨⟨m, _, F', N', lc, ow.add hn rfl ⟨ws.take j.toNat, 0, ?_, (hrs.take _).mono fun _ h => by cases h⟩⟩, sg, sd, so⟩
  rw [epick]
  exact .head _
theorem reps_ints {sc : List Int} {ws : List Value} (h : IntsAre ws sc) : Reps [] (sc.map V.int) ws := by
  induction h with
  | nil => exact .nil
  | cons n t _ ih => exact .cons (.int _ _) ih
theorem ws_apply {g : Gl} {C : Ctx g} {t : Sem Flow} {ρ : Loc} {σ : Store} {fz hid : Led} {s : Shared} {Qn' : Loc → Store → Prop} {Qc : Flow → Shared → Prop} {Ec : Value → Shared → Prop} (h : WS C t ρ σ Qn' (fun _ _ => False) False) (ok : C.Ok) (st : St C ρ σ fz hid s)
    (next : ∀ ρ' σ' fz' s', (∀ p ∈ fz, p ∈ fz') → Qn' ρ' σ' → St C ρ' σ' fz' hid s' → Qc .next s') : wpN C.nd g.M C.A t Qc Ec s :=
  h ok fz hid s Qc Ec st next (fun _ _ _ _ _ _ _ _ f => f.elim) fun f => f.elim
theorem wf_wr {g : Gl} {C : Ctx g} {ρ : Loc} {σ : Store} {hid : Led} {t : Stmt} {ts : List Stmt} (h : WR C (exec t C.env) ρ σ (fun ρ₁ σ₁ => WF C hid (execs ts C.env) ρ₁ σ₁)) : WF C hid (execs (t :: ts) C.env) ρ σ := fun ok fz s Qc Ec st hr =>
  nCons (h ok fz hid s _ Ec st (fun ρ₁ σ₁ fz₁ s₁ f1 h1 st1 => h1 ok fz₁ s₁ Qc Ec st1 hr) hr)
theorem Seg.base0 {σ' : Store} {s d p r : Addr} {z : SS} {o : AObj} (k : Seg Store.emp σ' s d p z) (hr : σ' r = none) : Seg (Store.emp.set r o) (σ'.set r o) s d p z := by
  obtain ⟨e, g1, g2, g3, g4, g5⟩ := k.ex
  have g6 := k.pe
  have ns : s ≠ r := fun q => by subst q; rw [g1] at hr; cases hr
  have ne : e ≠ r := fun q => by subst q; rw [g2] at hr; cases hr
  have np : p ≠ r := fun q => by subst q; rw [g6] at hr; cases hr
  refine ⟨⟨e, (Store.set_ne _ _ ns).trans g1, (Store.set_ne _ _ ne).trans g2, g3, g4, Store.set_ne _ _ ne⟩, (Store.set_ne _ _ np).trans g6, k.pn, Store.set_ne _ _ np, fun a x h => ?_, Store.set_ne _ _ ns⟩
  by_cases ha : a = r
  · subst ha
    rw [Store.set_self] at h ⊢
    exact h
  · rw [Store.set_ne _ _ ha] at h; cases h
noncomputable def modV : V → V
  | .int i => .int (i % 999983)
  | v => v
theorem le_emp (σ : Store) : Store.Le Store.emp σ := fun _ _ h => by cases h
noncomputable def numsF (sc : List Int) : List Nat := if (sc.take 12).length = 0 then [5] else (sc.take 12).map fun x => (x % 999983).toNat
noncomputable def votersF (m : Nat) : List Nat := [1 + m % 5, 1 + m / 5 % 5, 1 + m / 25 % 5]
noncomputable def list1F (m : Nat) : List Nat := [6, 7].take (m / 125 % 3)
noncomputable def list2F (m : Nat) : List Nat := (votersF m).take (m / 375 % 3)
noncomputable def list3F (m : Nat) : List Nat := [8].take (m / 1125 % 2)
noncomputable def eachF (l : List Nat) : List Nat := (List.range 9).filter fun k => (zs l).any (· == (k : Int))
noncomputable def partF (l : List Nat) : List UInt8 := ((eachF l).length :: eachF l).map fun n => n.toUInt8
noncomputable def bodyF (m : Nat) : List UInt8 := ([votersF m, list1F m, list2F m, list3F m].flatMap partF) ++ [(m / 2250 % 2).toUInt8]
noncomputable def opF (base bt m : Nat) : List UInt8 := 4 :: (leb base ++ leb bt ++ leb (bodyF m).length ++ bodyF m)
noncomputable def pickR {b0 b1 b2 b3 b4 b5 b6 b7 b8 b9 b10 : Stmt} {t : List Stmt} (_ : lawBody = b0 :: b1 :: b2 :: b3 :: b4 :: b5 :: b6 :: b7 :: b8 :: b9 :: b10 :: t) : List Stmt := t
noncomputable def lawRest : List Stmt := pickR rfl
theorem law_rest {qual : Str} {f : Addr} {cdv : Value} {s₀ : Shared} {P : Nat → Nat → Nat → List Row → SS → Prop} {ns : List Nat} {dd mm : Nat} {j : List UInt8} {hid : Led} (room : (LC prog w mean mg mb qual f cdv s₀).Room 20) (hn0 : ns ≠ []) (hnl : ns.length ≤ 100)
    (hj : j = [votersF mm, list1F mm, list2F mm, list3F mm].flatMap partF ∧ j.length ≤ 40)
    (F : ∀ i base last rows z, i < 8 → P i base last rows z → Facts (opF (dd % 4) (dd / 4 % 3) mm) ns P i base last rows z) (hP : P 0 (dd % 4) (dd % 4) [] ⟨0, 0, 0, .none, 0, 0, 0, [], []⟩)
    (hfold : ∀ b bt m, 4 :: (leb b ++ leb bt ++ leb (encC (rise (zs (votersF m))) (rise (zs (list1F m))) (rise (zs (list2F m))) (rise (zs (list3F m))) (m / 2250 % 2 == 1)).length ++ encC (rise (zs (votersF m))) (rise (zs (list1F m))) (rise (zs (list2F m))) (rise (zs (list3F m))) (m / 2250 % 2 == 1)) = opF b bt m)
    (hrise : ∀ m, IdsOk (rise (zs (votersF m))) ∧ IdsOk (rise (zs (list1F m))) ∧ IdsOk (rise (zs (list2F m))) ∧ IdsOk (rise (zs (list3F m)))) :
    WF (LC prog w mean mg mb qual f cdv s₀) hid (execs lawRest (LC prog w mean mg mb qual f cdv s₀).env) [("nums", .lst (natsV ns)), ("d", .int (dd : Nat)), ("base", .int ((dd % 4 : Nat) : Int)), ("base_term", .int ((dd / 4 % 3 : Nat) : Int)), ("m", .int (mm : Nat)), ("lists", .lst [.lst (natsV (votersF mm)), .lst (natsV (list1F mm)), .lst (natsV (list2F mm)), .lst (natsV (list3F mm))]), ("auto", .bool ((mm : Int) / 2250 % 2 == 1)), ("body", .bytes j)] Store.emp := by
  unfold lawRest pickR
  obtain ⟨hj1, hj2⟩ := hj
  refine wf_cons ?_
  refine wx_assign ?_; refine k_bin ?_; refine we_pure 1 (by exact rfl) ?_; refine k_call ?_; refine we_b_bytes (by exact rfl) ?_; refine ⟨(by first | exact .builtin _ | exact .type _ | exact .K _ (by exact rfl)), ?_⟩; refine k_args ?_; refine we_list ?_; refine k_args ?_; refine k_bin ?_; refine k_bin ?_; refine we_pure 1 (by exact rfl) ?_; refine we_int ?_; refine wbin_div (by first | decide | lia) (by first | decide | lia) ?_; refine we_int ?_; refine wbin_mod (by first | decide | lia) ?_; refine wargs_pure (by exact rfl) ?_; refine ⟨Nat.le_of_ble_eq_true rfl, ?_⟩
  intro b1 hb1
  refine wargs_pure (by exact rfl) ?_
  refine wcall_bytes_ints (ns := [(mm : Int) / 2250 % 2]) (.ref (Store.set_self ..)) (by simp; lia) (Nat.le_of_ble_eq_true rfl) ?_
  refine wbin_bytes (by simp; lia) ?_
  have eb : j ++ List.map (fun n : Int => n.toNat.toUInt8) [(mm : Int) / 2250 % 2] = bodyF mm := by unfold bodyF; rw [hj1]; rfl
  have hbl : (bodyF mm).length ≤ 41 := by rw [← eb]; simp; lia
  rw [eb]
  refine WF.le (ρ' := [("nums", .lst (natsV ns)), ("d", .int (dd : Nat)), ("base", .int ((dd % 4 : Nat) : Int)), ("base_term", .int ((dd / 4 % 3 : Nat) : Int)), ("m", .int (mm : Nat)), ("lists", .lst [.lst (natsV (votersF mm)), .lst (natsV (list1F mm)), .lst (natsV (list2F mm)), .lst (natsV (list3F mm))]), ("auto", .bool ((mm : Int) / 2250 % 2 == 1)), ("body", .bytes (bodyF mm))]) (σ' := Store.emp) ?_ (by walk_at "lel") (le_emp _)
  refine wf_cons ?_
  refine wx_assign ?_; refine k_bin ?_; refine k_bin ?_; refine k_bin ?_; refine k_bin ?_; refine k_call ?_; refine we_b_bytes (by exact rfl) ?_; refine ⟨(by first | exact .builtin _ | exact .type _ | exact .K _ (by exact rfl)), ?_⟩; refine k_args ?_; refine we_list ?_; refine wargs_pure (by exact rfl) ?_; refine ⟨Nat.le_of_ble_eq_true rfl, ?_⟩
  intro b2 hb2
  refine wargs_pure (by exact rfl) ?_
  refine wcall_bytes_ints (ns := [4]) (.ref (Store.set_self ..)) (by simp) (Nat.le_of_ble_eq_true rfl) ?_
  refine e_call (by exact rfl) (by first | exact .builtin _ | exact .type _ | exact .K _ (by exact rfl)) (by exact rfl) ?_
  have l1 : (leb (dd % 4)).length ≤ 10 := leb10 (by lia)
  have l2 : (leb (dd / 4 % 3)).length ≤ 10 := leb10 (by lia)
  have l3 : (leb (bodyF mm).length).length ≤ 10 := leb10 (by lia)
  refine (s_lput (n := dd % 4) (room.le (by decide)) (by lia) ?_).call
  refine wbin_bytes (by simp; lia) ?_
  refine e_call (by exact rfl) (by first | exact .builtin _ | exact .type _ | exact .K _ (by exact rfl)) (by exact rfl) ?_
  refine (s_lput (n := dd / 4 % 3) (room.le (by decide)) (by lia) ?_).call
  refine wbin_bytes (by simp; lia) ?_
  refine k_call ?_; refine we_pure 1 (by exact rfl) ?_; refine ⟨(by first | exact .builtin _ | exact .type _ | exact .K _ (by exact rfl)), ?_⟩; refine k_args ?_; refine k_call ?_; refine we_b_len (by exact rfl) ?_; refine ⟨(by first | exact .builtin _ | exact .type _ | exact .K _ (by exact rfl)), ?_⟩; refine wargs_pure (by exact rfl) ?_; refine wlen_bytes (by first | assumption | lia) ?_; refine wargs_pure (by exact rfl) ?_
  refine (s_lput (n := (bodyF mm).length) (room.le (by decide)) (by lia) ?_).call
  refine wbin_bytes (by simp; lia) ?_
  refine we_pure 1 (by exact rfl) ?_
  refine wbin_bytes (by simp; lia) ?_
  have eo : List.map (fun n : Int => n.toNat.toUInt8) [4] ++ leb (dd % 4) ++ leb (dd / 4 % 3) ++ leb (bodyF mm).length ++ bodyF mm = opF (dd % 4) (dd / 4 % 3) mm := by unfold opF; simp
  have hol : 0 < (opF (dd % 4) (dd / 4 % 3) mm).length ∧ (opF (dd % 4) (dd / 4 % 3) mm).length ≤ 100 := by rw [← eo]; simp; lia
  rw [eo]
  have hfo := hfold (dd % 4) (dd / 4 % 3) mm
  refine WF.le (ρ' := [("nums", .lst (natsV ns)), ("d", .int (dd : Nat)), ("base", .int ((dd % 4 : Nat) : Int)), ("base_term", .int ((dd / 4 % 3 : Nat) : Int)), ("lists", .lst [.lst (natsV (votersF mm)), .lst (natsV (list1F mm)), .lst (natsV (list2F mm)), .lst (natsV (list3F mm))]), ("auto", .bool ((mm : Int) / 2250 % 2 == 1)), ("opening", .bytes (opF (dd % 4) (dd / 4 % 3) mm))]) (σ' := Store.emp) ?_ (by walk_at "lel") (le_emp _)
  have eau : ((mm : Int) / 2250 % 2 == 1) = (mm / 2250 % 2 == 1) := by
    by_cases hh : mm / 2250 % 2 = 1
    · rw [hh, beqT (show (mm : Int) / 2250 % 2 = 1 by lia)]; rfl
    · rw [beq_false_of_ne hh, beqF (by lia)]
  rw [eau]
  generalize opF (dd % 4) (dd / 4 % 3) mm = op at *
  refine wf_cons ?_
  refine wx_assign ?_; refine k_call ?_; refine we_pure 1 (by exact rfl) ?_; refine ⟨(by first | exact .builtin _ | exact .type _ | exact .K _ (by exact rfl)), ?_⟩; refine k_args ?_; refine k_sub ?_; refine we_pure 1 (by exact rfl) ?_; refine we_int ?_
  refine wsub_list (v := .lst (natsV (votersF mm))) .lst (by decide) (by decide) rfl ?_
  refine k_args ?_; refine k_sub ?_; refine we_pure 1 (by exact rfl) ?_; refine we_int ?_
  refine wsub_list (v := .lst (natsV (list1F mm))) .lst (by decide) (by decide) rfl ?_
  refine k_args ?_; refine k_sub ?_; refine we_pure 1 (by exact rfl) ?_; refine we_int ?_
  refine wsub_list (v := .lst (natsV (list2F mm))) .lst (by decide) (by decide) rfl ?_
  refine k_args ?_; refine k_sub ?_; refine we_pure 1 (by exact rfl) ?_; refine we_int ?_
  refine wsub_list (v := .lst (natsV (list3F mm))) .lst (by decide) (by decide) rfl ?_
  refine wargs_pure (by exact rfl) ?_
  have q : ∀ (l : List Nat) (σ' : Store), IsLst σ' (.lst (natsV l)) (intsV (zs l)) := fun l σ' => by rw [natsV_zs]; exact .lst
  have zl : ∀ l : List Nat, (zs l).length = l.length := fun l => by simp [zs]
  have z1 : (votersF mm).length = 3 := rfl
  have z2 : (list1F mm).length ≤ 2 := by unfold list1F; rw [List.length_take]; exact Nat.min_le_right _ _
  have z3 : (list2F mm).length ≤ 3 := by unfold list2F; rw [List.length_take]; exact Nat.min_le_right _ _
  have z4 : (list3F mm).length ≤ 1 := by unfold list3F; rw [List.length_take]; exact Nat.min_le_right _ _
  refine s_ConfState (n1 := zs (votersF mm)) (n2 := zs (list1F mm)) (n3 := zs (list2F mm)) (n4 := zs (list3F mm)) (room.le (by decide)) (fun σ' _ => q _ σ') (fun σ' _ => q _ σ') (fun σ' _ => q _ σ') (fun σ' _ => q _ σ') (by rw [zl]; lia) (by rw [zl]; lia) (by rw [zl]; lia) (by rw [zl]; lia) ?_
  obtain ⟨o1, o2, o3, o4⟩ := hrise mm
  refine wf_cons ?_
  refine wx_if ?_; refine k_cmp ?_; refine e_call (by exact rfl) (by first | exact .builtin _ | exact .type _ | exact .K _ (by exact rfl)) (by exact rfl) ?_
  refine (s_fold_record (by exact rfl) (room.le (by decide)) (by lia) (by lia) o1 o2 o3 o4 ?_).call
  rw [hfo]
  refine we_pure 1 (by exact rfl) ?_
  refine wcmp_bytes_ne ?_
  refine wtru_bool ?_
  refine ifF (by simp) ?_
  refine wxs_nil ?_
  refine wf_cons ?_
  refine wx_assign ?_; refine we_call0 ?_; refine we_pure 1 (by exact rfl) ?_; refine ⟨(by first | exact .builtin _ | exact .type _ | exact .K _ (by exact rfl)), ?_⟩
  refine s_SegmentState (room.le (by decide)) fun s d p σ' ks => ?_
  refine wf_cons ?_
  refine wx_assign ?_; refine we_list ?_; refine wargs_pure (by exact rfl) ?_; refine ⟨Nat.le_of_ble_eq_true rfl, ?_⟩
  intro r hr
  have ks2 := ks.base0 (o := .list []) hr
  generalize σ'.set r (.list []) = σ2 at ks2 ⊢
  refine wf_cons ?_
  refine wx_assign ?_; refine we_pure 1 (by exact rfl) ?_
  refine wf_wr (WR.le (loop_all (P := P) (dd := dd) (base := dd % 4) (op := op) room hn0 hnl hol F hP ks2 (fun ρ' σ'' => ?_)) (by walk_at "lel") (le_refl_store _))
  refine wf_cons ?_
  refine wx_return ?_; refine we_bool ?_
  rfl

end
section
variable {prog : Program} {w : World} {mean : ExcName → Option Value} {mg mb : Str → Option Value} {C : Ctx (G0 prog w mean mg mb)} {ρ : Loc} {σ : Store} {Q Qr : V → Store → Prop} {Qn : Loc → Store → Prop} {X : Prop}
theorem law_top {qual : Str} {f a : Addr} {cdv : Value} {s₀ : Shared} {P : Nat → Nat → Nat → List Row → SS → Prop} {ws : List Value} {sc : List Int} {oc : Obj} (room : (LC prog w mean mg mb qual f cdv s₀).Room 20) (hoc : oc.data = .cell none) (hscript : s₀.heap.IsList a ws.toArray) (hI : IntsAre ws sc) (hlen : sc.length ≤ 63)
    (F : ∀ i base last rows z, i < 8 → P i base last rows z → Facts (opF (drawF (numsF sc) 0 % 4) (drawF (numsF sc) 0 / 4 % 3) (drawF (numsF sc) 1)) (numsF sc) P i base last rows z) (hP : P 0 (drawF (numsF sc) 0 % 4) (drawF (numsF sc) 0 % 4) [] ⟨0, 0, 0, .none, 0, 0, 0, [], []⟩)
    (hfold : ∀ b bt m, 4 :: (leb b ++ leb bt ++ leb (encC (rise (zs (votersF m))) (rise (zs (list1F m))) (rise (zs (list2F m))) (rise (zs (list3F m))) (m / 2250 % 2 == 1)).length ++ encC (rise (zs (votersF m))) (rise (zs (list1F m))) (rise (zs (list2F m))) (rise (zs (list3F m))) (m / 2250 % 2 == 1)) = opF b bt m)
    (hrise : ∀ m, IdsOk (rise (zs (votersF m))) ∧ IdsOk (rise (zs (list1F m))) ∧ IdsOk (rise (zs (list2F m))) ∧ IdsOk (rise (zs (list3F m)))) :
    WF (LC prog w mean mg mb qual f cdv s₀) [(s₀.heap.objs.size + 1, oc)] (execs lawBody (LC prog w mean mg mb qual f cdv s₀).env) [("script", .raw (.ref a))] Store.emp := by
  unfold lawBody pickBody
  have hL : (LC prog w mean mg mb qual f cdv s₀).h₀.IsList a ws.toArray := hscript
  have hrs := reps_ints hI
  refine wf_cons (wx_comp (we_slice_raw hL hrs (by rw [List.length_map]; lia) ?_))
  refine we_pure 1 (by exact rfl) ?_
  refine ⟨rfl, ?_⟩
  refine we_int ?_; refine ⟨_, rfl, ?_⟩
  refine ⟨by decide, fun x hx => ?_⟩
  refine ⟨(sc.take 12).map V.int, modV, .lst (fun σ' hle => .ref (by rw [hle _ _ (Store.set_self ..), List.map_take]; rfl)), by simp; lia, fun ok v' hv' σ' fz' hid' D m w1 s' Q E hle st hns hm hrep hq => ?_, fun D hD => ?_⟩
  · obtain ⟨i, _, rfl⟩ := List.mem_map.mp hv'
    exact elt_mod st hns hm hrep (by decide) rfl rfl (by decide) fun b s'' hr st' => hq b fz' s'' (fun _ h => h) hr st'
  have e1 : ((sc.take 12).map V.int).map modV = natsV ((sc.take 12).map fun x => (x % 999983).toNat) := by
    unfold natsV
    rw [List.map_map, List.map_map]
    refine List.map_congr_left fun i _ => ?_
    show V.int (i % 999983) = V.int (((i % 999983).toNat : Nat) : Int)
    rw [Int.toNat_of_nonneg (Int.emod_nonneg _ (by decide))]
  rw [e1]
  refine WF.frzLoc (x := "nums") (a := D) (τ := Store.emp) (by exact rfl) (Store.set_self ..) (le_emp _) ?_
  refine wf_join (ρ₁ := [("nums", .lst (natsV (numsF sc)))]) (σ₁ := Store.emp) ?_ ?_
  · refine wx_if ?_; refine k_cmp ?_; refine k_call ?_; refine we_b_len (by exact rfl) ?_; refine ⟨(by first | exact .builtin _ | exact .type _ | exact .K _ (by exact rfl)), ?_⟩; refine wargs_pure (by exact rfl) ?_
    refine wlen_list .lst (by simp; lia) ?_
    by_cases c : (sc.take 12).length = 0
    · have e2 : numsF sc = [5] := by unfold numsF; rw [if_pos c]
      rw [e2]
      refine we_int ?_; refine wcmp_eq ?_; refine wtru_bool ?_
      refine ifT (beqT (by simp at c ⊢; lia)) ?_
      refine x_assign ?_; refine we_list ?_; refine wargs_pure (by exact rfl) ?_; refine ⟨Nat.le_of_ble_eq_true rfl, ?_⟩
      intro b hb
      refine WS.frzLoc (x := "nums") (a := b) (τ := Store.emp) (by exact rfl) (Store.set_self ..) (le_emp _) ?_
      refine wxs_nil ?_
      exact ⟨by walk_at "lel", le_emp _⟩
    · have e2 : numsF sc = (sc.take 12).map fun x => (x % 999983).toNat := by unfold numsF; rw [if_neg c]
      rw [e2]
      refine we_int ?_; refine wcmp_eq ?_; refine wtru_bool ?_
      refine ifF (beqF (by simp at c ⊢; lia)) ?_
      refine wxs_nil ?_
      exact ⟨by walk_at "lel", le_emp _⟩
  have hn0 : numsF sc ≠ [] := by
    unfold numsF
    split
    · simp
    · rename_i c
      intro q
      apply c
      have := congrArg List.length q
      simpa using this
  have hnl : (numsF sc).length ≤ 100 := by
    unfold numsF
    split
    · simp
    · simp; lia
  generalize numsF sc = ns at *
  refine wf_cons ?_
  refine wx_assign ?_; refine e_call (by exact rfl) (by first | exact .builtin _ | exact .type _ | exact .K _ (by exact rfl)) (by exact rfl) ?_
  refine (s_draw (i := 0) (room.le (by decide)) (fun _ _ => .lst) hn0 hnl (by decide) ?_).call
  generalize drawF ns 0 = dd at *
  refine wf_cons ?_
  refine wx_assign ?_; refine k_bin ?_; refine we_pure 1 (by exact rfl) ?_; refine we_int ?_; refine wbin_mod (by first | decide | lia) ?_
  refine wf_cons ?_
  refine wx_assign ?_; refine k_bin ?_; refine k_bin ?_; refine we_pure 1 (by exact rfl) ?_; refine we_int ?_; refine wbin_div (by first | decide | lia) (by first | decide | lia) ?_; refine we_int ?_; refine wbin_mod (by first | decide | lia) ?_
  refine wf_cons ?_
  refine wx_assign ?_; refine e_call (by exact rfl) (by first | exact .builtin _ | exact .type _ | exact .K _ (by exact rfl)) (by exact rfl) ?_
  refine (s_draw (i := 1) (room.le (by decide)) (fun _ _ => .lst) hn0 hnl (by decide) ?_).call
  generalize drawF ns 1 = mm at *
  refine wf_cons ?_
  refine wx_assign ?_; refine we_list ?_; refine k_args ?_; refine k_bin ?_; refine we_int ?_; refine k_bin ?_; refine we_pure 1 (by exact rfl) ?_; refine we_int ?_; refine wbin_mod (by first | decide | lia) ?_; refine wbin_add ?_; refine k_args ?_; refine k_bin ?_; refine we_int ?_; refine k_bin ?_; refine k_bin ?_; refine we_pure 1 (by exact rfl) ?_; refine we_int ?_; refine wbin_div (by first | decide | lia) (by first | decide | lia) ?_; refine we_int ?_; refine wbin_mod (by first | decide | lia) ?_; refine wbin_add ?_; refine k_args ?_; refine k_bin ?_; refine we_int ?_; refine k_bin ?_; refine k_bin ?_; refine we_pure 1 (by exact rfl) ?_; refine we_int ?_; refine wbin_div (by first | decide | lia) (by first | decide | lia) ?_; refine we_int ?_; refine wbin_mod (by first | decide | lia) ?_; refine wbin_add ?_; refine wargs_pure (by exact rfl) ?_; refine ⟨Nat.le_of_ble_eq_true rfl, ?_⟩
  intro b0 hb0
  have ev : [V.int ((1 : Int) + (mm : Int) % 5), V.int ((1 : Int) + (mm : Int) / 5 % 5), V.int ((1 : Int) + (mm : Int) / 25 % 5)] = natsV (votersF mm) := rfl
  rw [ev]
  refine WF.frzLoc (x := "voters") (a := b0) (τ := Store.emp) (by exact rfl) (Store.set_self ..) (le_emp _) ?_
  refine WF.le (ρ' := [("nums", .lst (natsV ns)), ("d", .int (dd : Nat)), ("base", .int ((dd % 4 : Nat) : Int)), ("base_term", .int ((dd / 4 % 3 : Nat) : Int)), ("m", .int (mm : Nat)), ("voters", .lst (natsV (votersF mm)))]) (σ' := Store.emp) ?_ (by walk_at "lel") (fun _ _ h => h)
  have vl : (natsV (votersF mm)).length = 3 := rfl
  refine wf_cons ?_
  refine wx_assign ?_; refine we_list ?_; refine k_args ?_; refine we_pure 1 (by exact rfl) ?_; refine k_args ?_
  refine WE.frz (we_slice_listA ?_)
  refine we_list ?_; refine wargs_pure (by exact rfl) ?_; refine ⟨Nat.le_of_ble_eq_true rfl, ?_⟩
  intro b1 hb1
  refine k_bin ?_; refine k_bin ?_; refine we_pure 1 (by exact rfl) ?_; refine we_int ?_; refine wbin_div (by first | decide | lia) (by first | decide | lia) ?_; refine we_int ?_; refine wbin_mod (by first | decide | lia) ?_
  refine ⟨[V.int 6, V.int 7], _, .ref (Store.set_self ..), rfl, by lia, by decide, fun x hx => ⟨_, _, .list (Store.set_self ..), ?_⟩⟩
  rw [Store.del_set hx]
  have el1 : List.take ((mm : Int) / 125 % 3).toNat [V.int 6, V.int 7] = natsV (list1F mm) := by unfold natsV list1F; rw [List.map_take]; rfl
  rw [el1]
  refine k_args ?_
  refine WE.frz (we_slice_listA ?_)
  refine we_pure 1 (by exact rfl) ?_; refine k_bin ?_; refine k_bin ?_; refine we_pure 1 (by exact rfl) ?_; refine we_int ?_; refine wbin_div (by first | decide | lia) (by first | decide | lia) ?_; refine we_int ?_; refine wbin_mod (by first | decide | lia) ?_
  refine ⟨natsV (votersF mm), _, .lst, rfl, by lia, by lia, fun x hx => ⟨_, _, .list (Store.set_self ..), ?_⟩⟩
  rw [Store.del_set hx]
  have el2 : List.take ((mm : Int) / 375 % 3).toNat (natsV (votersF mm)) = natsV (list2F mm) := by unfold natsV list2F; rw [List.map_take]; rfl
  rw [el2]
  refine k_args ?_
  refine WE.frz (we_slice_listA ?_)
  refine we_list ?_; refine wargs_pure (by exact rfl) ?_; refine ⟨Nat.le_of_ble_eq_true rfl, ?_⟩
  intro b3 hb3
  refine k_bin ?_; refine k_bin ?_; refine we_pure 1 (by exact rfl) ?_; refine we_int ?_; refine wbin_div (by first | decide | lia) (by first | decide | lia) ?_; refine we_int ?_; refine wbin_mod (by first | decide | lia) ?_
  refine ⟨[V.int 8], _, .ref (Store.set_self ..), rfl, by lia, by decide, fun x hx => ⟨_, _, .list (Store.set_self ..), ?_⟩⟩
  rw [Store.del_set hx]
  have el3 : List.take ((mm : Int) / 1125 % 2).toNat [V.int 8] = natsV (list3F mm) := by unfold natsV list3F; rw [List.map_take]; rfl
  rw [el3]
  refine wargs_pure (by exact rfl) ?_; refine ⟨Nat.le_of_ble_eq_true rfl, ?_⟩
  intro b4 hb4
  refine WF.frzLoc (x := "lists") (a := b4) (τ := Store.emp) (by exact rfl) (Store.set_self ..) (le_emp _) ?_
  refine wf_cons ?_
  refine wx_assign ?_; refine we_cmp ?_; refine k_bin ?_; refine k_bin ?_; refine we_pure 1 (by exact rfl) ?_; refine we_int ?_; refine wbin_div (by first | decide | lia) (by first | decide | lia) ?_; refine we_int ?_; refine wbin_mod (by first | decide | lia) ?_; refine we_int ?_; refine wcmp_eq ?_
  refine wf_cons ?_
  refine wx_assign ?_; refine we_bytes ?_
  refine WF.le (ρ' := [("nums", .lst (natsV ns)), ("d", .int (dd : Nat)), ("base", .int ((dd % 4 : Nat) : Int)), ("base_term", .int ((dd / 4 % 3 : Nat) : Int)), ("m", .int (mm : Nat)), ("lists", .lst [.lst (natsV (votersF mm)), .lst (natsV (list1F mm)), .lst (natsV (list2F mm)), .lst (natsV (list3F mm))]), ("auto", .bool ((mm : Int) / 2250 % 2 == 1)), ("body", .bytes [])]) (σ' := Store.emp) ?_ (by walk_at "lel") (fun _ _ h => h)
  refine wf_cell (by exact rfl) (by exact rfl) hoc (ι := List UInt8) (fun b => [("nums", .lst (natsV ns)), ("d", .int (dd : Nat)), ("base", .int ((dd % 4 : Nat) : Int)), ("base_term", .int ((dd / 4 % 3 : Nat) : Int)), ("m", .int (mm : Nat)), ("lists", .lst [.lst (natsV (votersF mm)), .lst (natsV (list1F mm)), .lst (natsV (list2F mm)), .lst (natsV (list3F mm))]), ("auto", .bool ((mm : Int) / 2250 % 2 == 1)), ("body", .bytes b)]) (fun _ => Store.emp) (fun i b => b = ([votersF mm, list1F mm, list2F mm, list3F mm].take i).flatMap partF ∧ b.length ≤ 10 * i) ?_
  refine we_pure 1 (by exact rfl) ?_
  refine ⟨[.lst (natsV (votersF mm)), .lst (natsV (list1F mm)), .lst (natsV (list2F mm)), .lst (natsV (list3F mm))], [], fun _ _ _ _ _ => .lst, ⟨rfl, Nat.le_refl _⟩, Loc.le_refl _, fun _ _ h => h, ?_, ?_⟩
  · intro i v j hv hj ok fz hid oc2 w2 s Qc Ec st hm2 hd hr hq
    obtain ⟨hj1, hj2⟩ := hj
    have hv' : ([votersF mm, list1F mm, list2F mm, list3F mm].map fun l => V.lst (natsV l))[i]? = some v := hv
    rw [List.getElem?_map] at hv'
    obtain ⟨l, hl, rfl⟩ : ∃ l, [votersF mm, list1F mm, list2F mm, list3F mm][i]? = some l ∧ V.lst (natsV l) = v := by
      cases q : [votersF mm, list1F mm, list2F mm, list3F mm][i]? with
      | none => rw [q] at hv'; cases hv'
      | some l => rw [q] at hv'; cases hv'; exact ⟨l, rfl, rfl⟩
    have hi4 : i < 4 := (List.getElem?_eq_some_iff.mp hl).1
    have helen : (eachF l).length ≤ 9 := by
      unfold eachF
      exact List.length_filter_le _ _
    have he9 : ∀ k ∈ eachF l, k < 9 := fun k hk => by
      unfold eachF at hk
      exact List.mem_range.mp (List.mem_filter.mp hk).1
    refine nCons (.any (comp_st ok st (cl := [(("ids" : Str), s₀.heap.objs.size + 1)]) ?_ rfl rfl (by decide) rfl (by decide) rfl rfl (by intro _; rfl)))
    refine k_call ?_; refine we_b_range (by exact rfl) ?_; refine ⟨(by first | exact .builtin _ | exact .type _ | exact .K _ (by exact rfl)), ?_⟩; refine wargs_pure (by exact rfl) ?_
    refine wrange1 ⟨_, fun v => match v with | .int k => (zs l).any (· == k) | _ => false, fun v => v, .rng 9 (by decide), by simp, ?_, ?_, ?_⟩
    · intro v' hv' σ' fz' hid' D m w1 s' Q E hle hf hh st' hns hm hrep hq'
      obtain ⟨k, hk, rfl⟩ := List.mem_map.mp hv'
      refine wpAny_tests_one (wpN.toAny (nTrueCompare (.any (wpAny_Name (wpAny_loadName_local rfl rfl hns hm (.any (wpAny_Name (wpAny_loadName_cell rfl rfl rfl ⟨oc2, st'.getAny (hh _ hm2), hd⟩ ?_) (by decide)))) (by decide))) (by with_unfolding_all rfl)))
      have hr' : Rep fz' (.lst ((zs l).map V.int)) w2 := by have := hr.mono hf; rw [natsV_zs] at this; exact this
      obtain ⟨x, ws2, n2, e, hx, hrs2⟩ := st'.lst (.lst : IsLst σ' (.lst ((zs l).map V.int)) _) hr'
      subst e
      cases hrep with
      | int _ t =>
      exact .any (in_list_ints (isList_of hx) (intsAre_of hrs2) (.any (wpAny_truthy_bool (hq' s'.toks))))
    · intro v' hv' hp σ' fz' hid' D m w1 s' Q E hle hf hh st' hns hm hrep hq'
      exact wpAny_Name (wpAny_loadName_local rfl rfl hns hm (hq' w1 fz' s' (fun _ h => h) hrep st')) (by decide)
    · intro D fz' s' hD hf st'
      have ee : ((((List.range 9).map fun i : Nat => V.int (i : Int)).filter fun v => match v with | .int k => (zs l).any (· == k) | _ => false).map fun v => v) = natsV (eachF l) := by
        rw [List.map_id', List.filter_map]
        rfl
      have st' : St (LC prog w mean mg mb qual f cdv s₀) (fput "each" (.ref D) [("nums", .lst (natsV ns)), ("d", .int (dd : Nat)), ("base", .int ((dd % 4 : Nat) : Int)), ("base_term", .int ((dd / 4 % 3 : Nat) : Int)), ("m", .int (mm : Nat)), ("lists", .lst [.lst (natsV (votersF mm)), .lst (natsV (list1F mm)), .lst (natsV (list2F mm)), .lst (natsV (list3F mm))]), ("auto", .bool ((mm : Int) / 2250 % 2 == 1)), ("body", .bytes j)]) (Store.emp.set D (.list (natsV (eachF l)))) fz' hid s' := by rw [← ee]; exact st'
      have hnl9 : (natsV (eachF l)).length = (eachF l).length := by simp [natsV]
      have hj3 : j.length ≤ 40 := by lia
      show wpN (LC prog w mean mg mb qual f cdv s₀).nd (G0 prog w mean mg mb).M (LC prog w mean mg mb qual f cdv s₀).A (execs _ _) Qc Ec s'
      refine ws_apply (Qn' := fun ρ' σ' => Loc.Le [("nums", .lst (natsV ns)), ("d", .int (dd : Nat)), ("base", .int ((dd % 4 : Nat) : Int)), ("base_term", .int ((dd / 4 % 3 : Nat) : Int)), ("m", .int (mm : Nat)), ("lists", .lst [.lst (natsV (votersF mm)), .lst (natsV (list1F mm)), .lst (natsV (list2F mm)), .lst (natsV (list3F mm))]), ("auto", .bool ((mm : Int) / 2250 % 2 == 1)), ("body", .bytes (j ++ partF l))] ρ') ?_ ok st' fun ρ' σ' fz'' s'' f2 hle st'' => hq (j ++ partF l) ρ' σ' fz'' s'' ⟨?_, ?_⟩ hle (le_emp _) (fun p hp => f2 _ (hf _ hp)) st''
      · refine x_assign ?_; refine k_bin ?_; refine we_pure 1 (by exact rfl) ?_; refine k_call ?_; refine we_b_bytes (by exact rfl) ?_; refine ⟨(by first | exact .builtin _ | exact .type _ | exact .K _ (by exact rfl)), ?_⟩; refine k_args ?_; refine k_bin ?_; refine we_list ?_; refine k_args ?_; refine k_call ?_; refine we_b_len (by exact rfl) ?_; refine ⟨(by first | exact .builtin _ | exact .type _ | exact .K _ (by exact rfl)), ?_⟩; refine wargs_pure (by exact rfl) ?_
        refine wlen_list (.ref (Store.set_self ..)) (by lia) ?_
        rw [hnl9]
        refine wargs_pure (by exact rfl) ?_; refine ⟨Nat.le_of_ble_eq_true rfl, ?_⟩
        intro b hb
        have hDb : D ≠ b := fun q => by subst q; rw [Store.set_self] at hb; cases hb
        refine we_pure 1 (by exact rfl) ?_
        refine wbin_list_add (.ref (Store.set_self ..)) (.ref ((Store.set_ne _ _ hDb).trans (Store.set_self ..))) (by simp; lia) fun y hy => ?_
        refine wargs_pure (by exact rfl) ?_
        have ey : [V.int (((eachF l).length : Nat) : Int)] ++ natsV (eachF l) = ((((eachF l).length : Nat) : Int) :: zs (eachF l)).map V.int := by rw [natsV_zs]; rfl
        rw [ey]
        refine wcall_bytes_ints (.ref (Store.set_self ..)) (fun n hn => ?_) (by simp; lia) ?_
        · rcases List.mem_cons.mp hn with rfl | hn
          · lia
          · obtain ⟨k, hk, rfl⟩ := List.mem_map.mp hn
            have := he9 k hk
            lia
        have ep : ((((eachF l).length : Nat) : Int) :: zs (eachF l)).map (fun n => n.toNat.toUInt8) = partF l := by
          unfold partF zs
          rw [List.map_cons, List.map_cons, List.map_map]
          rfl
        rw [ep]
        have hpl : (partF l).length ≤ 10 := by unfold partF; simp; lia
        refine wbin_bytes (by lia) ?_
        refine wxs_nil ?_
        walk_at "lel"
      · rw [List.take_add_one, hl, hj1]
        simp
      · unfold partF
        simp
        lia
  · intro j hj
    exact law_rest room hn0 hnl hj F hP hfold hrise

end
end Lw
end
section
set_option autoImplicit false
set_option linter.unusedVariables false
namespace Lw
/-- a number of groups of seven bits, off a list -/
noncomputable def nl : Nat → List UInt8 → Option (Nat × List UInt8)
  | 0, _ => none
  | _ + 1, [] => none
  | f + 1, x :: r => if x.toNat < 128 then some (x.toNat, r) else match nl f r with
    | none => none
    | some (n, r') => some (x.toNat % 128 + 128 * n, r')
theorem nl_suf : ∀ {f : Nat} {l r : List UInt8} {n : Nat}, nl f l = some (n, r) → ∃ a, l = a ++ r ∧ 0 < a.length ∧ a.length ≤ f
  | 0, l, r, n, h => by cases h
  | f + 1, [], r, n, h => by cases h
  | f + 1, x :: l, r, n, h => by
    unfold nl at h
    by_cases hx : x.toNat < 128
    · rw [if_pos hx] at h
      cases h
      exact ⟨[x], rfl, by simp, by simp⟩
    · rw [if_neg hx] at h
      cases e : nl f l with
      | none => rw [e] at h; cases h
      | some q =>
        obtain ⟨m, r'⟩ := q
        rw [e] at h
        dsimp only at h
        cases h
        obtain ⟨a, rfl, h1, h2⟩ := nl_suf e
        exact ⟨x :: a, rfl, by simp, by simp; lia⟩
theorem drop_get {b : List UInt8} {p : Nat} (h : p < b.length) : b.drop p = b.getD p 0 :: b.drop (p + 1) := by
  rw [List.drop_eq_getElem_cons h]
  simp [h]
theorem rg_nl {b : List UInt8} {most : Nat} : ∀ {k p n sh : Nat}, rg b most k p n sh = match nl k (b.drop p) with
    | none => none
    | some (m, r) => if n + m * 2 ^ sh > most then none else some (n + m * 2 ^ sh, b.length - r.length)
  | 0, p, n, sh => by rfl
  | k + 1, p, n, sh => by
    unfold rg
    by_cases hp : p ≥ b.length
    · rw [if_pos hp, List.drop_eq_nil_of_le hp]
      rfl
    · have hp' : p < b.length := by lia
      rw [if_neg hp, drop_get hp']
      unfold nl
      dsimp only
      by_cases ho : (b.getD p 0).toNat < 128
      · rw [if_pos ho, if_pos ho]
        dsimp only
        rw [Nat.mod_eq_of_lt ho, List.length_drop, show b.length - (b.length - (p + 1)) = p + 1 by lia]
      · rw [if_neg ho, if_neg ho, rg_nl]
        cases nl k (b.drop (p + 1)) with
        | none => rfl
        | some q =>
          obtain ⟨m, r⟩ := q
          dsimp only
          have e : n + (b.getD p 0).toNat % 128 * 2 ^ sh + m * 2 ^ (sh + 7) = n + ((b.getD p 0).toNat % 128 + 128 * m) * 2 ^ sh := by
            rw [Nat.pow_add, Nat.add_mul]
            have : m * (2 ^ sh * 2 ^ 7) = 128 * m * 2 ^ sh := by
              rw [Nat.mul_comm (2 ^ sh), ← Nat.mul_assoc, Nat.mul_comm m]
            lia
          rw [e]
theorem ln_nl {b : List UInt8} : ∀ {k p n sc : Nat}, ln b k p n sc = match nl k (b.drop p) with
    | none => none
    | some (m, r) => some (n + m * sc, b.length - r.length)
  | 0, p, n, sc => by rfl
  | k + 1, p, n, sc => by
    unfold ln
    by_cases hp : p ≥ b.length
    · rw [if_pos hp, List.drop_eq_nil_of_le hp]
      rfl
    · have hp' : p < b.length := by lia
      rw [if_neg hp, drop_get hp']
      unfold nl
      dsimp only
      by_cases ho : (b.getD p 0).toNat < 128
      · rw [if_pos ho, if_pos ho]
        dsimp only
        rw [Nat.mod_eq_of_lt ho, List.length_drop, show b.length - (b.length - (p + 1)) = p + 1 by lia]
      · rw [if_neg ho, if_neg ho, ln_nl]
        cases nl k (b.drop (p + 1)) with
        | none => rfl
        | some q =>
          obtain ⟨m, r⟩ := q
          dsimp only
          have e : n + (b.getD p 0).toNat % 128 * sc + m * (sc * 128) = n + ((b.getD p 0).toNat % 128 + 128 * m) * sc := by
            rw [Nat.add_mul]
            have : m * (sc * 128) = 128 * m * sc := by
              rw [Nat.mul_comm sc, ← Nat.mul_assoc, Nat.mul_comm m]
            lia
          rw [e]
/-- where a list stands within another -/
structure At (b : List UInt8) (p : Nat) (l : List UInt8) : Prop where
  eq : b.drop p = l
  le : p ≤ b.length
theorem At.len {b l : List UInt8} {p : Nat} (h : At b p l) : l.length = b.length - p := by rw [← h.eq, List.length_drop]
theorem At.app {b a r : List UInt8} {p : Nat} (h : At b p (a ++ r)) : At b (b.length - r.length) r := by
  have h1 := h.len
  rw [List.length_append] at h1
  have h2 := h.le
  refine ⟨?_, by lia⟩
  have e : b.length - r.length = p + a.length := by lia
  rw [e, ← List.drop_drop, h.eq, List.drop_left]
theorem At.nl {b l r : List UInt8} {p f n : Nat} (h : At b p l) (e : nl f l = some (n, r)) : At b (b.length - r.length) r := by
  obtain ⟨a, rfl, _, _⟩ := nl_suf e
  exact h.app
theorem LN_none {b l : List UInt8} {p f : Nat} (h : At b p l) (e : nl f l = none) : LN b p f = none := by
  unfold LN
  rw [ln_nl, h.eq, e]
theorem LN_some {b l r : List UInt8} {p f n : Nat} (h : At b p l) (e : nl f l = some (n, r)) : LN b p f = some (n, b.length - r.length) := by
  unfold LN
  rw [ln_nl, h.eq, e]
  simp
/-- the numbers on a list, wherever they are read, are below 2^64 -/
noncomputable def Sm (l : List UInt8) : Prop := ∀ a s n r, l = a ++ s → nl 10 s = some (n, r) → n < 2 ^ 64
theorem Sm.suf {a l : List UInt8} (h : Sm (a ++ l)) : Sm l := fun x s n r e k => h (a ++ x) s n r (by rw [e, List.append_assoc]) k
end Lw

end
section
set_option autoImplicit false
set_option linter.unusedVariables false
namespace Lw
/-! strictly rising lists -/
theorem dd1_snoc {out : List Int} {a x : Int} : dd1 (out ++ [a]) x = if a = x then out ++ [a] else out ++ [a] ++ [x] := by
  unfold dd1
  simp
theorem dd_spec : ∀ (s out : List Int), out.Pairwise (· < ·) → s.Pairwise (· ≤ ·) → (∀ a ∈ out, ∀ b ∈ s, a ≤ b) → (s.foldl dd1 out).Pairwise (· < ·) ∧ ∀ x, x ∈ s.foldl dd1 out ↔ x ∈ out ∨ x ∈ s
  | [], out, h1, h2, h3 => ⟨h1, fun x => by simp⟩
  | b :: s, out, h1, h2, h3 => by
    rw [List.pairwise_cons] at h2
    have key : (dd1 out b).Pairwise (· < ·) ∧ (∀ x, x ∈ dd1 out b ↔ x ∈ out ∨ x = b) ∧ ∀ a ∈ dd1 out b, ∀ c ∈ s, a ≤ c := by
      rcases list_snoc out with rfl | ⟨L, l, rfl⟩
      · have e : dd1 [] b = [b] := by unfold dd1; simp
        rw [e]
        refine ⟨by simp, fun x => by simp, fun a ha c hc => ?_⟩
        rw [List.mem_singleton] at ha
        subst ha
        exact h2.1 c hc
      · rw [dd1_snoc]
        have hlb : l ≤ b := h3 l (by simp) b (by simp)
        by_cases e : l = b
        · subst e
          rw [if_pos rfl]
          refine ⟨h1, fun x => ?_, fun a ha c hc => h3 a ha c (by simp [hc])⟩
          simp
        · rw [if_neg e]
          refine ⟨?_, fun x => by simp [or_assoc], fun a ha c hc => ?_⟩
          · rw [List.pairwise_append]
            refine ⟨h1, by simp, fun a ha c hc => ?_⟩
            rw [List.mem_singleton] at hc
            subst hc
            have hal : a ≤ l := by
              rw [List.pairwise_append] at h1
              rcases List.mem_append.mp ha with ha | ha
              · exact Int.le_of_lt (h1.2.2 a ha l (by simp))
              · simp at ha; lia
            lia
          · rcases List.mem_append.mp ha with ha | ha
            · exact h3 a ha c (by simp [hc])
            · simp at ha; subst ha; exact h2.1 c hc
    obtain ⟨k1, k2, k3⟩ := key
    obtain ⟨r1, r2⟩ := dd_spec s (dd1 out b) k1 h2.2 k3
    refine ⟨r1, fun x => ?_⟩
    rw [List.foldl_cons, r2, k2]
    simp [or_assoc]
theorem sortI_sorted (l : List Int) : (sortI l).Pairwise (· ≤ ·) := by
  have := List.pairwise_mergeSort (le := fun a b : Int => decide (a ≤ b)) (by simp; intro a b c; lia) (by simp; intro a b; lia) l
  exact this.imp (by simp)
theorem sortI_mem (l : List Int) (x : Int) : x ∈ sortI l ↔ x ∈ l := (List.mergeSort_perm l _).mem_iff
theorem rise_spec (l : List Int) : (rise l).Pairwise (· < ·) ∧ ∀ x, x ∈ rise l ↔ x ∈ l := by
  obtain ⟨h1, h2⟩ := dd_spec (sortI l) [] List.Pairwise.nil (sortI_sorted l) (fun a ha => by cases ha)
  refine ⟨h1, fun x => ?_⟩
  have := h2 x
  rw [sortI_mem] at this
  unfold rise
  rw [this]
  simp
theorem rising_eq : ∀ {a b : List Int}, a.Pairwise (· < ·) → b.Pairwise (· < ·) → (∀ x, x ∈ a ↔ x ∈ b) → a = b
  | [], [], _, _, _ => rfl
  | [], y :: b, _, _, h => by have := (h y).mpr (by simp); cases this
  | x :: a, [], _, _, h => by have := (h x).mp (by simp); cases this
  | x :: a, y :: b, h1, h2, h => by
    rw [List.pairwise_cons] at h1 h2
    have hxy : x = y := by
      have m1 := (h x).mp (by simp)
      have m2 := (h y).mpr (by simp)
      rcases List.mem_cons.mp m1 with e | m1
      · exact e
      · rcases List.mem_cons.mp m2 with e | m2
        · exact e.symm
        · have := h1.1 y m2
          have := h2.1 x m1
          lia
    subst hxy
    have : a = b := rising_eq h1.2 h2.2 fun z => by
      have hz := h z
      constructor
      · intro m
        have := hz.mp (by simp [m])
        rcases List.mem_cons.mp this with e | m'
        · subst e; have := h1.1 z m; lia
        · exact m'
      · intro m
        have := hz.mpr (by simp [m])
        rcases List.mem_cons.mp this with e | m'
        · subst e; have := h2.1 z m; lia
        · exact m'
    rw [this]
theorem rise_eq {l r : List Int} (h : r.Pairwise (· < ·)) (hm : ∀ x, x ∈ r ↔ x ∈ l) : rise l = r :=
  rising_eq (rise_spec l).1 h fun x => by rw [(rise_spec l).2, hm]
theorem rise_self {r : List Int} (h : r.Pairwise (· < ·)) : rise r = r := rise_eq h fun _ => Iff.rfl
theorem zs_mem {l : List Nat} {x : Int} : x ∈ zs l ↔ ∃ k ∈ l, x = (k : Int) := by
  unfold zs
  rw [List.mem_map]
  exact ⟨fun ⟨k, h, e⟩ => ⟨k, h, e.symm⟩, fun ⟨k, h, e⟩ => ⟨k, h, e.symm⟩⟩
theorem rise_each {l : List Nat} (h : ∀ k ∈ l, k < 9) : rise (zs l) = zs (eachF l) := by
  refine rise_eq ?_ fun x => ?_
  · unfold zs
    rw [List.pairwise_map]
    unfold eachF
    refine (List.Pairwise.filter _ List.pairwise_lt_range).imp fun h => ?_
    lia
  · rw [zs_mem, zs_mem]
    constructor
    · rintro ⟨k, hk, rfl⟩
      have := (List.mem_filter.mp hk).2
      rw [List.any_eq_true] at this
      obtain ⟨y, hy, e⟩ := this
      rw [zs_mem] at hy
      obtain ⟨j, hj, rfl⟩ := hy
      have : (j : Int) = k := by simpa using e
      exact ⟨j, hj, this.symm⟩
    · rintro ⟨k, hk, rfl⟩
      refine ⟨k, List.mem_filter.mpr ⟨List.mem_range.mpr (h k hk), ?_⟩, rfl⟩
      rw [List.any_eq_true]
      exact ⟨(k : Int), zs_mem.mpr ⟨k, hk, rfl⟩, by simp⟩
theorem enc_each {l : List Nat} (h : ∀ k ∈ l, k < 9) : encIds (rise (zs l)) = partF l := by
  rw [rise_each h]
  have hl : (eachF l).length ≤ 9 := by unfold eachF; exact List.length_filter_le _ _
  have h9 : ∀ k ∈ eachF l, k < 9 := fun k hk => List.mem_range.mp (List.mem_filter.mp hk).1
  unfold encIds partF
  have e1 : (zs (eachF l)).length = (eachF l).length := by simp [zs]
  rw [e1, leb_small (by lia)]
  have e2 : ∀ r : List Nat, (∀ k ∈ r, k < 9) → (zs r).flatMap (fun x => leb x.toNat) = r.map fun n => n.toUInt8 := by
    intro r hr
    induction r with
    | nil => rfl
    | cons a r ih =>
      have ih := ih fun k hk => hr k (by simp [hk])
      show leb ((a : Int)).toNat ++ (zs r).flatMap (fun x => leb x.toNat) = _
      rw [ih, show ((a : Int)).toNat = a from rfl, leb_small (by have := hr a (by simp); lia)]
      rfl
  rw [e2 _ h9]
  rfl
theorem lists_small (m : Nat) : (∀ k ∈ votersF m, k < 9) ∧ (∀ k ∈ list1F m, k < 9) ∧ (∀ k ∈ list2F m, k < 9) ∧ (∀ k ∈ list3F m, k < 9) := by
  have hv : ∀ k ∈ votersF m, k < 9 := by
    unfold votersF
    simp only [List.mem_cons, List.not_mem_nil, or_false]
    intro k hk
    lia
  refine ⟨hv, fun k hk => ?_, fun k hk => hv k (List.mem_of_mem_take hk), fun k hk => ?_⟩
  · have := List.mem_of_mem_take hk
    simp at this; lia
  · have := List.mem_of_mem_take hk
    simp at this; lia
theorem fold_holds (b bt m : Nat) : 4 :: (leb b ++ leb bt ++ leb (encC (rise (zs (votersF m))) (rise (zs (list1F m))) (rise (zs (list2F m))) (rise (zs (list3F m))) (m / 2250 % 2 == 1)).length ++ encC (rise (zs (votersF m))) (rise (zs (list1F m))) (rise (zs (list2F m))) (rise (zs (list3F m))) (m / 2250 % 2 == 1)) = opF b bt m := by
  obtain ⟨h1, h2, h3, h4⟩ := lists_small m
  have e : encC (rise (zs (votersF m))) (rise (zs (list1F m))) (rise (zs (list2F m))) (rise (zs (list3F m))) (m / 2250 % 2 == 1) = bodyF m := by
    unfold encC bodyF
    rw [enc_each h1, enc_each h2, enc_each h3, enc_each h4]
    have hm : m / 2250 % 2 = 0 ∨ m / 2250 % 2 = 1 := by lia
    have e2 : [if (m / 2250 % 2 == 1) = true then (1 : UInt8) else 0] = [(m / 2250 % 2).toUInt8] := by
      rcases hm with h | h <;> rw [h] <;> rfl
    rw [e2]
    simp
  rw [e]
  rfl
theorem rise_ok (m : Nat) : IdsOk (rise (zs (votersF m))) ∧ IdsOk (rise (zs (list1F m))) ∧ IdsOk (rise (zs (list2F m))) ∧ IdsOk (rise (zs (list3F m))) := by
  have key : ∀ l : List Nat, (∀ k ∈ l, k < 9) → IdsOk (rise (zs l)) := fun l h => by
    rw [rise_each h]
    have hl : (eachF l).length ≤ 9 := by unfold eachF; exact List.length_filter_le _ _
    refine ⟨by simp [zs]; lia, fun x hx => ?_⟩
    obtain ⟨k, hk, rfl⟩ := zs_mem.mp hx
    have := List.mem_range.mp (List.mem_filter.mp hk).1
    lia
  obtain ⟨h1, h2, h3, h4⟩ := lists_small m
  exact ⟨key _ h1, key _ h2, key _ h3, key _ h4⟩
end Lw

end
section
set_option autoImplicit false
set_option linter.unusedVariables false
namespace Lw
noncomputable abbrev E4 := Nat × Nat × Nat × List UInt8
noncomputable def standStep (e : E4) (st : List E4) : List E4 := if (match st with | [] => true | h :: _ => decide (e.2.1 < h.2.1)) = true then e :: st else st
noncomputable def standF (l : List E4) : List E4 := l.foldr standStep []
theorem standStep_inc {e : E4} {st : List E4} (h : st.Pairwise fun a b => a.2.1 < b.2.1) : (standStep e st).Pairwise fun a b => a.2.1 < b.2.1 := by
  cases st with
  | nil => unfold standStep; simp
  | cons a r =>
    by_cases c : e.2.1 < a.2.1
    · have e1 : standStep e (a :: r) = e :: a :: r := by unfold standStep; simp [c]
      rw [e1, List.pairwise_cons]
      refine ⟨fun b hb => ?_, h⟩
      rw [List.pairwise_cons] at h
      rcases List.mem_cons.mp hb with rfl | hb
      · exact c
      · have := h.1 b hb; lia
    · have e1 : standStep e (a :: r) = a :: r := by unfold standStep; simp [c]
      rw [e1]
      exact h
theorem standF_inc (l : List E4) : (standF l).Pairwise fun a b => a.2.1 < b.2.1 := by
  unfold standF
  induction l with
  | nil => exact List.Pairwise.nil
  | cons a r ih => exact standStep_inc ih
theorem filter_none {st : List E4} {n : Nat} (h : ∀ a ∈ st, n ≤ a.2.1) : st.filter (fun a => decide (a.2.1 < n)) = [] := by
  rw [List.filter_eq_nil_iff]
  intro a ha
  have := h a ha
  simpa using this
theorem step_snoc {a e : E4} {S : List E4} (hS : S.Pairwise fun a b => a.2.1 < b.2.1) :
    standStep a (S.filter (fun x => decide (x.2.1 < e.2.1)) ++ [e]) = (standStep a S).filter (fun x => decide (x.2.1 < e.2.1)) ++ [e] := by
  cases S with
  | nil =>
    unfold standStep
    by_cases c : a.2.1 < e.2.1
    · simp [c]
    · simp [c]
  | cons h r =>
    rw [List.pairwise_cons] at hS
    by_cases c1 : h.2.1 < e.2.1
    · have e1 : (h :: r).filter (fun x => decide (x.2.1 < e.2.1)) = h :: r.filter (fun x => decide (x.2.1 < e.2.1)) := by simp [c1]
      rw [e1]
      unfold standStep
      by_cases c2 : a.2.1 < h.2.1
      · have c3 : a.2.1 < e.2.1 := by lia
        simp [c2, c1, c3]
      · simp [c2, c1]
    · have e1 : (h :: r).filter (fun x => decide (x.2.1 < e.2.1)) = [] := filter_none fun b hb => by
        rcases List.mem_cons.mp hb with rfl | hb
        · lia
        · have := hS.1 b hb; lia
      rw [e1]
      unfold standStep
      by_cases c2 : a.2.1 < h.2.1
      · by_cases c3 : a.2.1 < e.2.1
        · have e2 : (a :: h :: r).filter (fun x => decide (x.2.1 < e.2.1)) = [a] := by rw [List.filter_cons, e1]; simp [c3]
          simp [c2, c3, e1]
        · simp [c2, c3, e1]
      · have c3 : ¬ a.2.1 < e.2.1 := by lia
        simp [c2, c3, e1]
theorem standF_snoc (l : List E4) (e : E4) : standF (l ++ [e]) = (standF l).filter (fun x => decide (x.2.1 < e.2.1)) ++ [e] := by
  induction l with
  | nil => unfold standF standStep; simp
  | cons a r ih =>
    show standStep a (standF (r ++ [e])) = (standStep a (standF r)).filter _ ++ [e]
    rw [ih]
    exact step_snoc (standF_inc r)
/-- the index of each is one more than the one before -/
noncomputable def Run (bi : Nat) (es : List Ent) : Prop := ∀ k e, es[k]? = some e → e.i = bi + 1 + k
theorem Run.take {bi n : Nat} {es : List Ent} (h : Run bi es) : (es.map Ent.T).filter (fun x => decide (x.2.1 < n)) = (es.take (n - bi - 1)).map Ent.T := by
  induction es generalizing bi with
  | nil => simp
  | cons a r ih =>
    have ha := h 0 a rfl
    have hr : Run (bi + 1) r := fun k e he => by have := h (k + 1) e (by simpa using he); lia
    have ihr := ih hr
    rw [List.map_cons, List.filter_cons]
    by_cases c : a.i < n
    · have c' : a.T.2.1 < n := c
      rw [if_pos (by simpa using c'), ihr]
      obtain ⟨m, hm⟩ : ∃ m, n - bi - 1 = m + 1 := ⟨n - bi - 2, by lia⟩
      rw [hm, List.take_succ_cons, List.map_cons, show n - (bi + 1) - 1 = m by lia]
    · have c' : ¬ a.T.2.1 < n := c
      rw [if_neg (by simpa using c'), ihr, show n - bi - 1 = 0 by lia, show n - (bi + 1) - 1 = 0 by lia]
      rfl
theorem stand_run {bi : Nat} {es es' : List Ent} {e : Ent} (h : Run bi es) (hs : STAND bi es e = some es') : Run bi es' ∧ es'.length = e.i - bi ∧ bi < e.i ∧ es' = es.take (e.i - bi - 1) ++ [e] := by
  unfold STAND at hs
  split at hs
  · cases hs
  · split at hs
    · cases hs
    · rename_i c1 c2
      cases hs
      have hl : (es.take (e.i - bi - 1)).length = e.i - bi - 1 := by rw [List.length_take]; lia
      refine ⟨fun k x hx => ?_, by simp [hl]; lia, by lia, rfl⟩
      by_cases hk : k < e.i - bi - 1
      · rw [List.getElem?_append_left (by lia), List.getElem?_take] at hx
        rw [if_pos hk] at hx
        exact h k x hx
      · rw [List.getElem?_append_right (by lia), hl] at hx
        have hk2 : k = e.i - bi - 1 := by
          by_cases q : k - (e.i - bi - 1) = 0
          · lia
          · rw [List.getElem?_eq_none (by simp; lia)] at hx; cases hx
        subst hk2
        simp at hx
        subst hx
        lia
theorem stands_app {bi : Nat} : ∀ (a b es : List Ent), STANDS bi es (a ++ b) = match STANDS bi es a with | none => none | some es' => STANDS bi es' b
  | [], b, es => rfl
  | e :: a, b, es => by
    show (match STAND bi es e with | none => none | some es' => STANDS bi es' (a ++ b)) = _
    rw [STANDS_cons]
    cases STAND bi es e with
    | none => rfl
    | some es' => exact stands_app a b es'
theorem stands_stand {bi : Nat} : ∀ (a es es' : List Ent) (l : List E4), Run bi es → es.map Ent.T = standF l → STANDS bi es a = some es' → Run bi es' ∧ es'.map Ent.T = standF (l ++ a.map Ent.T)
  | [], es, es', l, h1, h2, h3 => by cases h3; exact ⟨h1, by simpa using h2⟩
  | e :: a, es, es', l, h1, h2, h3 => by
    rw [STANDS_cons] at h3
    cases q : STAND bi es e with
    | none => rw [q] at h3; cases h3
    | some es2 =>
      rw [q] at h3
      obtain ⟨r1, r2, r3, r4⟩ := stand_run h1 q
      have h2' : es2.map Ent.T = standF (l ++ [e.T]) := by
        rw [standF_snoc, ← h2]
        have := h1.take (n := e.i)
        show _ = (es.map Ent.T).filter (fun x => decide (x.2.1 < e.i)) ++ [e.T]
        rw [this, r4]
        simp
      have := stands_stand a es2 es' (l ++ [e.T]) r1 h2' h3
      simpa using this
noncomputable def entsOf : List Row → List Ent
  | [] => []
  | .ent t i k d :: r => ⟨t, i, k, d⟩ :: entsOf r
  | _ :: r => entsOf r
theorem entsOf_app : ∀ (a b : List Row), entsOf (a ++ b) = entsOf a ++ entsOf b
  | [], b => rfl
  | .ent t i k d :: r, b => by show (⟨t, i, k, d⟩ : Ent) :: entsOf (r ++ b) = _; rw [entsOf_app r b]; rfl
  | .hard .. :: r, b => by show entsOf (r ++ b) = _; rw [entsOf_app r b]; rfl
  | .base .. :: r, b => by show entsOf (r ++ b) = _; rw [entsOf_app r b]; rfl
theorem entsOk_stands {bi : Nat} : ∀ (rs : List Row) (last : Nat) (es : List Ent), Run bi es → bi + es.length = last → entsOk bi last rs = (STANDS bi es (entsOf rs)).isSome
  | [], last, es, h1, h2 => rfl
  | .hard .. :: r, last, es, h1, h2 => entsOk_stands r last es h1 h2
  | .base .. :: r, last, es, h1, h2 => entsOk_stands r last es h1 h2
  | .ent t i k d :: r, last, es, h1, h2 => by
    show (if i ≤ bi ∨ i > last + 1 then false else entsOk bi i r) = (STANDS bi es (⟨t, i, k, d⟩ :: entsOf r)).isSome
    rw [STANDS_cons]
    by_cases c1 : i ≤ bi
    · have : STAND bi es ⟨t, i, k, d⟩ = none := by unfold STAND; rw [if_pos c1]
      rw [if_pos (.inl c1), this]; rfl
    · by_cases c2 : i > last + 1
      · have : STAND bi es ⟨t, i, k, d⟩ = none := by unfold STAND; rw [if_neg c1, if_pos (by show es.length < i - bi - 1; lia)]
        rw [if_pos (.inr c2), this]; rfl
      · have q : STAND bi es ⟨t, i, k, d⟩ = some (es.take (i - bi - 1) ++ [⟨t, i, k, d⟩]) := by unfold STAND; rw [if_neg c1, if_neg (by show ¬ es.length < i - bi - 1; lia)]
        obtain ⟨r1, r2, r3, r4⟩ := stand_run h1 q
        rw [if_neg (by lia), q]
        have r2 : (es.take (i - bi - 1) ++ [(⟨t, i, k, d⟩ : Ent)]).length = i - bi := r2
        exact entsOk_stands r i _ r1 (by lia)
/-! what the law says, a row later -/
theorem say_ent (rs : List Row) (t i k : Nat) (d : List UInt8) : SAY (rs ++ [.ent t i k d]) = ⟨(SAY rs).hard, (SAY rs).closed, (SAY rs).stand, (SAY rs).pending ++ [(t, i, k, d)]⟩ := by
  induction rs with
  | nil => rfl
  | cons r rs ih =>
    show say1 (SAY (rs ++ [.ent t i k d])) r = ⟨(say1 (SAY rs) r).hard, (say1 (SAY rs) r).closed, (say1 (SAY rs) r).stand, (say1 (SAY rs) r).pending ++ [(t, i, k, d)]⟩
    rw [ih]
    generalize SAY rs = a
    obtain ⟨ah, ac, as, ap⟩ := a
    cases r with
    | base => rfl
    | hard => rfl
    | ent t' i' k' d' =>
      cases ac with
      | false => rfl
      | true =>
        cases as with
        | nil => rfl
        | cons x y =>
          by_cases c : i' < x.2.1
          · simp [say1, c]
          · simp [say1, c]
theorem say_hard (rs : List Row) (t v c : Nat) : SAY (rs ++ [.hard t v c]) = ⟨(t, v, c), true, standF ((entsOf rs).map Ent.T), []⟩ := by
  induction rs with
  | nil => rfl
  | cons r rs ih =>
    show say1 (SAY (rs ++ [.hard t v c])) r = _
    rw [ih]
    cases r with
    | base => rfl
    | hard => rfl
    | ent t' i' k' d' =>
      show say1 ⟨(t, v, c), true, standF ((entsOf rs).map Ent.T), []⟩ (.ent t' i' k' d') = ⟨(t, v, c), true, standStep (t', i', k', d') (standF ((entsOf rs).map Ent.T)), []⟩
      generalize standF ((entsOf rs).map Ent.T) = st
      cases st with
      | nil => rfl
      | cons x y =>
        by_cases c : i' < x.2.1
        · simp [say1, standStep, c]
        · simp [say1, standStep, c]
end Lw

end
section
set_option autoImplicit false
set_option linter.unusedVariables false
namespace Lw
theorem R10_LN {b : List UInt8} (h : Sm b) (p : Nat) : R10 b p = LN b p 10 := by
  unfold R10 LN
  rw [rg_nl, ln_nl]
  cases e : nl 10 (b.drop p) with
  | none => rfl
  | some q =>
    obtain ⟨m, r⟩ := q
    have := h (b.take p) (b.drop p) m r (List.take_append_drop p b).symm e
    dsimp only
    rw [if_neg (by lia)]
theorem Sm.drop {b : List UInt8} (h : Sm b) (n : Nat) : Sm (b.drop n) := by
  have : b = b.take n ++ b.drop n := (List.take_append_drop n b).symm
  rw [this] at h
  exact h.suf
theorem R5_LN {b : List UInt8} (p : Nat) : R5 b p = match LN b p 5 with
    | none => none
    | some (n, q) => if n > 4294967295 then none else some (n, q) := by
  unfold R5 LN
  rw [rg_nl, ln_nl]
  cases e : nl 5 (b.drop p) with
  | none => rfl
  | some q =>
    obtain ⟨m, r⟩ := q
    dsimp only
theorem RL_LN {b : List UInt8} (hb : b.length < 1000) (p : Nat) : RL b p = match LN b p 5 with
    | none => none
    | some (n, q) => if q + n > b.length then none else some ((b.drop q).take n, q + n) := by
  unfold RL
  rw [R5_LN]
  cases LN b p 5 with
  | none => rfl
  | some q =>
    obtain ⟨n, q⟩ := q
    dsimp only
    by_cases c : n > 4294967295
    · rw [if_pos c]
      dsimp only
      rw [if_pos (by lia)]
    · rw [if_neg c]
theorem LN_shift {b : List UInt8} (hb : 1 ≤ b.length) (p k : Nat) : LN b (p + 1) k = match LN (b.drop 1) p k with
    | none => none
    | some (n, q) => some (n, q + 1) := by
  unfold LN
  rw [ln_nl, ln_nl, List.drop_drop, Nat.add_comm 1 p]
  cases e : nl k (b.drop (p + 1)) with
  | none => rfl
  | some q =>
    obtain ⟨m, r⟩ := q
    obtain ⟨a, h1, h2, h3⟩ := nl_suf e
    have hl : (b.drop (p + 1)).length = a.length + r.length := by rw [h1, List.length_append]
    rw [List.length_drop] at hl
    dsimp only
    rw [List.length_drop, show b.length - 1 - r.length + 1 = b.length - r.length by lia]
/-! ids -/
theorem TI_LTI {b : List UInt8} (h : Sm b) : ∀ (k p : Nat) (out : List Nat), TI b k p out = LTI b k p out
  | 0, p, out => rfl
  | k + 1, p, out => by
    rw [TI, LTI, R10_LN h]
    cases LN b p 10 with
    | none => rfl
    | some q =>
      obtain ⟨n, q⟩ := q
      dsimp only
      rcases list_snoc out with rfl | ⟨L, l, rfl⟩
      · rw [lastGe_nil]
        simp only [List.getLast?_nil, Bool.false_eq_true, if_false]
        exact TI_LTI h k q _
      · rw [lastGe_snoc]
        simp only [List.getLast?_concat]
        split
        · rfl
        · exact TI_LTI h k q _
theorem LTI_len {b : List UInt8} : ∀ {k p : Nat} {out ids : List Nat} {q : Nat}, p ≤ b.length → LTI b k p out = some (ids, q) → p + k ≤ q ∧ q ≤ b.length ∧ ids.length = out.length + k
  | 0, p, out, ids, q, hp, h => by rw [LTI] at h; cases h; exact ⟨Nat.le_refl _, hp, rfl⟩
  | k + 1, p, out, ids, q, hp, h => by
    rw [LTI] at h
    cases e : LN b p 10 with
    | none => rw [e] at h; cases h
    | some nq =>
      obtain ⟨n, q2⟩ := nq
      rw [e] at h
      dsimp only at h
      obtain ⟨b1, b2, b3⟩ := LN_bounds e
      split at h
      · cases h
      · obtain ⟨h1, h2, h3⟩ := LTI_len b2 h
        exact ⟨by lia, h2, by rw [h3]; simp; lia⟩
theorem LTI_inc {b : List UInt8} : ∀ {k p : Nat} {out ids : List Nat} {q : Nat}, out.Pairwise (· < ·) → LTI b k p out = some (ids, q) → ids.Pairwise (· < ·)
  | 0, p, out, ids, q, hp, h => by rw [LTI] at h; cases h; exact hp
  | k + 1, p, out, ids, q, hp, h => by
    rw [LTI] at h
    cases e : LN b p 10 with
    | none => rw [e] at h; cases h
    | some nq =>
      obtain ⟨n, q2⟩ := nq
      rw [e] at h
      dsimp only at h
      split at h
      · cases h
      · rename_i c
        refine LTI_inc ?_ h
        rcases list_snoc out with rfl | ⟨L, l, rfl⟩
        · simp
        · rw [lastGe_snoc] at c
          have c : ¬ n ≤ l := by simpa using c
          rw [List.pairwise_append]
          refine ⟨hp, by simp, fun a ha x hx => ?_⟩
          rw [List.mem_singleton] at hx
          subst hx
          rw [List.pairwise_append] at hp
          rcases List.mem_append.mp ha with ha | ha
          · have := hp.2.2 a ha l (by simp); lia
          · simp at ha; lia
theorem IDS_LIDS {b : List UInt8} (h : Sm b) (p : Nat) : IDS b p = LIDS b p := by
  unfold IDS CNT LIDS
  rw [R10_LN h]
  cases e : LN b p 10 with
  | none => rfl
  | some nq =>
    obtain ⟨n, q⟩ := nq
    dsimp only
    obtain ⟨b1, b2, b3⟩ := LN_bounds e
    by_cases c : n > b.length - q
    · rw [if_pos c]
      dsimp only
      cases e2 : LTI b n q [] with
      | none => rfl
      | some r =>
        obtain ⟨ids, q2⟩ := r
        obtain ⟨h1, h2, h3⟩ := LTI_len b2 e2
        lia
    · rw [if_neg c]
      exact TI_LTI h n q []
theorem LIDS_spec {b : List UInt8} {p q : Nat} {ids : List Nat} (h : LIDS b p = some (ids, q)) : ids.Pairwise (· < ·) ∧ q ≤ b.length ∧ ids.length ≤ b.length := by
  unfold LIDS at h
  cases e : LN b p 10 with
  | none => rw [e] at h; cases h
  | some nq =>
    obtain ⟨n, q2⟩ := nq
    rw [e] at h
    obtain ⟨b1, b2, b3⟩ := LN_bounds e
    obtain ⟨h1, h2, h3⟩ := LTI_len b2 h
    refine ⟨LTI_inc List.Pairwise.nil h, h2, ?_⟩
    simp at h3
    lia
theorem rise_ids {ids : List Nat} (h : ids.Pairwise (· < ·)) : (zs ids).Pairwise (· < ·) := by
  unfold zs
  rw [List.pairwise_map]
  exact h.imp fun h => by lia
/-- the members: the same from both readings -/
theorem DC_LM {b : List UInt8} (h : Sm b) : (DC b = none ∧ LM b = none) ∨ ∃ v l o x f, DC b = some (v, l, o, x, f) ∧ LM b = some ([v, l, o, x], f) ∧ (v.Pairwise (· < ·) ∧ l.Pairwise (· < ·) ∧ o.Pairwise (· < ·) ∧ x.Pairwise (· < ·)) ∧ (v.length ≤ b.length ∧ l.length ≤ b.length ∧ o.length ≤ b.length ∧ x.length ≤ b.length) := by
  unfold DC LM
  simp only [LPs, IDS_LIDS h]
  cases e1 : LIDS b 0 with
  | none => exact .inl ⟨rfl, rfl⟩
  | some r1 =>
    obtain ⟨v, p1⟩ := r1
    dsimp only
    cases e2 : LIDS b p1 with
    | none => exact .inl ⟨rfl, rfl⟩
    | some r2 =>
      obtain ⟨l, p2⟩ := r2
      dsimp only
      cases e3 : LIDS b p2 with
      | none => exact .inl ⟨rfl, rfl⟩
      | some r3 =>
        obtain ⟨o, p3⟩ := r3
        dsimp only
        cases e4 : LIDS b p3 with
        | none => exact .inl ⟨rfl, rfl⟩
        | some r4 =>
          obtain ⟨x, p4⟩ := r4
          dsimp only
          obtain ⟨s1, t1, u1⟩ := LIDS_spec e1
          obtain ⟨s2, t2, u2⟩ := LIDS_spec e2
          obtain ⟨s3, t3, u3⟩ := LIDS_spec e3
          obtain ⟨s4, t4, u4⟩ := LIDS_spec e4
          by_cases c1 : b.length ≤ p4 ∨ 1 < (b.getD p4 0).toNat
          · rw [if_pos c1, if_pos (by lia)]
            exact .inl ⟨rfl, rfl⟩
          · rw [if_neg c1]
            by_cases c2 : p4 + 1 < b.length
            · rw [if_pos c2, if_pos (by lia)]
              exact .inl ⟨rfl, rfl⟩
            · rw [if_neg c2, if_neg (by lia)]
              exact .inr ⟨v, l, o, x, _, rfl, rfl, ⟨s1, s2, s3, s4⟩, u1, u2, u3, u4⟩
end Lw

end
section
set_option autoImplicit false
set_option linter.unusedVariables false
set_option linter.unusedSimpArgs false
namespace Lw
theorem LRk1 (b : List UInt8) : LRk b 1 = match LN b 1 10 with
    | none => none
    | some (one, p) => match LN b p 10 with
      | none => none
      | some (two, p) => match LN b p 10 with
        | none => none
        | some (three, p) => if p ≠ b.length then none else some (.hard one two three) := by
  unfold LRk
  simp only [ne_eq, Nat.reduceEqDiff, not_true_eq_false, not_false_eq_true, and_true, true_and, and_self, false_and, and_false, if_false, if_true, ite_false, ite_true]
  all_goals rfl
theorem LRk2 (b : List UInt8) : LRk b 2 = match LN b 1 10 with
    | none => none
    | some (one, p) => match LN b p 10 with
      | none => none
      | some (two, p) => match LN b p 10 with
        | none => none
        | some (three, p) => match LN b p 5 with
          | none => none
          | some (n, p) => if p + n ≠ b.length then none else if three ≠ 0 ∧ three ≠ 2 then none else some (.ent one two three (b.drop p)) := by
  unfold LRk
  simp only [ne_eq, Nat.reduceEqDiff, not_true_eq_false, not_false_eq_true, and_true, true_and, and_self, false_and, and_false, if_false, if_true, ite_false, ite_true]
  all_goals rfl
theorem LRk4 (b : List UInt8) : LRk b 4 = match LN b 1 10 with
    | none => none
    | some (one, p) => match LN b p 10 with
      | none => none
      | some (two, p) => match LN b p 5 with
        | none => none
        | some (n, p) => if p + n ≠ b.length then none else match LM (b.drop p) with
          | none => none
          | some (ls, f) => some (.base one two ls f) := by
  unfold LRk
  simp only [ne_eq, Nat.reduceEqDiff, not_true_eq_false, not_false_eq_true, and_true, true_and, and_self, false_and, and_false, if_false, if_true, ite_false, ite_true]
  all_goals rfl
theorem hard_eq {b : List UInt8} (h : Sm b) : (DH b = none ∧ LRk b 1 = none) ∨ ∃ t v c, DH b = some (t, v, c) ∧ LRk b 1 = some (.hard t v c) := by
  unfold DH
  rw [LRk1]
  simp only [R10_LN h]
  cases e1 : LN b 1 10 with
  | none => exact .inl ⟨rfl, rfl⟩
  | some r1 =>
    obtain ⟨t, p1⟩ := r1
    dsimp only
    cases e2 : LN b p1 10 with
    | none => exact .inl ⟨rfl, rfl⟩
    | some r2 =>
      obtain ⟨v, p2⟩ := r2
      dsimp only
      cases e3 : LN b p2 10 with
      | none => exact .inl ⟨rfl, rfl⟩
      | some r3 =>
        obtain ⟨c, p3⟩ := r3
        dsimp only
        obtain ⟨b1, b2, b3⟩ := LN_bounds e3
        by_cases q : p3 < b.length
        · rw [if_pos q, if_pos (by lia)]
          exact .inl ⟨rfl, rfl⟩
        · rw [if_neg q, if_neg (by lia)]
          exact .inr ⟨t, v, c, rfl, rfl⟩
theorem ent_eq {b : List UInt8} (h : Sm b) (h1 : 1 ≤ b.length) (h2 : b.length < 1000) : (DE (b.drop 1) = none ∧ LRk b 2 = none) ∨ ∃ t i k d, DE (b.drop 1) = some (t, i, k, d) ∧ LRk b 2 = some (.ent t i k d) := by
  have hl : (b.drop 1).length = b.length - 1 := List.length_drop
  unfold DE
  rw [LRk2]
  simp only [R10_LN (h.drop 1), RL_LN (b := b.drop 1) (by lia)]
  rw [LN_shift h1 0 10]
  cases e1 : LN (b.drop 1) 0 10 with
  | none => exact .inl ⟨rfl, rfl⟩
  | some r1 =>
    obtain ⟨t, p1⟩ := r1
    dsimp only
    rw [LN_shift h1 p1 10]
    cases e2 : LN (b.drop 1) p1 10 with
    | none => exact .inl ⟨rfl, rfl⟩
    | some r2 =>
      obtain ⟨v, p2⟩ := r2
      dsimp only
      rw [LN_shift h1 p2 10]
      cases e3 : LN (b.drop 1) p2 10 with
      | none => exact .inl ⟨rfl, rfl⟩
      | some r3 =>
        obtain ⟨c, p3⟩ := r3
        dsimp only
        rw [LN_shift h1 p3 5]
        by_cases hc : c ≠ 0 ∧ c ≠ 2
        · rw [if_pos hc]
          refine .inl ⟨rfl, ?_⟩
          cases LN (b.drop 1) p3 5 with
          | none => rfl
          | some r4 =>
            obtain ⟨n, p4⟩ := r4
            dsimp only
            rw [if_pos hc]
            split <;> rfl
        · rw [if_neg hc]
          cases e4 : LN (b.drop 1) p3 5 with
          | none => exact .inl ⟨rfl, rfl⟩
          | some r4 =>
            obtain ⟨n, p4⟩ := r4
            obtain ⟨b1, b2, b3⟩ := LN_bounds e4
            dsimp only
            rw [if_neg hc]
            by_cases q : p4 + n > (b.drop 1).length
            · rw [if_pos q, if_pos (by lia)]
              exact .inl ⟨rfl, rfl⟩
            · rw [if_neg q]
              dsimp only
              by_cases q2 : p4 + n < (b.drop 1).length
              · rw [if_pos q2, if_pos (by lia)]
                exact .inl ⟨rfl, rfl⟩
              · rw [if_neg q2, if_neg (by lia)]
                refine .inr ⟨t, v, c, _, rfl, ?_⟩
                rw [List.take_of_length_le (by rw [List.length_drop]; lia), List.drop_drop, Nat.add_comm 1 p4]
theorem base_eq {b : List UInt8} (h : Sm b) (h2 : b.length < 64) : (DF b = none ∧ LRk b 4 = none) ∨ ∃ i t v l o x f, DF b = some (i, t, v, l, o, x, f) ∧ LRk b 4 = some (.base i t [v, l, o, x] f) ∧ (v.Pairwise (· < ·) ∧ l.Pairwise (· < ·) ∧ o.Pairwise (· < ·) ∧ x.Pairwise (· < ·)) ∧ (v.length ≤ 100 ∧ l.length ≤ 100 ∧ o.length ≤ 100 ∧ x.length ≤ 100) := by
  unfold DF
  rw [LRk4]
  simp only [R10_LN h, RL_LN (b := b) (by lia)]
  cases e1 : LN b 1 10 with
  | none => exact .inl ⟨rfl, rfl⟩
  | some r1 =>
    obtain ⟨i, p1⟩ := r1
    dsimp only
    cases e2 : LN b p1 10 with
    | none => exact .inl ⟨rfl, rfl⟩
    | some r2 =>
      obtain ⟨t, p2⟩ := r2
      dsimp only
      cases e3 : LN b p2 5 with
      | none => exact .inl ⟨rfl, rfl⟩
      | some r3 =>
        obtain ⟨n, p3⟩ := r3
        dsimp only
        obtain ⟨b1, b2, b3⟩ := LN_bounds e3
        by_cases q : p3 + n > b.length
        · rw [if_pos q, if_pos (by lia)]
          exact .inl ⟨rfl, rfl⟩
        · rw [if_neg q]
          dsimp only
          by_cases q2 : p3 + n < b.length
          · rw [if_pos (by lia : p3 + n ≠ b.length)]
            refine .inl ⟨?_, rfl⟩
            cases DC ((b.drop p3).take n) with
            | none => rfl
            | some m => dsimp only; rw [if_pos q2]
          · rw [if_neg (by lia : ¬ p3 + n ≠ b.length), List.take_of_length_le (by rw [List.length_drop]; lia)]
            have hl : (b.drop p3).length = b.length - p3 := List.length_drop
            rcases DC_LM (h.drop p3) with ⟨d1, d2⟩ | ⟨v, l, o, x, f, d1, d2, d3, d4, d5, d6, d7⟩
            · rw [d1, d2]
              exact .inl ⟨rfl, rfl⟩
            · rw [d1, d2]
              dsimp only
              rw [if_neg q2]
              exact .inr ⟨i, t, v, l, o, x, f, rfl, rfl, d3, by lia, by lia, by lia, by lia⟩
end Lw

end
section
set_option autoImplicit false
set_option linter.unusedVariables false
namespace Lw
theorem nl_app : ∀ {f : Nat} {l r : List UInt8} {m : Nat} (s : List UInt8), nl f l = some (m, r) → nl f (l ++ s) = some (m, r ++ s)
  | 0, l, r, m, s, h => by cases h
  | f + 1, [], r, m, s, h => by cases h
  | f + 1, x :: l, r, m, s, h => by
    rw [nl] at h
    show nl (f + 1) (x :: (l ++ s)) = _
    rw [nl]
    by_cases hx : x.toNat < 128
    · rw [if_pos hx] at h ⊢
      cases h
      rfl
    · rw [if_neg hx] at h ⊢
      cases e : nl f l with
      | none => rw [e] at h; cases h
      | some q =>
        obtain ⟨m', r'⟩ := q
        rw [e] at h
        rw [nl_app s e]
        dsimp only at h ⊢
        cases h
        rfl
theorem toU {n : Nat} (h : n < 256) : n.toUInt8.toNat = n := by
  rw [Nat.toUInt8, UInt8.toNat_ofNat']
  lia
theorem u8_lt (x : UInt8) : x.toNat < 256 := x.toNat_lt
/-- a number written is the number read -/
theorem nl_leb : ∀ {f n m : Nat} {r r' : List UInt8}, nl f (leb n ++ r) = some (m, r') → m = n ∧ r' = r
  | 0, n, m, r, r', h => by cases h
  | f + 1, n, m, r, r', h => by
    by_cases c : n < 128
    · rw [leb_small c] at h
      have e : n.toUInt8.toNat = n := toU (by lia)
      rw [List.singleton_append, nl, e, if_pos c] at h
      cases h
      exact ⟨rfl, rfl⟩
    · rw [leb_big c, List.cons_append, nl, toU (by lia), if_neg (by lia)] at h
      cases e : nl f (leb (n / 128) ++ r) with
      | none => rw [e] at h; cases h
      | some q =>
        obtain ⟨m', r2⟩ := q
        rw [e] at h
        obtain ⟨rfl, rfl⟩ := nl_leb e
        dsimp only at h
        cases h
        exact ⟨by lia, rfl⟩
/-- one octet changed -/
noncomputable def Chg (l l' : List UInt8) : Prop := ∃ a x y r, l = a ++ x :: r ∧ l' = a ++ y :: r
theorem Chg.cons {x : UInt8} {l l' : List UInt8} (h : Chg (x :: l) l') : (∃ y, l' = y :: l) ∨ ∃ l2, l' = x :: l2 ∧ Chg l l2 := by
  obtain ⟨a, u, y, r, h1, h2⟩ := h
  cases a with
  | nil => simp at h1; obtain ⟨rfl, rfl⟩ := h1; exact .inl ⟨y, h2⟩
  | cons b a =>
    simp at h1
    obtain ⟨rfl, rfl⟩ := h1
    exact .inr ⟨_, h2, a, u, y, r, rfl, rfl⟩
theorem Chg.nil {l' : List UInt8} (h : Chg [] l') : False := by
  obtain ⟨a, u, y, r, h1, h2⟩ := h
  simp at h1
theorem Chg.len {l l' : List UInt8} (h : Chg l l') : l'.length = l.length := by
  obtain ⟨a, u, y, r, rfl, rfl⟩ := h
  simp
theorem nl_chg : ∀ {K n f m : Nat} {r l' r' : List UInt8}, n < 128 ^ (K + 1) → Chg (leb n ++ r) l' → nl f l' = some (m, r') →
    (Chg r r' ∧ m = n) ∨ (r' = r ∧ m < 128 ^ (K + 1)) ∨ (∃ g n2, nl g r = some (n2, r') ∧ m < 128 ^ (K + 1) * (n2 + 1)) ∨ (∃ q, r' = leb q ++ r ∧ q ≤ n ∧ m < 128 ^ (K + 1))
  | K, n, 0, m, r, l', r', hn, hc, h => by cases h
  | K, n, f + 1, m, r, l', r', hn, hc, h => by
    have hp : 0 < 128 ^ K := Nat.pow_pos (by decide)
    have hp1 : 128 ^ (K + 1) = 128 * 128 ^ K := by rw [Nat.pow_succ, Nat.mul_comm]
    by_cases c : n < 128
    · rw [leb_small c, List.singleton_append] at hc
      rcases hc.cons with ⟨y, rfl⟩ | ⟨l2, rfl, hc2⟩
      · rw [nl] at h
        by_cases hy : y.toNat < 128
        · rw [if_pos hy] at h
          cases h
          exact .inr (.inl ⟨rfl, by lia⟩)
        · rw [if_neg hy] at h
          cases e : nl f r with
          | none => rw [e] at h; cases h
          | some q =>
            obtain ⟨n2, r2⟩ := q
            rw [e] at h
            dsimp only at h
            cases h
            refine .inr (.inr (.inl ⟨f, n2, e, ?_⟩))
            have : 128 * (n2 + 1) ≤ 128 ^ (K + 1) * (n2 + 1) := Nat.mul_le_mul_right _ (by lia)
            lia
      · rw [nl, toU (by lia), if_pos c] at h
        cases h
        exact .inl ⟨hc2, rfl⟩
    · rw [leb_big c, List.cons_append] at hc
      have hK : K ≠ 0 := by rintro rfl; lia
      obtain ⟨K, rfl⟩ : ∃ j, K = j + 1 := ⟨K - 1, by lia⟩
      have hn' : n / 128 < 128 ^ (K + 1) := by lia
      rcases hc.cons with ⟨y, rfl⟩ | ⟨l2, rfl, hc2⟩
      · rw [nl] at h
        by_cases hy : y.toNat < 128
        · rw [if_pos hy] at h
          cases h
          exact .inr (.inr (.inr ⟨n / 128, rfl, by lia, by lia⟩))
        · rw [if_neg hy] at h
          cases e : nl f (leb (n / 128) ++ r) with
          | none => rw [e] at h; cases h
          | some q =>
            obtain ⟨n2, r2⟩ := q
            rw [e] at h
            obtain ⟨rfl, rfl⟩ := nl_leb e
            dsimp only at h
            cases h
            exact .inr (.inl ⟨rfl, by lia⟩)
      · rw [nl, toU (by lia), if_neg (by lia)] at h
        cases e : nl f l2 with
        | none => rw [e] at h; cases h
        | some q =>
          obtain ⟨n2, r2⟩ := q
          rw [e] at h
          dsimp only at h
          cases h
          rcases nl_chg hn' hc2 e with ⟨h1, h2⟩ | ⟨h1, h2⟩ | ⟨g, n3, h1, h2⟩ | ⟨q, h1, h2, h3⟩
          · exact .inl ⟨h1, by lia⟩
          · exact .inr (.inl ⟨h1, by lia⟩)
          · refine .inr (.inr (.inl ⟨g, n3, h1, ?_⟩))
            rw [hp1, Nat.mul_assoc]
            lia
          · exact .inr (.inr (.inr ⟨q, h1, by lia, by lia⟩))
/-! small numbers wherever they are read -/
theorem nl_len : ∀ {f : Nat} {l r : List UInt8} {m : Nat}, nl f l = some (m, r) → m < 128 ^ l.length
  | 0, l, r, m, h => by cases h
  | f + 1, [], r, m, h => by cases h
  | f + 1, x :: l, r, m, h => by
    rw [nl] at h
    have hp : 0 < 128 ^ l.length := Nat.pow_pos (by decide)
    rw [List.length_cons, Nat.pow_succ]
    by_cases hx : x.toNat < 128
    · rw [if_pos hx] at h
      cases h
      lia
    · rw [if_neg hx] at h
      cases e : nl f l with
      | none => rw [e] at h; cases h
      | some q =>
        obtain ⟨m', r'⟩ := q
        rw [e] at h
        dsimp only at h
        cases h
        have := nl_len e
        lia
theorem Sm_len {l : List UInt8} (h : l.length ≤ 9) : Sm l := fun a s n r e k => by
  have := nl_len k
  have h1 : s.length ≤ 9 := by rw [e] at h; simp at h; lia
  have h2 : 128 ^ s.length ≤ 128 ^ 9 := Nat.pow_le_pow_right (by decide) h1
  have : 128 ^ 9 < 2 ^ 64 := by decide
  lia
theorem Sm.cons {x : UInt8} {l : List UInt8} (h : Sm l) (hx : ∀ n r, Lw.nl 10 (x :: l) = some (n, r) → n < 2 ^ 64) : Sm (x :: l) := fun a s n r e k => by
  cases a with
  | nil => rw [List.nil_append] at e; subst e; exact hx n r k
  | cons b a => simp at e; exact h a s n r e.2 k
theorem Sm_leb : ∀ {K n : Nat} {r : List UInt8}, n < 128 ^ (K + 1) → 128 ^ (K + 1) ≤ 2 ^ 64 → Sm r → Sm (leb n ++ r)
  | K, n, r, hn, hk, hr => by
    by_cases c : n < 128
    · have e : leb n ++ r = n.toUInt8 :: r := by rw [leb_small c]; rfl
      rw [e]
      refine hr.cons fun m r' h => ?_
      rw [← e] at h
      have := nl_leb h
      lia
    · have e : leb n ++ r = (n % 128 + 128).toUInt8 :: (leb (n / 128) ++ r) := by rw [leb_big c]; rfl
      have hp1 : 128 ^ (K + 1) = 128 * 128 ^ K := by rw [Nat.pow_succ, Nat.mul_comm]
      have hK : K ≠ 0 := by rintro rfl; lia
      obtain ⟨K, rfl⟩ : ∃ j, K = j + 1 := ⟨K - 1, by lia⟩
      have hn' : n / 128 < 128 ^ (K + 1) := by lia
      rw [e]
      refine (Sm_leb hn' (by lia) hr).cons fun m r' h => ?_
      rw [← e] at h
      have := nl_leb h
      lia
/-- small numbers, whichever octet is changed -/
noncomputable def SmC (l : List UInt8) : Prop := ∀ l', Chg l l' → Sm l'
/-- the first number of a list is below -/
noncomputable def Nx (l : List UInt8) (B : Nat) : Prop := ∀ g m r, nl g l = some (m, r) → m < B
theorem Nx_leb {n B : Nat} {r : List UInt8} (h : n < B) : Nx (leb n ++ r) B := fun g m r h => by have := nl_leb h; lia
theorem Nx_len {l : List UInt8} {k : Nat} (h : l.length ≤ k) : Nx l (128 ^ k) := fun g m r e => by
  have := nl_len e
  have h2 : 128 ^ l.length ≤ 128 ^ k := Nat.pow_le_pow_right (by decide) h
  lia
theorem SmC_len {l : List UInt8} (h : l.length ≤ 9) : SmC l := fun l' hc => Sm_len (by rw [hc.len]; exact h)
theorem SmC_leb : ∀ {K n B : Nat} {r : List UInt8}, n < 128 ^ (K + 1) → 128 ^ (K + 1) * (B + 1) ≤ 2 ^ 64 → Nx r B → Sm r → SmC r → SmC (leb n ++ r)
  | K, n, B, r, hn, hk, hx, hr, hrc => fun l' hc => by
    have hk1 : 128 ^ (K + 1) ≤ 2 ^ 64 := Nat.le_trans (Nat.le_mul_of_pos_right _ (by lia)) hk
    have first : ∀ m r', nl 10 l' = some (m, r') → m < 2 ^ 64 := fun m r' h => by
      rcases nl_chg hn hc h with ⟨h1, h2⟩ | ⟨h1, h2⟩ | ⟨g, n3, h1, h2⟩ | ⟨q, h1, h2, h3⟩
      · lia
      · lia
      · have := hx g n3 r' h1
        have : 128 ^ (K + 1) * (n3 + 1) ≤ 128 ^ (K + 1) * (B + 1) := Nat.mul_le_mul_left _ (by lia)
        lia
      · lia
    by_cases c : n < 128
    · have e : leb n ++ r = n.toUInt8 :: r := by rw [leb_small c]; rfl
      rw [e] at hc
      rcases hc.cons with ⟨y, rfl⟩ | ⟨l2, rfl, hc2⟩
      · exact hr.cons first
      · exact (hrc _ hc2).cons first
    · have e : leb n ++ r = (n % 128 + 128).toUInt8 :: (leb (n / 128) ++ r) := by rw [leb_big c]; rfl
      have hp1 : 128 ^ (K + 1) = 128 * 128 ^ K := by rw [Nat.pow_succ, Nat.mul_comm]
      have hK : K ≠ 0 := by rintro rfl; lia
      obtain ⟨K, rfl⟩ : ∃ j, K = j + 1 := ⟨K - 1, by lia⟩
      have hn' : n / 128 < 128 ^ (K + 1) := by lia
      have hk' : 128 ^ (K + 1) * (B + 1) ≤ 2 ^ 64 := by
        refine Nat.le_trans (Nat.mul_le_mul_right _ ?_) hk
        lia
      rw [e] at hc
      rcases hc.cons with ⟨y, rfl⟩ | ⟨l2, rfl, hc2⟩
      · exact (Sm_leb hn' (by lia) hr).cons first
      · exact (SmC_leb hn' hk' hx hr hrc _ hc2).cons first
theorem Sm.pre {a s : List UInt8} (h : Sm (a ++ s)) : Sm a := fun x y n r e k => h x (y ++ s) n (r ++ s) (by rw [e, List.append_assoc]) (nl_app s k)
end Lw

end
section
set_option autoImplicit false
set_option linter.unusedVariables false
set_option linter.unusedSimpArgs false
namespace Lw
noncomputable def Mod (r r' : List UInt8) : Prop := r' = r ∨ Chg r r' ∨ (∃ s, r = r' ++ s) ∨ ∃ y, r' = r ++ [y]
theorem mod_sm {r r' : List UInt8} (h1 : Sm r) (h2 : SmC r) (h3 : ∀ y, Sm (r ++ [y])) (h : Mod r r') : Sm r' := by
  rcases h with rfl | h | ⟨s, rfl⟩ | ⟨y, rfl⟩
  · exact h1
  · exact h2 _ h
  · exact h1.pre
  · exact h3 y
theorem mod_len {r r' : List UInt8} (h : Mod r r') : r'.length ≤ r.length + 1 := by
  rcases h with rfl | h | ⟨s, rfl⟩ | ⟨y, rfl⟩
  · lia
  · have := h.len; lia
  · simp; lia
  · simp
theorem rec2_mod {r : List UInt8} (hr : 0 < r.length) (w y : Nat) : Mod r (rec2F r w y) ∧ (w ≠ 15 → rec2F r w y = r) := by
  refine ⟨?_, fun h => by unfold rec2F; rw [if_neg h]⟩
  unfold rec2F
  by_cases c : w = 15
  · rw [if_pos c]
    have hm : y / 2 / 3 % r.length < r.length := Nat.mod_lt _ hr
    by_cases c1 : y / 2 % 3 = 0
    · rw [if_pos c1]
      exact .inr (.inr (.inl ⟨r.drop (y / 2 / 3 % r.length), (List.take_append_drop _ r).symm⟩))
    · rw [if_neg c1]
      by_cases c2 : y / 2 % 3 = 1
      · rw [if_pos c2]
        exact .inr (.inr (.inr ⟨_, rfl⟩))
      · rw [if_neg c2]
        refine .inr (.inl ⟨r.take (y / 2 / 3 % r.length), r.getD (y / 2 / 3 % r.length) 0, _, r.drop (y / 2 / 3 % r.length + 1), ?_, by rw [List.append_assoc]; rfl⟩)
        rw [← drop_get hm, List.take_append_drop]
  · rw [if_neg c]
    exact .inl rfl
/-! the entry -/
theorem ent_form (t i k : Nat) (d : List UInt8) : 2 :: encE t i k d = leb 2 ++ (leb t ++ (leb i ++ (leb k ++ (leb d.length ++ d)))) := by
  unfold encE
  rw [leb_small (n := 2) (by lia)]
  simp [List.append_assoc]
theorem hard_form (t v c : Nat) : encH t v c = leb 1 ++ (leb t ++ (leb v ++ (leb c ++ []))) := by
  unfold encH
  rw [leb_small (n := 1) (by lia)]
  simp [List.append_assoc]
theorem ent_sm {t i k : Nat} {d : List UInt8} (ht : t < 200) (hi : i < 128 ^ 7) (hk : k ≤ 2) (hd : d.length ≤ 2) {r' : List UInt8} (h : Mod (2 :: encE t i k d) r') : Sm r' := by
  have go : ∀ d' : List UInt8, d'.length ≤ 3 → Sm (leb 2 ++ (leb t ++ (leb i ++ (leb k ++ (leb d.length ++ d'))))) := fun d' hd' =>
    Sm_leb (K := 0) (by lia) (by decide) (Sm_leb (K := 1) (by lia) (by decide) (Sm_leb (K := 6) (by lia) (by decide) (Sm_leb (K := 0) (by lia) (by decide) (Sm_leb (K := 0) (by lia) (by decide) (Sm_len (by lia))))))
  have g5 : Sm (leb d.length ++ d) := Sm_leb (K := 0) (by lia) (by decide) (Sm_len (by lia))
  have g4 : Sm (leb k ++ (leb d.length ++ d)) := Sm_leb (K := 0) (by lia) (by decide) g5
  have g3 : Sm (leb i ++ (leb k ++ (leb d.length ++ d))) := Sm_leb (K := 6) (by lia) (by decide) g4
  have g2 : Sm (leb t ++ (leb i ++ (leb k ++ (leb d.length ++ d)))) := Sm_leb (K := 1) (by lia) (by decide) g3
  refine mod_sm ?_ ?_ ?_ h
  · rw [ent_form]; exact go d (by lia)
  · rw [ent_form]
    have c5 : SmC (leb d.length ++ d) := SmC_leb (K := 0) (B := 128 ^ 2) (by lia) (by decide) (Nx_len (by lia)) (Sm_len (by lia)) (SmC_len (by lia))
    have c4 : SmC (leb k ++ (leb d.length ++ d)) := SmC_leb (K := 0) (B := 3) (by lia) (by decide) (Nx_leb (by lia)) g5 c5
    have c3 : SmC (leb i ++ (leb k ++ (leb d.length ++ d))) := SmC_leb (K := 6) (B := 3) (by lia) (by decide) (Nx_leb (by lia)) g4 c4
    have c2 : SmC (leb t ++ (leb i ++ (leb k ++ (leb d.length ++ d)))) := SmC_leb (K := 1) (B := 128 ^ 7) (by lia) (by decide) (Nx_leb (by lia)) g3 c3
    exact SmC_leb (K := 0) (B := 200) (by lia) (by decide) (Nx_leb (by lia)) g2 c2
  · intro y
    rw [ent_form]
    have := go (d ++ [y]) (by simp; lia)
    simpa [List.append_assoc] using this
theorem hard_sm {t v c : Nat} (ht : t < 200) (hv : v < 128) (hc : c < 128) {r' : List UInt8} (h : Mod (encH t v c) r') : Sm r' := by
  have go : ∀ d' : List UInt8, d'.length ≤ 3 → Sm (leb 1 ++ (leb t ++ (leb v ++ (leb c ++ d')))) := fun d' hd' =>
    Sm_leb (K := 0) (by lia) (by decide) (Sm_leb (K := 1) (by lia) (by decide) (Sm_leb (K := 0) (by lia) (by decide) (Sm_leb (K := 0) (by lia) (by decide) (Sm_len (by lia)))))
  have g5 : Sm (leb c ++ []) := Sm_leb (K := 0) (by lia) (by decide) (Sm_len (by simp))
  have g4 : Sm (leb v ++ (leb c ++ [])) := Sm_leb (K := 0) (by lia) (by decide) g5
  have g3 : Sm (leb t ++ (leb v ++ (leb c ++ []))) := Sm_leb (K := 1) (by lia) (by decide) g4
  refine mod_sm ?_ ?_ ?_ h
  · rw [hard_form]; exact go [] (by simp)
  · rw [hard_form]
    have c5 : SmC (leb c ++ []) := SmC_leb (K := 0) (B := 128) (by lia) (by decide) (fun g m r e => by have := nl_len e; simp at this; lia) (Sm_len (by simp)) (SmC_len (by simp))
    have c4 : SmC (leb v ++ (leb c ++ [])) := SmC_leb (K := 0) (B := 128) (by lia) (by decide) (Nx_leb (by lia)) g5 c5
    have c3 : SmC (leb t ++ (leb v ++ (leb c ++ []))) := SmC_leb (K := 1) (B := 128) (by lia) (by decide) (Nx_leb (by lia)) g4 c4
    exact SmC_leb (K := 0) (B := 200) (by lia) (by decide) (Nx_leb (by lia)) g3 c3
  · intro y
    rw [hard_form]
    have := go [y] (by simp)
    simpa [List.append_assoc] using this
/-! the opening -/
theorem u8_leb {x : UInt8} (h : x.toNat < 128) (r : List UInt8) : x :: r = leb x.toNat ++ r := by
  rw [leb_small h]
  simp
theorem body_small (m : Nat) : ∀ x ∈ bodyF m, x.toNat < 128 := by
  intro x hx
  unfold bodyF at hx
  rcases List.mem_append.mp hx with hx | hx
  · rw [List.mem_flatMap] at hx
    obtain ⟨l, _, hx⟩ := hx
    unfold partF at hx
    rw [List.mem_map] at hx
    obtain ⟨n, hn, rfl⟩ := hx
    have hl : (eachF l).length ≤ 9 := by unfold eachF; exact Nat.le_trans (List.length_filter_le _ _) (by simp)
    have : n ≤ 9 := by
      rcases List.mem_cons.mp hn with rfl | hn
      · exact hl
      · unfold eachF at hn
        have := (List.mem_filter.mp hn).1
        rw [List.mem_range] at this
        lia
    rw [toU (by lia)]
    lia
  · rw [List.mem_singleton] at hx
    subst hx
    rw [toU (by lia)]
    lia
theorem small_sm : ∀ {l e : List UInt8}, (∀ x ∈ l, x.toNat < 128) → Sm e → Sm (l ++ e)
  | [], e, h, he => he
  | x :: l, e, h, he => by
    rw [List.cons_append, u8_leb (h x (by simp))]
    exact Sm_leb (K := 0) (h x (by simp)) (by decide) (small_sm (fun y hy => h y (by simp [hy])) he)
theorem small_nx : ∀ {l : List UInt8}, (∀ x ∈ l, x.toNat < 128) → Nx l 128
  | [], h => fun g m r e => by have := nl_len e; simp at this; lia
  | x :: l, h => by
    rw [u8_leb (h x (by simp))]
    exact Nx_leb (h x (by simp))
theorem small_smc : ∀ {l : List UInt8}, (∀ x ∈ l, x.toNat < 128) → SmC l
  | [], h => fun l' hc => hc.nil.elim
  | x :: l, h => by
    have hl : ∀ y ∈ l, y.toNat < 128 := fun y hy => h y (by simp [hy])
    rw [u8_leb (h x (by simp))]
    have g : Sm l := by have := small_sm (e := []) hl (Sm_len (by simp)); simpa using this
    exact SmC_leb (K := 0) (B := 128) (h x (by simp)) (by decide) (small_nx hl) g (small_smc hl)
theorem op_form (b bt m : Nat) : opF b bt m = leb 4 ++ (leb b ++ (leb bt ++ (leb (bodyF m).length ++ bodyF m))) := by
  unfold opF
  rw [leb_small (n := 4) (by lia)]
  simp [List.append_assoc]
theorem op_sm {b bt m : Nat} (hb : b < 4) (hbt : bt < 3) (hl : (bodyF m).length < 100) {r' : List UInt8} (h : Mod (opF b bt m) r') : Sm r' := by
  have go : ∀ e : List UInt8, Sm e → Sm (leb 4 ++ (leb b ++ (leb bt ++ (leb (bodyF m).length ++ (bodyF m ++ e))))) := fun e he =>
    Sm_leb (K := 0) (by lia) (by decide) (Sm_leb (K := 0) (by lia) (by decide) (Sm_leb (K := 0) (by lia) (by decide) (Sm_leb (K := 0) (by lia) (by decide) (small_sm (body_small m) he))))
  have g6 : Sm (bodyF m) := by have := small_sm (e := []) (body_small m) (Sm_len (by simp)); simpa using this
  have g5 : Sm (leb (bodyF m).length ++ bodyF m) := Sm_leb (K := 0) (by lia) (by decide) g6
  have g4 : Sm (leb bt ++ (leb (bodyF m).length ++ bodyF m)) := Sm_leb (K := 0) (by lia) (by decide) g5
  have g3 : Sm (leb b ++ (leb bt ++ (leb (bodyF m).length ++ bodyF m))) := Sm_leb (K := 0) (by lia) (by decide) g4
  refine mod_sm ?_ ?_ ?_ h
  · rw [op_form]
    have := go [] (Sm_len (by simp))
    simpa using this
  · rw [op_form]
    have c5 : SmC (leb (bodyF m).length ++ bodyF m) := SmC_leb (K := 0) (B := 128) (by lia) (by decide) (small_nx (body_small m)) g6 (small_smc (body_small m))
    have c4 : SmC (leb bt ++ (leb (bodyF m).length ++ bodyF m)) := SmC_leb (K := 0) (B := 128) (by lia) (by decide) (Nx_leb (by lia)) g5 c5
    have c3 : SmC (leb b ++ (leb bt ++ (leb (bodyF m).length ++ bodyF m))) := SmC_leb (K := 0) (B := 128) (by lia) (by decide) (Nx_leb (by lia)) g4 c4
    exact SmC_leb (K := 0) (B := 128) (by lia) (by decide) (Nx_leb (by lia)) g3 c3
  · intro y
    rw [op_form]
    have := go [y] (Sm_len (by simp))
    simpa [List.append_assoc] using this
end Lw

end
section
set_option autoImplicit false
set_option linter.unusedVariables false
set_option linter.unusedSimpArgs false
namespace Lw
theorem At.one (y : UInt8) (l : List UInt8) : At (y :: l) 1 l := ⟨rfl, by simp⟩
theorem lr_cons (y : UInt8) (l : List UInt8) : LR (y :: l) = LRk (y :: l) y.toNat := by
  unfold LR
  rw [if_neg (by simp)]
  rfl
theorem lr_nil : LR [] = none := rfl
theorem lrk_other {b : List UInt8} {k : Nat} (h : k ≠ 1 ∧ k ≠ 2 ∧ k ≠ 4) : LRk b k = none := by
  unfold LRk
  rw [if_pos h]
/-- which row a kind gives -/
theorem lrk_kind {b : List UInt8} {k : Nat} {r : Row} (h : LRk b k = some r) : r.kind = k := by
  by_cases c : k ≠ 1 ∧ k ≠ 2 ∧ k ≠ 4
  · rw [lrk_other c] at h; cases h
  · have : k = 1 ∨ k = 2 ∨ k = 4 := by lia
    rcases this with rfl | rfl | rfl
    · rw [LRk1] at h
      repeat' split at h
      all_goals first | cases h | skip
      all_goals rfl
    · rw [LRk2] at h
      repeat' split at h
      all_goals first | cases h | skip
      all_goals rfl
    · rw [LRk4] at h
      repeat' split at h
      all_goals first | cases h | skip
      all_goals rfl
theorem lr_ent {y : UInt8} {l : List UInt8} {t i k : Nat} {d : List UInt8} (h : LR (y :: l) = some (.ent t i k d)) :
    y.toNat = 2 ∧ ∃ r1 r2 r3 n r4, nl 10 l = some (t, r1) ∧ nl 10 r1 = some (i, r2) ∧ nl 10 r2 = some (k, r3) ∧ nl 5 r3 = some (n, r4) := by
  rw [lr_cons] at h
  have hk : (2 : Nat) = y.toNat := lrk_kind h
  rw [← hk, LRk2] at h
  refine ⟨hk.symm, ?_⟩
  have a0 := At.one y l
  cases e1 : nl 10 l with
  | none => rw [LN_none a0 e1] at h; cases h
  | some q1 =>
    obtain ⟨t', r1⟩ := q1
    rw [LN_some a0 e1] at h
    have a1 := a0.nl e1
    dsimp only at h
    cases e2 : nl 10 r1 with
    | none => rw [LN_none a1 e2] at h; cases h
    | some q2 =>
      obtain ⟨i', r2⟩ := q2
      rw [LN_some a1 e2] at h
      have a2 := a1.nl e2
      dsimp only at h
      cases e3 : nl 10 r2 with
      | none => rw [LN_none a2 e3] at h; cases h
      | some q3 =>
        obtain ⟨k', r3⟩ := q3
        rw [LN_some a2 e3] at h
        have a3 := a2.nl e3
        dsimp only at h
        cases e4 : nl 5 r3 with
        | none => rw [LN_none a3 e4] at h; cases h
        | some q4 =>
          obtain ⟨n, r4⟩ := q4
          rw [LN_some a3 e4] at h
          dsimp only at h
          split at h
          · cases h
          · split at h
            · cases h
            · cases h
              exact ⟨r1, r2, r3, n, r4, rfl, e2, e3, e4⟩
theorem lr_base {y : UInt8} {l : List UInt8} {i t : Nat} {ls : List (List Nat)} {f : Bool} (h : LR (y :: l) = some (.base i t ls f)) :
    y.toNat = 4 ∧ ∃ r1, nl 10 l = some (i, r1) := by
  rw [lr_cons] at h
  have hk : (4 : Nat) = y.toNat := lrk_kind h
  rw [← hk, LRk4] at h
  refine ⟨hk.symm, ?_⟩
  have a0 := At.one y l
  cases e1 : nl 10 l with
  | none => rw [LN_none a0 e1] at h; cases h
  | some q1 =>
    obtain ⟨t', r1⟩ := q1
    rw [LN_some a0 e1] at h
    dsimp only at h
    refine ⟨r1, ?_⟩
    repeat' split at h
    all_goals first | cases h | skip
    all_goals rfl
/-- a changed record of an entry tells of no index far away -/
theorem ent_grow {K t i k : Nat} {d : List UInt8} (ht : t < 200) (hi : i < 128 ^ (K + 1)) (hk : k ≤ 2) {r' : List UInt8} (h : Mod (2 :: encE t i k d) r') {t' i' k' : Nat} {d' : List UInt8} (hr : LR r' = some (.ent t' i' k' d')) : i' < 3 * 128 ^ (K + 1) := by
  have hp : 128 ≤ 128 ^ (K + 1) := by
    have : 128 ^ (K + 1) = 128 * 128 ^ K := by rw [Nat.pow_succ, Nat.mul_comm]
    have : 0 < 128 ^ K := Nat.pow_pos (by decide)
    lia
  have same : ∀ s : List UInt8, ∀ r1 r2, nl 10 (leb t ++ (leb i ++ s)) = some (t', r1) → nl 10 r1 = some (i', r2) → i' < 3 * 128 ^ (K + 1) := fun s r1 r2 a b => by
    obtain ⟨rfl, rfl⟩ := nl_leb a
    obtain ⟨rfl, rfl⟩ := nl_leb b
    lia
  have hf : 2 :: encE t i k d = 2 :: (leb t ++ (leb i ++ (leb k ++ (leb d.length ++ d)))) := by unfold encE; simp [List.append_assoc]
  rw [hf] at h
  rcases h with rfl | h | ⟨s, h⟩ | ⟨y, rfl⟩
  · obtain ⟨_, r1, r2, r3, n, r4, e1, e2, e3, e4⟩ := lr_ent hr
    exact same _ _ _ e1 e2
  · rcases h.cons with ⟨y, rfl⟩ | ⟨l2, rfl, hc⟩
    · obtain ⟨_, r1, r2, r3, n, r4, e1, e2, e3, e4⟩ := lr_ent hr
      exact same _ _ _ e1 e2
    · obtain ⟨_, r1, r2, r3, n, r4, e1, e2, e3, e4⟩ := lr_ent hr
      rcases nl_chg (K := 1) (by lia) hc e1 with ⟨h1, h2⟩ | ⟨h1, h2⟩ | ⟨g, n3, h1, h2⟩ | ⟨q, h1, h2, h3⟩
      · rcases nl_chg hi h1 e2 with ⟨h1, h2⟩ | ⟨h1, h2⟩ | ⟨g, n3, h1, h2⟩ | ⟨q, h1, h2, h3⟩
        · lia
        · lia
        · have := nl_leb h1
          have : 128 ^ (K + 1) * (n3 + 1) ≤ 128 ^ (K + 1) * 3 := Nat.mul_le_mul_left _ (by lia)
          lia
        · lia
      · subst h1
        have := nl_leb e2
        lia
      · obtain ⟨q1, q2⟩ := nl_leb h1
        subst q2
        have := nl_leb e2
        lia
      · subst h1
        have := nl_leb e2
        lia
  · cases r' with
    | nil => rw [lr_nil] at hr; cases hr
    | cons y l =>
      rw [List.cons_append] at h
      injection h with h0 h
      obtain ⟨_, r1, r2, r3, n, r4, e1, e2, e3, e4⟩ := lr_ent hr
      have e1' := nl_app s e1
      rw [← h] at e1'
      exact same _ _ _ e1' (nl_app s e2)
  · rw [List.cons_append] at hr
    obtain ⟨_, r1, r2, r3, n, r4, e1, e2, e3, e4⟩ := lr_ent hr
    have e5 : leb t ++ (leb i ++ (leb k ++ (leb d.length ++ d))) ++ [y] = leb t ++ (leb i ++ (leb k ++ (leb d.length ++ d) ++ [y])) := by simp [List.append_assoc]
    rw [e5] at e1
    exact same _ _ _ e1 e2
theorem hard_no_ent {t v c : Nat} {r' : List UInt8} (h : Mod (encH t v c) r') {t' i' k' : Nat} {d' : List UInt8} (hr : LR r' = some (.ent t' i' k' d')) : False := by
  have hf : encH t v c = 1 :: (leb t ++ (leb v ++ (leb c ++ []))) := by unfold encH; simp [List.append_assoc]
  rw [hf] at h
  rcases h with rfl | h | ⟨s, h⟩ | ⟨y, rfl⟩
  · exact absurd (lr_ent hr).1 (by decide)
  · rcases h.cons with ⟨y, rfl⟩ | ⟨l2, rfl, hc⟩
    · obtain ⟨_, r1, r2, r3, n, r4, e1, e2, e3, e4⟩ := lr_ent hr
      obtain ⟨_, q⟩ := nl_leb e1
      subst q
      obtain ⟨_, q⟩ := nl_leb e2
      subst q
      obtain ⟨_, q⟩ := nl_leb e3
      subst q
      cases e4
    · exact absurd (lr_ent hr).1 (by decide)
  · cases r' with
    | nil => rw [lr_nil] at hr; cases hr
    | cons y l =>
      rw [List.cons_append] at h
      injection h with h0 h
      subst h0
      exact absurd (lr_ent hr).1 (by decide)
  · exact absurd (lr_ent hr).1 (by decide)
theorem op_base {b bt m : Nat} (hb : b < 4) (hbt : bt < 3) {r' : List UInt8} (h : Mod (opF b bt m) r') {i t : Nat} {ls : List (List Nat)} {f : Bool} (hr : LR r' = some (.base i t ls f)) : i < 384 := by
  have hf : opF b bt m = 4 :: (leb b ++ (leb bt ++ (leb (bodyF m).length ++ bodyF m))) := by unfold opF; simp [List.append_assoc]
  rw [hf] at h
  rcases h with rfl | h | ⟨s, h⟩ | ⟨y, rfl⟩
  · obtain ⟨_, r1, e1⟩ := lr_base hr
    have := nl_leb e1
    lia
  · rcases h.cons with ⟨y, rfl⟩ | ⟨l2, rfl, hc⟩
    · obtain ⟨_, r1, e1⟩ := lr_base hr
      have := nl_leb e1
      lia
    · obtain ⟨_, r1, e1⟩ := lr_base hr
      rcases nl_chg (K := 0) (by lia) hc e1 with ⟨h1, h2⟩ | ⟨h1, h2⟩ | ⟨g, n3, h1, h2⟩ | ⟨q, h1, h2, h3⟩
      · lia
      · lia
      · have := nl_leb h1
        lia
      · lia
  · cases r' with
    | nil => rw [lr_nil] at hr; cases hr
    | cons y l =>
      rw [List.cons_append] at h
      injection h with h0 h
      obtain ⟨_, r1, e1⟩ := lr_base hr
      have e1' := nl_app s e1
      rw [← h] at e1'
      have := nl_leb e1'
      lia
  · rw [List.cons_append] at hr
    obtain ⟨_, r1, e1⟩ := lr_base hr
    have e5 : leb b ++ (leb bt ++ (leb (bodyF m).length ++ bodyF m)) ++ [y] = leb b ++ (leb bt ++ (leb (bodyF m).length ++ bodyF m) ++ [y]) := by simp [List.append_assoc]
    rw [e5] at e1
    have := nl_leb e1
    lia
end Lw

end
section
set_option autoImplicit false
set_option linter.unusedVariables false
set_option linter.unusedSimpArgs false
namespace Lw
noncomputable def z0 : SS := ⟨0, 0, 0, .none, 0, 0, 0, [], []⟩
structure HeldAt (rows : List Row) (z : SS) (bi bt : Nat) (v l o x : List Nat) (f : Bool) (rs : List Row) (A : List Ent) : Prop where
  e1 : rows = .base bi bt [v, l, o, x] f :: rs
  e2 : z.count = rs.length + 1
  e3 : z.bi = bi
  e4 : z.bt = bt
  e5 : z.conf = confV v l o x f
  e6 : rise (zs v) = zs v ∧ rise (zs l) = zs l ∧ rise (zs o) = zs o ∧ rise (zs x) = zs x
  e7 : v.length ≤ 100 ∧ l.length ≤ 100 ∧ o.length ≤ 100 ∧ x.length ≤ 100
  e8 : (z.ht, z.hv, z.hc) = (SAY rs).hard
  e9 : z.es.map Ent.T = (SAY rs).stand
  e10 : z.ps.map Ent.T = (SAY rs).pending
  e11 : ∀ r ∈ rs, r.kind ≠ 4
  e12 : entsOf rs = A ++ z.ps
  e13 : STANDS bi [] A = some z.es
structure Held (rows : List Row) (z : SS) : Prop where
  ex : ∃ bi bt v l o x f rs A, HeldAt rows z bi bt v l o x f rs A
theorem Held.told {rows : List Row} {z : SS} (h : Held rows z) : Told rows z := by
  refine Ex5 h.ex fun bi bt v l o hx => Ex4 hx fun x f rs A hh => ?_
  obtain ⟨h1, h2, h3, h4, h5, h6, h7, h8, h9, h10, h11, _⟩ := hh
  exact ⟨bi, bt, v, l, o, x, f, rs, h1, h2, h3, h4, h5, h6, h7, h8, h9, h10, h11⟩
theorem stands_len {bi : Nat} : ∀ {a es es' : List Ent}, STANDS bi es a = some es' → es'.length ≤ es.length + a.length
  | [], es, es', h => by cases h; exact Nat.le_refl _
  | e :: a, es, es', h => by
    rw [STANDS_cons] at h
    cases q : STAND bi es e with
    | none => rw [q] at h; cases h
    | some es2 =>
      rw [q] at h
      have h1 := stands_len h
      have h2 : es2.length ≤ es.length + 1 := by
        unfold STAND at q
        split at q
        · cases q
        · split at q
          · cases q
          · cases q; simp; lia
      rw [List.length_cons]
      lia
theorem entsOf_len : ∀ rs : List Row, (entsOf rs).length ≤ rs.length
  | [] => Nat.le_refl _
  | .ent t i k d :: r => by have := entsOf_len r; show (_ :: entsOf r).length ≤ _; simp; lia
  | .hard .. :: r => by have := entsOf_len r; show (entsOf r).length ≤ _; simp; lia
  | .base .. :: r => by have := entsOf_len r; show (entsOf r).length ≤ _; simp; lia
theorem Held.sizes {rows : List Row} {z : SS} (h : Held rows z) : z.es.length ≤ rows.length ∧ z.ps.length ≤ rows.length := by
  refine Ex5 h.ex fun bi bt v l o hx => Ex4 hx fun x f rs A hh => ?_
  obtain ⟨h1, h2, h3, h4, h5, h6, h7, h8, h9, h10, h11, h12, h13⟩ := hh
  clear hx
  have := stands_len h13
  have := entsOf_len rs
  rw [h12, List.length_append] at this
  rw [h1, List.length_cons]
  simp at *
  lia
/-- what a turn gives -/
noncomputable def Turn (rows : List Row) (rec : List UInt8) (z : SS) : Prop :=
  (LET rows (LR rec) = false ∧ TAKE rec z = none) ∨ (LET rows (LR rec) = true ∧ ∃ nr z', LR rec = some nr ∧ TAKE rec z = some z' ∧ Held (rows ++ [nr]) z' ∧ (rows = [] → nr.kind = 4) ∧ (∀ e ∈ z'.ps, e ∈ z.ps ∨ ∃ t k d, nr = .ent t e.i k d))
theorem take_cons (y : UInt8) (l : List UInt8) (z : SS) : TAKE (y :: l) z =
  if z.count = 0 ∧ y.toNat ≠ 4 then none else
  if z.count = 1 ∧ y.toNat ≠ 1 then none else
  if y.toNat = 4 then (if 0 < z.count then none else match DF (y :: l) with
    | none => none
    | some (i, t, v, l, o, x, f) => some { z with bi := i, bt := t, conf := confV v l o x f, count := z.count + 1 }) else
  if y.toNat = 1 then (match DH (y :: l) with
    | none => none
    | some (t, v, c) => match STANDS z.bi z.es z.ps with
      | none => none
      | some es' => some { z with es := es', ps := [], ht := t, hv := v, hc := c, count := z.count + 1 }) else
  if y.toNat = 2 then (match DE l with
    | none => none
    | some (t, i, k, c) => some { z with ps := z.ps ++ [⟨t, i, k, c⟩], count := z.count + 1 }) else none := rfl
theorem step0 {rec : List UInt8} (hs : Sm rec) (hl : rec.length < 64) : Turn [] rec z0 := by
  cases rec with
  | nil => exact .inl ⟨rfl, rfl⟩
  | cons y l =>
    unfold Turn
    rw [lr_cons, take_cons]
    by_cases c : y.toNat = 4
    · have hc0 : z0.count = 0 := rfl
      rw [if_neg (by lia), if_neg (by lia), if_pos c, if_neg (by lia), c]
      rcases base_eq hs hl with ⟨d1, d2⟩ | ⟨i, t, v, l, o, x, f, d1, d2, d3, d4⟩
      · rw [d1, d2]
        exact .inl ⟨rfl, rfl⟩
      · rw [d1, d2]
        refine .inr ⟨rfl, _, _, rfl, rfl, ⟨i, t, v, l, o, x, f, [], [], rfl, rfl, rfl, rfl, rfl, ?_, d4, rfl, rfl, rfl, by simp, rfl, rfl⟩, fun _ => rfl, fun e he => .inl he⟩
        exact ⟨rise_self (rise_ids d3.1), rise_self (rise_ids d3.2.1), rise_self (rise_ids d3.2.2.1), rise_self (rise_ids d3.2.2.2)⟩
    · rw [if_pos ⟨rfl, c⟩]
      refine .inl ⟨?_, rfl⟩
      cases e : LRk (y :: l) y.toNat with
      | none => rfl
      | some r =>
        have := lrk_kind e
        show decide (r.kind = 4) = false
        rw [this]
        simpa using c
theorem step1 {rows : List Row} {z : SS} {rec : List UInt8} (hg : Held rows z) (hs : Sm rec) (hl : rec.length < 64) : Turn rows rec z := by
  refine Ex5 hg.ex fun bi bt v l o hx => Ex4 hx fun x f rs A hh => ?_
  obtain ⟨h1, h2, h3, h4, h5, h6, h7, h8, h9, h10, h11, h12, h13⟩ := hh
  clear hx
  subst h1
  cases rec with
  | nil => exact .inl ⟨rfl, rfl⟩
  | cons y b =>
    unfold Turn
    rw [lr_cons, take_cons, if_neg (by lia)]
    by_cases c1 : z.count = 1 ∧ y.toNat ≠ 1
    · rw [if_pos c1]
      refine .inl ⟨?_, rfl⟩
      have hrs : rs = [] := List.length_eq_zero_iff.mp (by lia)
      subst hrs
      cases e : LRk (y :: b) y.toNat with
      | none => rfl
      | some r =>
        have := lrk_kind e
        show decide (r.kind = 1) = false
        rw [this]
        simpa using c1.2
    · rw [if_neg c1]
      by_cases c4 : y.toNat = 4
      · rw [if_pos c4, if_pos (by lia)]
        refine .inl ⟨?_, rfl⟩
        cases rs with
        | nil => simp at h2; lia
        | cons q rs =>
          cases e : LRk (y :: b) y.toNat with
          | none => rfl
          | some r =>
            have := lrk_kind e
            show (if r.kind ≠ 1 then decide (r.kind = 2) else _) = false
            rw [if_pos (by lia)]
            simp; lia
      · rw [if_neg c4]
        by_cases k1 : y.toNat = 1
        · rw [if_pos k1, k1]
          rcases hard_eq hs with ⟨d1, d2⟩ | ⟨t, v', c, d1, d2⟩
          · rw [d1, d2]
            exact .inl ⟨rfl, rfl⟩
          · rw [d1, d2]
            have hlet : LET (.base bi bt [v, l, o, x] f :: rs) (some (.hard t v' c)) = (STANDS bi [] (entsOf rs)).isSome := by
              cases rs with
              | nil => rfl
              | cons q rs =>
                show entsOk bi bi (.base bi bt [v, l, o, x] f :: q :: rs) = _
                exact entsOk_stands (q :: rs) bi [] (fun k e h => by simp at h) rfl
            have hst : STANDS bi [] (entsOf rs) = STANDS z.bi z.es z.ps := by rw [h12, stands_app, h13, h3]
            dsimp only
            rw [hlet, hst]
            cases e : STANDS z.bi z.es z.ps with
            | none => exact .inl ⟨rfl, rfl⟩
            | some es' =>
              refine .inr ⟨rfl, _, _, rfl, rfl, ⟨bi, bt, v, l, o, x, f, rs ++ [.hard t v' c], entsOf rs, rfl, ?_, h3, h4, h5, h6, h7, ?_, ?_, ?_, ?_, ?_, ?_⟩, (fun h => by cases h), fun e he => (by cases he)⟩
              · show z.count + 1 = _
                simp; lia
              · rw [say_hard]
              · rw [say_hard]
                have := (stands_stand (entsOf rs) [] es' [] (fun k e h => by simp at h) rfl (hst.trans e)).2
                simpa using this
              · rw [say_hard]; rfl
              · intro r hr
                rcases List.mem_append.mp hr with hr | hr
                · exact h11 r hr
                · rw [List.mem_singleton] at hr; subst hr; show (1 : Nat) ≠ 4; decide
              · rw [entsOf_app]; rfl
              · exact hst.trans e
        · rw [if_neg k1]
          by_cases k2 : y.toNat = 2
          · rw [if_pos k2, k2]
            have hrs : rs ≠ [] := by rintro rfl; simp at h2; lia
            have de : DE b = DE ((y :: b).drop 1) := rfl
            rw [de]
            rcases ent_eq hs (by simp) (by lia) with ⟨d1, d2⟩ | ⟨t, i, k, d, d1, d2⟩
            · rw [d1, d2]
              exact .inl ⟨rfl, rfl⟩
            · rw [d1, d2]
              refine .inr ⟨?_, _, _, rfl, rfl, ⟨bi, bt, v, l, o, x, f, rs ++ [.ent t i k d], A, rfl, ?_, h3, h4, h5, h6, h7, ?_, ?_, ?_, ?_, ?_, ?_⟩, (fun h => by cases h), fun e he => ?_⟩
              · cases rs with
                | nil => exact absurd rfl hrs
                | cons q rs => rfl
              · show z.count + 1 = _
                simp; lia
              · rw [say_ent]; exact h8
              · rw [say_ent]; exact h9
              · rw [say_ent]
                show (z.ps ++ [_]).map Ent.T = (SAY rs).pending ++ [_]
                rw [List.map_append, h10]
                rfl
              · intro r hr
                rcases List.mem_append.mp hr with hr | hr
                · exact h11 r hr
                · rw [List.mem_singleton] at hr; subst hr; show (2 : Nat) ≠ 4; decide
              · rw [entsOf_app, h12]
                show A ++ z.ps ++ [_] = A ++ (z.ps ++ [_])
                rw [List.append_assoc]
              · exact h13
              · rcases List.mem_append.mp he with he | he
                · exact .inl he
                · rw [List.mem_singleton] at he
                  subst he
                  exact .inr ⟨t, k, d, rfl⟩
          · rw [if_neg k2, lrk_other ⟨k1, k2, c4⟩]
            exact .inl ⟨rfl, rfl⟩
end Lw

end
section
set_option autoImplicit false
set_option linter.unusedVariables false
set_option linter.unusedSimpArgs false
namespace Lw
theorem body_len (m : Nat) : (bodyF m).length ≤ 41 := by
  have h : ∀ l, (partF l).length ≤ 10 := fun l => by
    have hl : (eachF l).length ≤ 9 := by unfold eachF; exact Nat.le_trans (List.length_filter_le _ _) (by simp)
    unfold partF
    simp
    lia
  unfold bodyF
  have h1 := h (votersF m)
  have h2 := h (list1F m)
  have h3 := h (list2F m)
  have h4 := h (list3F m)
  simp only [List.flatMap_cons, List.flatMap_nil, List.length_append, List.length_cons, List.length_nil]
  lia
theorem leb_l {n k : Nat} (h : n < 128 ^ k) (hk : 0 < k) : (leb n).length ≤ k := leb_len k (by rw [Nat.pow_mul]; exact h) hk
/-- which records a turn may take -/
theorem rec_cases (b bt m x i base last : Nat) :
    (∃ t k d, t < 200 ∧ k ≤ 2 ∧ d.length ≤ 2 ∧ Mod (2 :: encE t (idxF (wayF x i) (x / 16) base last) k d) (recF (opF b bt m) x i base last) ∧ (i = 0 → recF (opF b bt m) x i base last = 2 :: encE t (idxF (wayF x i) (x / 16) base last) k d)) ∨
    (∃ t v c, t < 200 ∧ v < 128 ∧ c < 128 ∧ Mod (encH t v c) (recF (opF b bt m) x i base last) ∧ (i = 0 → recF (opF b bt m) x i base last = encH t v c)) ∨
    (Mod (opF b bt m) (recF (opF b bt m) x i base last) ∧ (i ≠ 0 → recF (opF b bt m) x i base last = opF b bt m)) ∨
    ((recF (opF b bt m) x i base last).length ≤ 4 ∧ LR (recF (opF b bt m) x i base last) = none) := by
  have hw : wayF x i < 16 := by unfold wayF; split; · split <;> lia
                                lia
  unfold recF
  generalize wayF x i = w at *
  generalize x / 16 = y
  generalize hix : idxF w y base last = ix
  unfold rec1F
  by_cases c14 : w = 14
  · rw [if_pos c14]
    refine .inr (.inr (.inr ?_))
    unfold rec2F
    rw [if_neg (by lia)]
    by_cases cy : y % 2 = 0
    · rw [if_pos cy]
      exact ⟨by simp, lr_nil⟩
    · rw [if_neg cy]
      refine ⟨by simp, ?_⟩
      rw [lr_cons, toU (by lia)]
      exact lrk_other (by lia)
  · rw [if_neg c14]
    unfold rec0F
    by_cases ce : isEnt w y i = true
    · rw [if_pos ce]
      refine .inl ⟨y % 200, y / 3 % 2 * 2, dataF y, by lia, by lia, dl_len, ?_⟩
      have := rec2_mod (r := 2 :: encE (y % 200) ix (y / 3 % 2 * 2) (dataF y)) (by simp) w y
      refine ⟨this.1, fun hi => this.2 ?_⟩
      rintro rfl
      subst hi
      simp [isEnt] at ce
    · rw [if_neg ce]
      by_cases ch : isHard w i = true
      · rw [if_pos ch]
        refine .inr (.inl ⟨y % 200, y / 7 % 4, y / 28 % 9, by lia, by lia, by lia, ?_⟩)
        have := rec2_mod (r := encH (y % 200) (y / 7 % 4) (y / 28 % 9)) (by unfold encH; simp) w y
        refine ⟨this.1, fun hi => this.2 ?_⟩
        rintro rfl
        subst hi
        simp [isHard] at ch
      · rw [if_neg ch]
        refine .inr (.inr (.inl ?_))
        have := rec2_mod (r := opF b bt m) (by unfold opF; simp) w y
        refine ⟨this.1, fun hi => this.2 ?_⟩
        rintro rfl
        apply ch
        unfold isHard
        simp
        lia
theorem mod_lt {r r' : List UInt8} (h : Mod r r') (hl : r.length ≤ 60) : r'.length < 64 := by
  have := mod_len h
  lia
/-- what holds ahead of a turn -/
structure Inv (i base last : Nat) (rows : List Row) (z : SS) : Prop where
  rl : rows.length = i
  bb : base < 384
  bl : ∃ K, K + 1 = max i 2 ∧ last + 2 < 128 ^ (K + 1)
  ps : ∀ e ∈ z.ps, e.i < 2 ^ 64
  st : (rows = [] ∧ z = z0) ∨ (rows ≠ [] ∧ Held rows z)
theorem idx_lt {K w y base last : Nat} (h1 : base < 384) (h2 : last + 2 < 128 ^ (K + 1)) (h3 : 384 < 128 ^ (K + 1)) : idxF w y base last < 128 ^ (K + 1) := by
  unfold idxF
  by_cases c : w = 12
  · rw [if_pos c]
    split <;> lia
  · rw [if_neg c]
    by_cases c2 : w = 11 ∧ last > base
    · rw [if_pos c2]
      have : y % (last - base) < last - base := Nat.mod_lt _ (by lia)
      lia
    · rw [if_neg c2]
      lia
theorem inv_facts {b bt m : Nat} {ns : List Nat} (hb : b < 4) (hbt : bt < 3) {i base last : Nat} {rows : List Row} {z : SS} (hi : i < 8) (h : Inv i base last rows z) : Facts (opF b bt m) ns Inv i base last rows z := by
  obtain ⟨rl, bb, ⟨K, hK, bl⟩, ps, st⟩ := h
  have up : ∃ M, M + 1 = max (i + 1) 2 ∧ last + 2 < 128 ^ (M + 1) := ⟨max (i + 1) 2 - 1, by lia, Nat.lt_of_lt_of_le bl (Nat.pow_le_pow_right (by decide) (by lia))⟩
  have hsz : z.es.length ≤ 400 ∧ z.ps.length ≤ 400 := by
    rcases st with ⟨_, rfl⟩ | ⟨_, hg⟩
    · exact ⟨by simp [z0], by simp [z0]⟩
    · have := hg.sizes; lia
  have hrb : rows = [] ∨ ∃ i t ls f rs, rows = .base i t ls f :: rs := by
    rcases st with ⟨h, _⟩ | ⟨_, hg⟩
    · exact .inl h
    · obtain ⟨bi, bt, v, l, o, x, f, rs, A, h1, _⟩ := hg.ex
      exact .inr ⟨_, _, _, _, _, h1⟩
  have hK7 : K + 1 ≤ 7 := by lia
  have hK2 : 2 ≤ K + 1 := by lia
  have hp : 128 ^ (K + 1) ≤ 128 ^ 7 := Nat.pow_le_pow_right (by decide) hK7
  have hp2 : 128 ^ 2 ≤ 128 ^ (K + 1) := Nat.pow_le_pow_right (by decide) hK2
  have hp3 : 128 ^ (K + 1 + 1) = 128 * 128 ^ (K + 1) := by rw [Nat.pow_succ, Nat.mul_comm]
  have hix := idx_lt (w := wayF (drawF ns (2 + i)) i) (y := drawF ns (2 + i) / 16) bb bl (by lia)
  have hbd := body_len m
  have hol : (opF b bt m).length ≤ 45 := by
    rw [op_form, leb_small (n := 4) (by lia), leb_small (n := b) (by lia), leb_small (n := bt) (by lia), leb_small (n := (bodyF m).length) (by lia)]
    simp
    lia
  have hc := rec_cases b bt m (drawF ns (2 + i)) i base last
  generalize hrec : recF (opF b bt m) (drawF ns (2 + i)) i base last = rec at hc ⊢
  generalize hidx : idxF (wayF (drawF ns (2 + i)) i) (drawF ns (2 + i) / 16) base last = ix at hc hix
  have key : Sm rec ∧ rec.length < 64 ∧ (i ≠ 0 → ∀ t' i' k' d', LR rec = some (.ent t' i' k' d') → i' < 3 * 128 ^ (K + 1)) ∧ (i = 0 → ∀ i' t' ls f, LR rec = some (.base i' t' ls f) → i' < 384) := by
    rcases hc with ⟨t, k, d, ht, hk, hd, hm, hq⟩ | ⟨t, v, c, ht, hv, hc, hm, hq⟩ | ⟨hm, hne⟩ | ⟨hl, hn⟩
    · have hl : (2 :: encE t ix k d).length ≤ 60 := by
        rw [ent_form]
        have l1 := leb_l (n := 2) (k := 1) (by lia) (by lia)
        have l2 := leb_l (n := t) (k := 2) (by lia) (by lia)
        have l3 := leb_l (n := ix) (k := 7) (by lia) (by lia)
        have l4 := leb_l (n := k) (k := 1) (by lia) (by lia)
        have l5 := leb_l (n := d.length) (k := 1) (by lia) (by lia)
        simp only [List.length_append]
        lia
      refine ⟨ent_sm ht (by lia) hk hd hm, mod_lt hm hl, fun hi0 t' i' k' d' hr => ent_grow ht hix hk hm hr, fun h0 i' t' ls f hr => ?_⟩
      rw [hq h0] at hr
      exact absurd (lr_base hr).1 (by decide)
    · have hl : (encH t v c).length ≤ 60 := by
        rw [hard_form]
        have l1 := leb_l (n := 1) (k := 1) (by lia) (by lia)
        have l2 := leb_l (n := t) (k := 2) (by lia) (by lia)
        have l4 := leb_l (n := v) (k := 1) (by lia) (by lia)
        have l5 := leb_l (n := c) (k := 1) (by lia) (by lia)
        simp only [List.length_append, List.length_nil]
        lia
      refine ⟨hard_sm ht hv hc hm, mod_lt hm hl, fun hi0 t' i' k' d' hr => (hard_no_ent hm hr).elim, fun h0 i' t' ls f hr => ?_⟩
      rw [hq h0] at hr
      exact absurd (lr_base (y := 1) hr).1 (by decide)
    · refine ⟨op_sm hb hbt (by lia) hm, mod_lt hm (by lia), fun hi0 t' i' k' d' hr => ?_, fun h0 i' t' ls f hr => op_base hb hbt hm hr⟩
      rw [hne hi0] at hr
      exact absurd (lr_ent (y := 4) hr).1 (by decide)
    · exact ⟨Sm_len (by lia), by lia, fun hi0 t' i' k' d' hr => (by rw [hn] at hr; cases hr), fun h0 i' t' ls f hr => (by rw [hn] at hr; cases hr)⟩
  obtain ⟨hsm, hlen, hent, hbase⟩ := key
  have turn : Turn rows rec z := by
    rcases st with ⟨rfl, rfl⟩ | ⟨_, hg⟩
    · exact step0 hsm hlen
    · exact step1 hg hsm hlen
  have hlet1 : ∀ nr, i = 1 → LET rows (some nr) = true → nr.kind = 1 := fun nr h1 h2 => by
    obtain ⟨q, rfl⟩ : ∃ q, rows = [q] := List.length_eq_one_iff.mp (by lia)
    exact of_decide_eq_true h2
  refine ⟨rl, hrb, ?_, hsz, ps, ?_, by lia, ?_, ?_⟩
  · rw [hrec]; exact hlen
  · have : 128 ^ 7 < 2 ^ 60 := by decide
    lia
  · rw [hrec]
    clear hrb st hc
    intro hl
    rcases turn with ⟨h1, h2⟩ | ⟨h1, nr, z', h2, h3, h4, h5, h6⟩
    · rw [h1] at hl; cases hl
    · have hlet := h1
      rw [h2] at hlet
      have hk0 : i = 0 → nr.kind = 4 := fun h0 => h5 (List.length_eq_zero_iff.mp (by lia))
      have hgs := h4.sizes
      have hrl : (rows ++ [nr]).length = i + 1 := by simp; lia
      refine ⟨nr, z', h2, h3, h4.told, hk0, by lia, hrl, ?_, ?_, ?_, .inr ⟨by simp, h4⟩⟩
      · unfold newBase
        by_cases h0 : i = 0
        · rw [if_pos h0]
          cases nr with
          | base bi' bt' ls f => exact hbase h0 _ _ _ _ h2
          | hard => show (0 : Nat) < 384; decide
          | ent => show (0 : Nat) < 384; decide
        · rw [if_neg h0]; exact bb
      · unfold newLast
        by_cases h0 : i = 0
        · rw [if_pos h0]
          refine ⟨1, by lia, ?_⟩
          cases nr with
          | base bi' bt' ls f =>
            have : bi' < 384 := hbase h0 _ _ _ _ h2
            show bi' + 2 < _
            lia
          | hard => show (0 : Nat) + 2 < _; decide
          | ent => show (0 : Nat) + 2 < _; decide
        · rw [if_neg h0]
          cases nr with
          | base bi' bt' ls f =>
            show ∃ K', K' + 1 = max (i + 1) 2 ∧ last + 2 < 128 ^ (K' + 1)
            exact up
          | hard =>
            show ∃ K', K' + 1 = max (i + 1) 2 ∧ last + 2 < 128 ^ (K' + 1)
            exact up
          | ent t' j k' d' =>
            have hj := hent h0 _ _ _ _ h2
            have hi1 : i ≠ 1 := fun h => by
              have := hlet1 _ h hlet
              exact absurd this (by show ¬ (2 : Nat) = 1; decide)
            show ∃ K', K' + 1 = max (i + 1) 2 ∧ j + 2 < 128 ^ (K' + 1)
            exact ⟨K + 1, by lia, by lia⟩
      · intro e he
        rcases h6 e he with he | ⟨t', k', d', rfl⟩
        · exact ps e he
        · have h0 : i ≠ 0 := fun h0 => absurd (hk0 h0) (by show ¬ (2 : Nat) = 4; decide)
          have := hent h0 _ _ _ _ h2
          have : 3 * 128 ^ 7 < 2 ^ 64 := by decide
          lia
  · rw [hrec]
    intro hl
    rcases turn with ⟨h1, h2⟩ | ⟨h1, nr, z', h2, h3, h4, h5, h6⟩
    · exact h2
    · rw [h1] at hl; cases hl
theorem inv_start {b : Nat} (hb : b < 4) : Inv 0 b b [] z0 :=
  ⟨rfl, by lia, ⟨1, rfl, by lia⟩, fun e he => (by cases he), .inl ⟨rfl, rfl⟩⟩
end Lw

end
section
open PySem PySem.W PyProof.Rows PySem.Calls PySem.Spec
set_option maxRecDepth 100000
set_option maxHeartbeats 1000000
set_option linter.unusedVariables false
namespace Lw
noncomputable def Plain : Prop := ∀ sc : List Int, sc.length ≤ 63 → ∃ P : Nat → Nat → Nat → List Row → SS → Prop,
  (∀ i base last rows z, i < 8 → P i base last rows z → Facts (opF (drawF (numsF sc) 0 % 4) (drawF (numsF sc) 0 / 4 % 3) (drawF (numsF sc) 1)) (numsF sc) P i base last rows z) ∧ P 0 (drawF (numsF sc) 0 % 4) (drawF (numsF sc) 0 % 4) [] ⟨0, 0, 0, .none, 0, 0, 0, [], []⟩
noncomputable def Fold : Prop := ∀ b bt m, 4 :: (leb b ++ leb bt ++ leb (encC (rise (zs (votersF m))) (rise (zs (list1F m))) (rise (zs (list2F m))) (rise (zs (list3F m))) (m / 2250 % 2 == 1)).length ++ encC (rise (zs (votersF m))) (rise (zs (list1F m))) (rise (zs (list2F m))) (rise (zs (list3F m))) (m / 2250 % 2 == 1)) = opF b bt m
noncomputable def RiseOk : Prop := ∀ m, IdsOk (rise (zs (votersF m))) ∧ IdsOk (rise (zs (list1F m))) ∧ IdsOk (rise (zs (list2F m))) ∧ IdsOk (rise (zs (list3F m)))
theorem holds_of (plain : Plain) (hfold : Fold) (hrise : RiseOk) : PySem.Challenge.rw_no0414_01.Holds := head (by
  intro w s₀ s₁ mg mb G Y fa o pm cd doc dV kV ho hd hcd hD hmg hg args vals as hpre hlay hrd hwl hlo
  have KX := kIn_of Y
  refine Ground.open G ?_
  intro T B D TE TW
  wrow_args hpre hlay hrd hwl hlo
  rename_i sc hs hlay0 hL1 hr1 hl2 as4 as3 a ws as0 hL ra w1 r0 hI hr hc1 hc2
  have hlen : sc.length ≤ 63 := by lia
  have hfa : mg "law" = some (.ref 620) := mg_of KX T.g (rfl : nsIn (KK w.params) mainGlobals "law" = some (some (.ref 620)))
  have hfa2 : fa = 620 := by
    have h2 : mg "law" = some (.ref fa) := hmg
    rw [hfa] at h2
    injection h2 with h2
    injection h2 with h2
    exact h2.symm
  subst hfa2
  obtain ⟨P, F, hP⟩ := plain sc hlen
  refine law_entry (g := G0 PySem.Challenge.rw_no0414_01.prog w (ExcName.means s₀.heap) mg mb) (f := 620) (body := lawBody) (scope := lawScope) (by exact rfl) (by exact rfl) KX T (fun v => by exact rfl) (fun n => by exact rfl) (by exact rfl) (fun oc s' hoc ok room st Ec => ?_) (by exact rfl) (by exact rfl) (by exact rfl)
  refine law_top room hoc hL hI hlen F hP hfold hrise ok [] s' _ Ec st fun s'' good => ?_
  refine GoodW.toG ⟨.inl ⟨.bool true, .bool true, [], rfl, fun _ => rfl, .bool true, ?_, unshared_nil⟩, good.keep, good.os, good.gens.trans hg⟩
  wrow_post)
end Lw

end
section
set_option linter.unusedVariables false
namespace Lw
theorem plain_holds : Plain := fun sc hsc => ⟨Inv, fun i base last rows z hi h => inv_facts (Nat.mod_lt _ (by decide)) (Nat.mod_lt _ (by decide)) hi h, inv_start (Nat.mod_lt _ (by decide))⟩
theorem holds_all : PySem.Challenge.rw_no0414_01.Holds := holds_of plain_holds fold_holds rise_ok
end Lw

end
theorem PySem.Challenge.cw_no0414_01_holds : PySem.Challenge.rw_no0414_01.Holds :=
  Lw.holds_all
