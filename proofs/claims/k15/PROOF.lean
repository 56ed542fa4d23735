import PyProof.Rows.All
import Wide.All
import OpenK.AllK
import Wide.FinOn
import HandS.ForMost
import HandS.ForExc
import HandS.Style
import HandS.More
import HandS.IsInst
import HandS.Conv
import HandS.TupAny
import HandS.Deep
import HandS.Wide
import HandS.Strs
import HandS.SetFor
import HandS.OwnEq
import KE.GoesEnum
import HandS.EndBits
import PyProof.ReprLen
import PyProof.P3Eq
import PySem.Challenge.RW_crewlists_k15_jobs_changed
set_option Elab.async false
set_option maxRecDepth 100000
set_option linter.unusedVariables false
set_option linter.unusedSimpArgs false
/-! Cw, part A: plain data D, how the heap bears it (Rp), slots (En), the state of a frame (Rel). -/
namespace Cw
open PySem L2

abbrev Fg := PySem.W.Frag
/-- plain data: what the mirrors speak of -/
inductive D where
  | non
  | bl (b : Bool)
  | int (i : Int)
  | str (x : Str)
  | tup (xs : List D)
  | lst (xs : List D)
  | dic (kvs : List (D × D))
  | ins (C : Addr) (fs : List (Str × D))
  | raw (v : V)
  | scr (xs : List D)

def keyD : Key → D
  | .inl i => .int i
  | .inr x => .str x

def StT (K : Fg) (a : Addr) (vs : List V) : Prop :=
  ∃ (o : Obj) (its : Array Value) (n : Nat), K.lookup a = some o ∧ o.cls = .type "tuple" ∧ o.data = .seq its n ∧ its.size ≤ sizeLine ∧ Vals vs its.toList
abbrev Ad := Addr → Prop
def ScrAt (K : Fg) (B : Ad) (H : Hp) (a : Addr) (vs : List V) : Prop := (¬ B a ∧ Rd H a (.lst vs)) ∨
  ∃ (o : Obj) (its : Array Value) (n : Nat), K.lookup a = some o ∧ o.cls = .type "list" ∧ o.dict = none ∧ o.data = .seq its n ∧ its.size ≤ sizeLine ∧ Vals vs its.toList
def TupAt (K : Fg) (B : Ad) (H : Hp) (a : Addr) (vs : List V) : Prop := (¬ B a ∧ Rd H a (.tup vs)) ∨ StT K a vs
def LstAt (K : Fg) (B : Ad) (H : Hp) (a : Addr) (vs : List V) : Prop := ¬ B a ∧ H a = some (.lst vs)
theorem TupAt.sq {K : Fg} {B : Ad} {H : Hp} {a : Addr} {vs : List V} (h : TupAt K B H a vs) : SqT K H a vs := by
  rcases h with h | h
  · exact .inl h.2
  · exact .inr h
theorem ScrAt.sq {K : Fg} {B : Ad} {H : Hp} {a : Addr} {vs : List V} (h : ScrAt K B H a vs) : SqL K H a vs := by
  rcases h with h | h
  · exact .inl h.2
  · exact .inr h
theorem LstAt.sq {K : Fg} {B : Ad} {H : Hp} {a : Addr} {vs : List V} (h : LstAt K B H a vs) : SqL K H a vs := .inl (.inl h.2)

mutual
/-- v bears d in H, by objects that nobody will change (none of them in B) -/
inductive Rp (K : Fg) (B : Ad) (H : Hp) : V → D → Prop
  | non : Rp K B H .non .non
  | bl (b : Bool) : Rp K B H (.bl b) (.bl b)
  | int (i : Int) : Rp K B H (.int i) (.int i)
  | str (x : Str) : Rp K B H (.str x) (.str x)
  | raw (v : V) : Rp K B H v (.raw v)
  | tup {a : Addr} {vs : List V} {ds : List D} : TupAt K B H a vs → RpL K B H vs ds → Rp K B H (.ref a) (.tup ds)
  | lst {a : Addr} {vs : List V} {ds : List D} : LstAt K B H a vs → RpL K B H vs ds → Rp K B H (.ref a) (.lst ds)
  | scr {a : Addr} {vs : List V} {ds : List D} : ScrAt K B H a vs → RpL K B H vs ds → Rp K B H (.ref a) (.scr ds)
  | dK {a : Addr} {kvs : List (Key × V)} {ds : List (D × D)} : ¬ B a → Rd H a (.dK kvs) → RpP K B H (kvs.map fun p => (keyD p.1, p.2)) ds → Rp K B H (.ref a) (.dic ds)
  | dT {a : Addr} {kvs : List (List Key × V)} {ds : List (D × D)} : ¬ B a → Rd H a (.dT kvs) → RpP K B H (kvs.map fun p => (D.tup (p.1.map keyD), p.2)) ds → Rp K B H (.ref a) (.dic ds)
  | ins {a C dx : Addr} {fs : List (Str × V)} {ds : List (Str × D)} : ¬ B a → H a = some (.ins C dx fs) → RpF K B H fs ds → Rp K B H (.ref a) (.ins C ds)
inductive RpL (K : Fg) (B : Ad) (H : Hp) : List V → List D → Prop
  | nil : RpL K B H [] []
  | cons {v : V} {d : D} {vs : List V} {ds : List D} : Rp K B H v d → RpL K B H vs ds → RpL K B H (v :: vs) (d :: ds)
inductive RpF (K : Fg) (B : Ad) (H : Hp) : List (Str × V) → List (Str × D) → Prop
  | nil : RpF K B H [] []
  | cons {n : Str} {v : V} {d : D} {vs : List (Str × V)} {ds : List (Str × D)} : Rp K B H v d → RpF K B H vs ds → RpF K B H ((n, v) :: vs) ((n, d) :: ds)
inductive RpP (K : Fg) (B : Ad) (H : Hp) : List (D × V) → List (D × D) → Prop
  | nil : RpP K B H [] []
  | cons {k : D} {v : V} {d : D} {vs : List (D × V)} {ds : List (D × D)} : Rp K B H v d → RpP K B H vs ds → RpP K B H ((k, v) :: vs) ((k, d) :: ds)
end

section
variable {K : Fg} {B B' : Ad} {H H' : Hp}
theorem rd_keep {a : Addr} {u : HO} (h1 : ∀ a o, H a = some o → ¬ B a → H' a = some o) (nb : ¬ B a) (h : Rd H a u) : Rd H' a u := by
  rcases h with h | ⟨o, h⟩
  · exact .inl (h1 _ _ h nb)
  · exact .inr ⟨o, h1 _ _ h nb⟩
theorem rd_some {a : Addr} {u : HO} (h : Rd H a u) : H a ≠ none := by
  rcases h with h | ⟨o, h⟩ <;> rw [h] <;> exact fun z => nomatch z
theorem TupAt.step (h1 : ∀ a o, H a = some o → ¬ B a → H' a = some o) (h2 : ∀ a, B' a → B a ∨ H a = none) {a : Addr} {vs : List V} (h : TupAt K B H a vs) : TupAt K B' H' a vs := by
  rcases h with ⟨nb, h⟩ | h
  · exact .inl ⟨fun z => (h2 a z).elim nb fun q => rd_some h q, rd_keep h1 nb h⟩
  · exact .inr h
theorem ScrAt.step (h1 : ∀ a o, H a = some o → ¬ B a → H' a = some o) (h2 : ∀ a, B' a → B a ∨ H a = none) {a : Addr} {vs : List V} (h : ScrAt K B H a vs) : ScrAt K B' H' a vs := by
  rcases h with ⟨nb, h⟩ | h
  · exact .inl ⟨fun z => (h2 a z).elim nb fun q => rd_some h q, rd_keep h1 nb h⟩
  · exact .inr h
theorem LstAt.step (h1 : ∀ a o, H a = some o → ¬ B a → H' a = some o) (h2 : ∀ a, B' a → B a ∨ H a = none) {a : Addr} {vs : List V} (h : LstAt K B H a vs) : LstAt K B' H' a vs :=
  ⟨fun z => (h2 a z).elim h.1 fun q => (by rw [h.2] at q; cases q), h1 _ _ h.2 h.1⟩
mutual
theorem Rp.step (h1 : ∀ a o, H a = some o → ¬ B a → H' a = some o) (h2 : ∀ a, B' a → B a ∨ H a = none) : ∀ {v : V} {d : D}, Rp K B H v d → Rp K B' H' v d
  | _, _, .non => .non
  | _, _, .bl b => .bl b
  | _, _, .int i => .int i
  | _, _, .str x => .str x
  | _, _, .raw v => .raw v
  | _, _, .tup t r => .tup (t.step h1 h2) (RpL.step h1 h2 r)
  | _, _, .lst t r => .lst (t.step h1 h2) (RpL.step h1 h2 r)
  | _, _, .scr t r => .scr (t.step h1 h2) (RpL.step h1 h2 r)
  | _, _, .dK nb h r => .dK (fun z => (h2 _ z).elim nb fun q => rd_some h q) (rd_keep h1 nb h) (RpP.step h1 h2 r)
  | _, _, .dT nb h r => .dT (fun z => (h2 _ z).elim nb fun q => rd_some h q) (rd_keep h1 nb h) (RpP.step h1 h2 r)
  | _, _, .ins nb h r => .ins (fun z => (h2 _ z).elim nb fun q => by rw [h] at q; cases q) (h1 _ _ h nb) (RpF.step h1 h2 r)
theorem RpL.step (h1 : ∀ a o, H a = some o → ¬ B a → H' a = some o) (h2 : ∀ a, B' a → B a ∨ H a = none) : ∀ {v : List V} {d : List D}, RpL K B H v d → RpL K B' H' v d
  | _, _, .nil => .nil
  | _, _, .cons a r => .cons (Rp.step h1 h2 a) (RpL.step h1 h2 r)
theorem RpF.step (h1 : ∀ a o, H a = some o → ¬ B a → H' a = some o) (h2 : ∀ a, B' a → B a ∨ H a = none) : ∀ {v : List (Str × V)} {d : List (Str × D)}, RpF K B H v d → RpF K B' H' v d
  | _, _, .nil => .nil
  | _, _, .cons a r => .cons (Rp.step h1 h2 a) (RpF.step h1 h2 r)
theorem RpP.step (h1 : ∀ a o, H a = some o → ¬ B a → H' a = some o) (h2 : ∀ a, B' a → B a ∨ H a = none) : ∀ {v : List (D × V)} {d : List (D × D)}, RpP K B H v d → RpP K B' H' v d
  | _, _, .nil => .nil
  | _, _, .cons a r => .cons (Rp.step h1 h2 a) (RpP.step h1 h2 r)
end
end

/-! ### slots -/
inductive Fl where
  | sh | ow | mu
  deriving DecidableEq
abbrev En := List (Option (Fl × D))
/-- what slot i holds -/
def getE : En → Nat → Option (Fl × D)
  | [], _ => none
  | x :: _, 0 => x
  | _ :: r, i + 1 => getE r i
def getS : St → Nat → Option V
  | [], _ => none
  | x :: _, 0 => x
  | _ :: r, i + 1 => getS r i
theorem getS_of : ∀ {σ : St} {i : Nat} {v : V}, (σ[i]? : Option (Option V)) = some (some v) → getS σ i = some v
  | _ :: _, 0, _, h => Option.some.inj h
  | _ :: r, i + 1, v, h => getS_of (σ := r) (i := i) (v := v) (by simpa using h)
  | [], _, _, h => by simp at h
theorem getS_to : ∀ {σ : St} {i : Nat} {v : V}, getS σ i = some v → (σ[i]? : Option (Option V)) = some (some v)
  | _ :: _, 0, _, h => congrArg some h
  | _ :: r, i + 1, v, h => by rw [List.getElem?_cons_succ]; exact getS_to (σ := r) (i := i) (v := v) h
  | [], _, _, h => by cases h
theorem getE_lt : ∀ {e : En} {i : Nat} {x : Fl × D}, getE e i = some x → i < e.length
  | _ :: _, 0, _, _ => by simp
  | _ :: r, i + 1, x, h => by simpa using getE_lt (e := r) (i := i) (x := x) h
  | [], _, _, h => by cases h
theorem getS_lt : ∀ {e : St} {i : Nat} {x : V}, getS e i = some x → i < e.length
  | _ :: _, 0, _, _ => by simp
  | _ :: r, i + 1, x, h => by simpa using getS_lt (e := r) (i := i) (x := x) h
  | [], _, _, h => by cases h
theorem getE_set_same : ∀ {e : En} {i : Nat} {x : Option (Fl × D)}, i < e.length → getE (e.set i x) i = x
  | _ :: _, 0, _, _ => rfl
  | _ :: r, i + 1, x, h => getE_set_same (e := r) (i := i) (x := x) (by simpa using h)
theorem getE_set_ne : ∀ {e : En} {i j : Nat} {x : Option (Fl × D)}, i ≠ j → getE (e.set i x) j = getE e j
  | [], _, _, _, _ => rfl
  | _ :: _, 0, 0, _, h => absurd rfl h
  | _ :: _, 0, _ + 1, _, _ => rfl
  | _ :: _, _ + 1, 0, _, _ => rfl
  | _ :: r, i + 1, j + 1, x, h => getE_set_ne (e := r) (i := i) (j := j) (x := x) fun z => h (by rw [z])
theorem getS_set_same : ∀ {e : St} {i : Nat} {x : Option V}, i < e.length → getS (e.set i x) i = x
  | _ :: _, 0, _, _ => rfl
  | _ :: r, i + 1, x, h => getS_set_same (e := r) (i := i) (x := x) (by simpa using h)
theorem getS_set_ne : ∀ {e : St} {i j : Nat} {x : Option V}, i ≠ j → getS (e.set i x) j = getS e j
  | [], _, _, _, _ => rfl
  | _ :: _, 0, 0, _, h => absurd rfl h
  | _ :: _, 0, _ + 1, _, _ => rfl
  | _ :: _, _ + 1, 0, _, _ => rfl
  | _ :: r, i + 1, j + 1, x, h => getS_set_ne (e := r) (i := i) (j := j) (x := x) fun z => h (by rw [z])
/-- the addresses that slots own -/
def Own (σ : St) (e : En) : Ad := fun a => ∃ i f d, getE e i = some (f, d) ∧ f ≠ .sh ∧ getS σ i = some (.ref a)
/-- what lies around a frame: addresses that are not its own to touch or to reach; the slots of its changed parameters -/
structure Fx where
  bx : Ad
  pn : List (Nat × Addr)
def Fx.plus (F : Fx) (p : Addr) : Fx := ⟨fun a => F.bx a ∨ a = p, F.pn⟩
def Bd (F : Fx) (σ : St) (e : En) : Ad := fun a => F.bx a ∨ Own σ e a
def OwnAt (K : Fg) (B : Ad) (H : Hp) (p : Addr) : D → Prop
  | .lst ds => ∃ vs, H p = some (.lst vs) ∧ RpL K B H vs ds
  | .dic ds => (∃ kvs : List (Key × V), H p = some (.dK kvs) ∧ RpP K B H (kvs.map fun q => (keyD q.1, q.2)) ds) ∨
      ∃ kvs : List (List Key × V), H p = some (.dT kvs) ∧ RpP K B H (kvs.map fun q => (D.tup (q.1.map keyD), q.2)) ds
  | .ins C ds => ∃ dx fs, H p = some (.ins C dx fs) ∧ RpF K B H fs ds
  | _ => False
structure Rel (K : Fg) (F : Fx) (σ : St) (H : Hp) (e : En) : Prop where
  len : e.length = σ.length
  val : ∀ i d, getE e i = some (.sh, d) → ∃ v, getS σ i = some v ∧ Rp K (Bd F σ e) H v d
  own : ∀ i f d, getE e i = some (f, d) → f ≠ .sh → ∃ p, getS σ i = some (.ref p) ∧ OwnAt K (Bd F σ e) H p d
  dist : ∀ i j f g d d' p, getE e i = some (f, d) → f ≠ .sh → getE e j = some (g, d') → g ≠ .sh → getS σ i = some (.ref p) → getS σ j = some (.ref p) → i = j
  ext : ∀ a, F.bx a → ¬ Own σ e a ∧ H a ≠ none
  pin : ∀ q ∈ F.pn, getS σ q.1 = some (.ref q.2) ∧ ∃ d, getE e q.1 = some (.mu, d)

/-- from H to H' nothing but what is in O has changed, and what was there is there -/
structure Stp (O : Ad) (H H' : Hp) : Prop where
  keep : ∀ a o, H a = some o → ¬ O a → H' a = some o
  back : ∀ a, H' a = none → H a = none
theorem Stp.refl {O : Ad} {H : Hp} : Stp O H H := ⟨fun _ _ h _ => h, fun _ h => h⟩
theorem Stp.same {O : Ad} {H H' : Hp} (h : Same H H') : Stp O H H' := ⟨fun a o q _ => h a o q, fun a q => h.free q⟩
theorem Stp.trans {O O1 : Ad} {H H1 H2 : Hp} (a : Stp O H H1) (b : Stp O1 H1 H2) (h : ∀ x, O1 x → O x ∨ H x = none) : Stp O H H2 :=
  ⟨fun x o q n => b.keep x o (a.keep x o q n) fun z => (h x z).elim n fun w => (by rw [q] at w; cases w), fun x q => a.back x (b.back x q)⟩

section
variable {K : Fg} {B B' : Ad} {H H' : Hp} {F : Fx} {σ : St} {e e' : En}
theorem OwnAt.step {p : Addr} (h1 : ∀ a o, H a = some o → ¬ B a → H' a = some o) (h2 : ∀ a, B' a → B a ∨ H a = none) (h3 : H' p = H p) : ∀ {d : D}, OwnAt K B H p d → OwnAt K B' H' p d
  | .lst ds, ⟨vs, q, r⟩ => ⟨vs, h3.trans q, r.step h1 h2⟩
  | .dic ds, .inl ⟨vs, q, r⟩ => .inl ⟨vs, h3.trans q, r.step h1 h2⟩
  | .dic ds, .inr ⟨vs, q, r⟩ => .inr ⟨vs, h3.trans q, r.step h1 h2⟩
  | .ins C ds, ⟨dx, vs, q, r⟩ => ⟨dx, vs, h3.trans q, r.step h1 h2⟩
theorem OwnAt.some {p : Addr} : ∀ {d : D}, OwnAt K B H p d → H p ≠ none
  | .lst ds, ⟨vs, q, r⟩ => by rw [q]; exact fun z => nomatch z
  | .dic ds, .inl ⟨vs, q, r⟩ => by rw [q]; exact fun z => nomatch z
  | .dic ds, .inr ⟨vs, q, r⟩ => by rw [q]; exact fun z => nomatch z
  | .ins C ds, ⟨dx, vs, q, r⟩ => by rw [q]; exact fun z => nomatch z
theorem OwnAt.rp {p : Addr} (nb : ¬ B p) : ∀ {d : D}, OwnAt K B H p d → Rp K B H (.ref p) d
  | .lst ds, ⟨vs, q, r⟩ => .lst ⟨nb, q⟩ r
  | .dic ds, .inl ⟨vs, q, r⟩ => .dK nb (.inl q) r
  | .dic ds, .inr ⟨vs, q, r⟩ => .dT nb (.inl q) r
  | .ins C ds, ⟨dx, vs, q, r⟩ => .ins nb q r
theorem Rp.anti {v : V} {d : D} (h : Rp K B H v d) (k : ∀ a, B' a → B a) : Rp K B' H v d := h.step (fun _ _ q _ => q) fun a q => .inl (k a q)
theorem OwnAt.anti {p : Addr} {d : D} (h : OwnAt K B H p d) (k : ∀ a, B' a → B a) : OwnAt K B' H p d := h.step (fun _ _ q _ => q) (fun a q => .inl (k a q)) rfl
theorem Rel.anti {G : Fx} (h : Rel K F σ H e) (k : ∀ a, G.bx a → F.bx a) (hp : G.pn = F.pn) : Rel K G σ H e := by
  have kb : ∀ a, Bd G σ e a → Bd F σ e a := fun a z => z.elim (fun z => .inl (k a z)) .inr
  refine ⟨h.len, fun i d q => ?_, fun i f d q n => ?_, h.dist, fun a z => h.ext a (k a z), fun q z => h.pin q (by rw [← hp]; exact z)⟩
  · obtain ⟨v, a, b⟩ := h.val i d q
    exact ⟨v, a, b.anti kb⟩
  · obtain ⟨v, a, b⟩ := h.own i f d q n
    exact ⟨v, a, b.anti kb⟩
theorem Rel.minus {p : Addr} (h : Rel K (F.plus p) σ H e) : Rel K F σ H e := h.anti (fun a z => .inl z) rfl
/-- new objects are laid, nothing else is done -/
theorem Rel.same (h : Rel K F σ H e) (s : Same H H') : Rel K F σ H' e := by
  have k1 : ∀ a o, H a = some o → ¬ Bd F σ e a → H' a = some o := fun a o q _ => s a o q
  refine ⟨h.len, fun i d q => ?_, fun i f d q n => ?_, h.dist, fun a z => ⟨(h.ext a z).1, fun w => (h.ext a z).2 (s.free w)⟩, h.pin⟩
  · obtain ⟨v, a, b⟩ := h.val i d q
    exact ⟨v, a, b.step k1 fun a z => .inl z⟩
  · obtain ⟨p, a, b⟩ := h.own i f d q n
    refine ⟨p, a, b.step k1 (fun a z => .inl z) ?_⟩
    cases w : H p with
    | none => exact absurd w b.some
    | some o => exact s p o w
/-- .. and one of them is nobody's yet -/
theorem Rel.plus {p : Addr} (h : Rel K F σ H e) (s : Same H H') (np : H p = none) (sp : H' p ≠ none) : Rel K (F.plus p) σ H' e := by
  have k1 : ∀ a o, H a = some o → ¬ Bd F σ e a → H' a = some o := fun a o q _ => s a o q
  have k2 : ∀ a, Bd (F.plus p) σ e a → Bd F σ e a ∨ H a = none := fun a z => by
    rcases z with (z | z) | z
    · exact .inl (.inl z)
    · exact .inr (z ▸ np)
    · exact .inl (.inr z)
  have np' : ¬ Own σ e p := fun ⟨i, f, d, q, n, w⟩ => by
    obtain ⟨p', a, b⟩ := h.own i f d q n
    rw [w] at a; cases a
    exact b.some np
  refine ⟨h.len, fun i d q => ?_, fun i f d q n => ?_, h.dist, fun a z => ?_, h.pin⟩
  · obtain ⟨v, a, b⟩ := h.val i d q
    exact ⟨v, a, b.step k1 k2⟩
  · obtain ⟨p, a, b⟩ := h.own i f d q n
    refine ⟨p, a, b.step k1 k2 ?_⟩
    cases w : H p with
    | none => exact absurd w b.some
    | some o => exact s p o w
  · rcases z with z | z
    · exact ⟨(h.ext a z).1, fun w => (h.ext a z).2 (s.free w)⟩
    · rw [z]; exact ⟨np', sp⟩
end

/-! ### what a mirror gives -/
/-- an exception: its class, its fields -/
structure Xc where
  cls : Value
  fs : List (Str × D)
inductive R (α : Type) where
  | ok (a : α) (e : En)
  | exc (x : Xc) (e : En)
  | bad
abbrev M (α : Type) := En → R α
def M.ret {α : Type} (a : α) : M α := fun e => .ok a e
def M.bad {α : Type} : M α := fun _ => .bad
def M.bind {α β : Type} (f : M α) (g : α → M β) : M β := fun e => match f e with
  | .ok a e1 => g a e1
  | .exc x e1 => .exc x e1
  | .bad => .bad
def M.opt {α : Type} : Option α → M α
  | some a => M.ret a
  | none => M.bad
/-- an expression's value: shared data; a new object that is nobody's yet; what slot i holds -/
inductive RV where
  | sh (d : D) | fr (d : D) | sl (i : Nat)
def look (e : En) : RV → Option D
  | .sh d => some d
  | .fr d => some d
  | .sl i => match getE e i with
    | some (_, d) => some d
    | none => none
/-- read it as it stands now -/
def M.get (r : RV) : M D := fun e => match look e r with
  | some d => .ok d e
  | none => .bad
/-- let it be shared -/
def M.esc : RV → M D
  | .sh d => M.ret d
  | .fr d => M.ret d
  | .sl i => fun e => match getE e i with
    | some (.sh, d) => .ok d e
    | some (.ow, d) => .ok d (e.set i (some (.sh, d)))
    | _ => .bad

/-- what lies around may grow by new things -/
structure Le (F F' : Fx) (H : Hp) : Prop where
  pn : F'.pn = F.pn
  up : ∀ a, F.bx a → F'.bx a
  dn : ∀ a, F'.bx a → F.bx a ∨ H a = none
theorem Le.refl {F : Fx} {H : Hp} : Le F F H := ⟨rfl, fun _ h => h, fun _ h => .inl h⟩
/-- from (F, σ, H, e) to (F', σ', H', e') -/
structure Post (K : Fg) (F : Fx) (σ : St) (H : Hp) (e : En) (F' : Fx) (σ' : St) (H' : Hp) (e' : En) : Prop where
  rel : Rel K F' σ' H' e'
  stp : Stp (Own σ e) H H'
  ow : ∀ a, Own σ' e' a → Own σ e a ∨ H a = none
  le : Le F F' H
theorem Post.refl {K : Fg} {F : Fx} {σ : St} {H : Hp} {e : En} (h : Rel K F σ H e) : Post K F σ H e F σ H e := ⟨h, .refl, fun _ h => .inl h, .refl⟩
theorem Post.trans {K : Fg} {F F1 F2 : Fx} {σ σ1 σ2 : St} {H H1 H2 : Hp} {e e1 e2 : En} (a : Post K F σ H e F1 σ1 H1 e1) (b : Post K F1 σ1 H1 e1 F2 σ2 H2 e2) : Post K F σ H e F2 σ2 H2 e2 :=
  ⟨b.rel, a.stp.trans b.stp a.ow, fun x h => (b.ow x h).elim (a.ow x) fun w => .inr (a.stp.back x w),
    ⟨b.le.pn.trans a.le.pn, fun x h => b.le.up x (a.le.up x h), fun x h => (b.le.dn x h).elim (a.le.dn x) fun w => .inr (a.stp.back x w)⟩⟩
/-- the value v is what r says; a new object was not there in H0 -/
def Held (K : Fg) (F : Fx) (σ : St) (H0 H : Hp) (e : En) (v : V) : RV → Prop
  | .sh d => Rp K (Bd F σ e) H v d
  | .fr d => ∃ p, v = .ref p ∧ H0 p = none ∧ F.bx p ∧ OwnAt K (Bd F σ e) H p d
  | .sl i => getS σ i = some v
section
variable {K : Fg} {F F1 F2 : Fx} {σ σ1 σ2 : St} {H H0 H1 H2 : Hp} {e e1 e2 : En}
theorem Post.k1 (b : Post K F1 σ1 H1 e1 F2 σ2 H2 e2) : ∀ a o, H1 a = some o → ¬ Bd F1 σ1 e1 a → H2 a = some o := fun a o h n => b.stp.keep a o h fun z => n (.inr z)
theorem Post.k2 (b : Post K F1 σ1 H1 e1 F2 σ2 H2 e2) : ∀ a, Bd F2 σ2 e2 a → Bd F1 σ1 e1 a ∨ H1 a = none := fun a h =>
  h.elim (fun h => (b.le.dn a h).elim (fun h => .inl (.inl h)) .inr) fun h => (b.ow a h).elim (fun h => .inl (.inr h)) .inr
theorem Rp.post {v : V} {d : D} (h : Rp K (Bd F1 σ1 e1) H1 v d) (b : Post K F1 σ1 H1 e1 F2 σ2 H2 e2) : Rp K (Bd F2 σ2 e2) H2 v d := h.step b.k1 b.k2
theorem RpL.post {v : List V} {d : List D} (h : RpL K (Bd F1 σ1 e1) H1 v d) (b : Post K F1 σ1 H1 e1 F2 σ2 H2 e2) : RpL K (Bd F2 σ2 e2) H2 v d := h.step b.k1 b.k2
/-- what is around stays -/
theorem Post.around (R : Rel K F1 σ1 H1 e1) (b : Post K F1 σ1 H1 e1 F2 σ2 H2 e2) {p : Addr} (hp : F1.bx p) : H2 p = H1 p := by
  obtain ⟨h1, h2⟩ := R.ext p hp
  cases w : H1 p with
  | none => exact absurd w h2
  | some o => exact b.stp.keep p o w h1
theorem Held.post {v : V} (R : Rel K F1 σ H1 e1) (b : Post K F1 σ H1 e1 F2 σ H2 e2) : ∀ {r : RV}, Held K F1 σ H0 H1 e1 v r → Held K F2 σ H0 H2 e2 v r
  | .sh d, h => Rp.post h b
  | .fr d, ⟨p, q, n, f, o⟩ => ⟨p, q, n, b.le.up p f, o.step b.k1 b.k2 (b.around R f)⟩
  | .sl i, h => h
theorem Held.back {v : V} (k : ∀ a, H1 a = none → H0 a = none) : ∀ {r : RV}, Held K F σ H1 H e v r → Held K F σ H0 H e v r
  | .sh d, h => h
  | .fr d, ⟨p, q, n, f, o⟩ => ⟨p, q, k p n, f, o⟩
  | .sl i, h => h
/-- data as it may be read now -/
def RpB (K : Fg) (B : Ad) (H : Hp) (v : V) (d : D) : Prop := Rp K B H v d ∨ ∃ p, v = .ref p ∧ OwnAt K B H p d
theorem Held.look {v : V} {d : D} (R : Rel K F σ H e) : ∀ {r : RV}, Held K F σ H0 H e v r → look e r = some d → RpB K (Bd F σ e) H v d
  | .sh d, h, q => by cases q; exact .inl h
  | .fr d, ⟨p, w, n, f, o⟩, q => by cases q; exact .inr ⟨p, w, o⟩
  | .sl i, h, q => by
    unfold Cw.look at q
    cases w : getE e i with
    | none => simp only [w] at q; cases q
    | some x =>
      obtain ⟨f, d'⟩ := x
      simp only [w] at q; cases q
      by_cases hf : f = .sh
      · subst hf
        obtain ⟨v', a, b⟩ := R.val i _ w
        have a := h.symm.trans a
        cases a; exact .inl b
      · obtain ⟨p, a, b⟩ := R.own i f _ w hf
        have a := h.symm.trans a
        cases a; exact .inr ⟨p, rfl, b⟩
end
/-- how an exception lies there -/
def XcOk (K : Fg) (B : Ad) (H : Hp) (cls : Value) (d : Option Addr) (x : Xc) : Prop :=
  cls = x.cls ∧ match x.fs with
    | [] => True
    | fs => ∃ a vs, d = some a ∧ H a = some (.xd vs) ∧ RpF K B H vs fs
end Cw

/-! Cw, part B: expressions. -/
namespace Cw
open PySem L2

abbrev Wx := Value → Option Addr → St → Hp → Prop
def Aft {α : Type} (W : Wx) (K : Fg) (F : Fx) (σ : St) (H : Hp) (e : En) (k : α → Fx → En → Hp → Prop) : R α → Prop
  | .ok a e' => ∀ F' H', Post K F σ H e F' σ H' e' → k a F' e' H'
  | .exc x e' => ∀ cls d F' H', Post K F σ H e F' σ H' e' → XcOk K (Bd F' σ e') H' cls d x → W cls d σ H'
  | .bad => False
section
variable {α β : Type} {W : Wx} {K : Fg} {F F' F1 : Fx} {σ : St} {H H' H1 H0 : Hp} {e e' e1 : En}
theorem Aft.imp {k k' : α → Fx → En → Hp → Prop} {r : R α} (h : Aft W K F σ H e k r) (hk : ∀ a F' e' H', Post K F σ H e F' σ H' e' → k a F' e' H' → k' a F' e' H') : Aft W K F σ H e k' r := by
  cases r with
  | ok a e1 => exact fun F' H' p => hk _ _ _ _ p (h F' H' p)
  | exc x e1 => exact h
  | bad => exact h
theorem Aft.bind {f : M α} {g : α → M β} {k : β → Fx → En → Hp → Prop} (h : Aft W K F σ H e k (M.bind f g e)) :
    Aft W K F σ H e (fun a F1 e1 H1 => Aft W K F1 σ H1 e1 k (g a e1)) (f e) := by
  unfold M.bind at h
  cases q : f e with
  | bad => rw [q] at h; exact h
  | exc x e1 => rw [q] at h; exact h
  | ok a e1 =>
    rw [q] at h
    intro F1 H1 p
    have h : Aft W K F σ H e k (g a e1) := h
    cases w : g a e1 with
    | bad => rw [w] at h; exact h
    | exc x e2 =>
      rw [w] at h
      exact fun cls d F2 H2 p2 hx => h cls d F2 H2 (p.trans p2) hx
    | ok b e2 =>
      rw [w] at h
      exact fun F2 H2 p2 => h F2 H2 (p.trans p2)
theorem Aft.ret {k : α → Fx → En → Hp → Prop} {a : α} (R : Rel K F σ H e) (h : Aft W K F σ H e k (M.ret a e)) : k a F e H := h F H (.refl R)

/-- freezing an owned slot -/
theorem Rel.freeze {i : Nat} {d : D} (R : Rel K F σ H e) (q : getE e i = some (.ow, d)) :
    Rel K F σ H (e.set i (some (.sh, d))) ∧ (∀ a, Own σ (e.set i (some (.sh, d))) a → Own σ e a) ∧ ∀ v, getS σ i = some v → Rp K (Bd F σ (e.set i (some (.sh, d)))) H v d := by
  have hi := getE_lt q
  obtain ⟨p, sp, op⟩ := R.own i .ow d q (by decide)
  have hg : ∀ j f d', getE (e.set i (some (.sh, d))) j = some (f, d') → f ≠ .sh → j ≠ i ∧ getE e j = some (f, d') := fun j f d' w n => by
    by_cases hj : i = j
    · subst hj
      rw [getE_set_same hi] at w
      cases w; exact absurd rfl n
    · rw [getE_set_ne hj] at w
      exact ⟨fun z => hj z.symm, w⟩
  have ow : ∀ a, Own σ (e.set i (some (.sh, d))) a → Own σ e a := fun a ⟨j, f, d', w, n, s⟩ => ⟨j, f, d', (hg j f d' w n).2, n, s⟩
  have bd : ∀ a, Bd F σ (e.set i (some (.sh, d))) a → Bd F σ e a := fun a h => h.elim .inl fun z => .inr (ow a z)
  have np : ¬ Bd F σ (e.set i (some (.sh, d))) p := fun h => by
    rcases h with h | ⟨j, f, d', w, n, s⟩
    · exact (R.ext p h).1 ⟨i, .ow, d, q, by decide, sp⟩
    · obtain ⟨hj, w⟩ := hg j f d' w n
      exact hj (R.dist j i f .ow d' d p w n q (by decide) s sp)
  have rp : ∀ v, getS σ i = some v → Rp K (Bd F σ (e.set i (some (.sh, d)))) H v d := fun v hv => by
    rw [sp] at hv; cases hv
    exact (op.anti bd).rp np
  refine ⟨⟨by rw [List.length_set]; exact R.len, fun j d' w => ?_, fun j f d' w n => ?_, fun j l f g d1 d2 p' w1 n1 w2 n2 s1 s2 => ?_, fun a h => ⟨fun z => (R.ext a h).1 (ow a z), (R.ext a h).2⟩, fun z hz => ?_⟩, ow, rp⟩
  · by_cases hj : i = j
    · subst hj
      rw [getE_set_same hi] at w; cases w
      exact ⟨_, sp, rp _ sp⟩
    · rw [getE_set_ne hj] at w
      obtain ⟨v, a, b⟩ := R.val j d' w
      exact ⟨v, a, b.anti bd⟩
  · obtain ⟨p', a, b⟩ := R.own j f d' (hg j f d' w n).2 n
    exact ⟨p', a, b.anti bd⟩
  · exact R.dist j l f g d1 d2 p' (hg _ _ _ w1 n1).2 n1 (hg _ _ _ w2 n2).2 n2 s1 s2
  · obtain ⟨a, d', b⟩ := R.pin z hz
    refine ⟨a, d', ?_⟩
    rw [getE_set_ne fun h => ?_]
    · exact b
    · rw [← h, q] at b; cases b
theorem Post.anti (h : Post K F σ H e F' σ H' e') : Post K F σ H e F σ H' e' := ⟨h.rel.anti h.le.up h.le.pn.symm, h.stp, h.ow, .refl⟩
/-- a value that was reckoned, made shared -/
theorem Post.esc {v : V} {d : D} {r : RV} (R : Rel K F σ H e) (p : Post K F σ H e F' σ H' e') (h : Held K F' σ H H' e' v r) (q : M.esc r e' = .ok d e1) :
    Post K F σ H e F σ H' e1 ∧ Rp K (Bd F σ e1) H' v d := by
  have p0 := p.anti
  cases r with
  | sh d' =>
    cases q
    exact ⟨p0, Rp.anti h fun a z => z.elim (fun z => .inl (p.le.up a z)) .inr⟩
  | fr d' =>
    cases q
    obtain ⟨a, rfl, n, f, o⟩ := h
    refine ⟨p0, (o.anti fun a z => z.elim (fun z => .inl (p.le.up a z)) .inr).rp fun z => ?_⟩
    rcases z with z | z
    · exact (R.ext a z).2 n
    · exact (p.rel.ext a f).1 z
  | sl i =>
    unfold M.esc at q
    cases w : getE e' i with
    | none => simp only [w] at q; cases q
    | some x =>
      obtain ⟨f, d'⟩ := x
      cases f with
      | sh =>
        simp only [w] at q; cases q
        obtain ⟨v', a, b⟩ := p0.rel.val i _ w
        have a := h.symm.trans a
        cases a
        exact ⟨p0, b⟩
      | ow =>
        simp only [w] at q; cases q
        obtain ⟨r1, r2, r3⟩ := p0.rel.freeze w
        exact ⟨⟨r1, p0.stp, fun a z => p0.ow a (r2 a z), .refl⟩, r3 v h⟩
      | mu => simp only [w] at q; cases q
theorem esc_of {f : M RV} {Q : V → Hp → Prop} {k : D → Fx → En → Hp → Prop} (R : Rel K F σ H e) (hk : ∀ d F' e' H' v, k d F' e' H' → Rp K (Bd F' σ e') H' v d → Q v H') (h : Aft W K F σ H e k (M.bind f M.esc e)) :
    Aft W K F σ H e (fun r F' e' H' => ∀ v, Held K F' σ H H' e' v r → Q v H') (f e) := by
  unfold M.bind at h
  cases q : f e with
  | bad => rw [q] at h; exact h
  | exc x e1 => rw [q] at h; exact h
  | ok r e1 =>
    rw [q] at h
    have h : Aft W K F σ H e k (M.esc r e1) := h
    intro F1 H1 p v hv
    cases w : M.esc r e1 with
    | bad => rw [w] at h; exact h.elim
    | exc x e2 =>
      exfalso
      cases r with
      | sh d => cases w
      | fr d => cases w
      | sl i =>
        unfold M.esc at w
        cases z : getE e1 i with
        | none => simp only [z] at w; cases w
        | some y => obtain ⟨fl, d⟩ := y; cases fl <;> simp only [z] at w <;> cases w
    | ok d e2 =>
      rw [w] at h
      obtain ⟨p2, rp⟩ := p.esc R hv w
      exact hk _ _ _ _ _ (h F H1 p2) rp
end

/-! ### the readings -/
def tE (W : Wx) (K : Fg) (f : M RV) : TE := fun σ H Q => ∃ F e, Rel K F σ H e ∧ Aft W K F σ H e (fun r F' e' H' => ∀ v, Held K F' σ H H' e' v r → Q v H') (f e)
def tT (W : Wx) (K : Fg) (f : M Bool) : TT := fun σ H Q => ∃ F e, Rel K F σ H e ∧ Aft W K F σ H e (fun b F' e' H' => Q b H') (f e)
def HeldL (K : Fg) (F : Fx) (σ : St) (H0 H : Hp) (e : En) : List V → List RV → Prop
  | [], [] => True
  | v :: vs, r :: rs => Held K F σ H0 H e v r ∧ HeldL K F σ H0 H e vs rs
  | _, _ => False
def tA (W : Wx) (K : Fg) (f : M (List RV)) : TA := fun σ H Q => ∃ F e, Rel K F σ H e ∧ Aft W K F σ H e (fun rs F' e' H' => ∀ vs, HeldL K F' σ H H' e' vs rs → Q vs H') (f e)
/-- a list of shared things -/
def tAD (W : Wx) (K : Fg) (f : M (List D)) : TA := fun σ H Q => ∃ F e, Rel K F σ H e ∧ Aft W K F σ H e (fun ds F' e' H' => ∀ vs, RpL K (Bd F' σ e') H' vs ds → Q vs H') (f e)
abbrev PD (X : Cx) (W : Wx) (e : Expr) (f : M RV) : Prop := PE X e (tE W X.K f)
abbrev PDT (X : Cx) (W : Wx) (e : Expr) (f : M Bool) : Prop := PT X e (tT W X.K f)
abbrev PDW (X : Cx) (W : Wx) (e : Expr) (f : M Bool) : Prop := PW X e (tT W X.K f)
abbrev PDA (X : Cx) (W : Wx) (e : List Expr) (f : M (List RV)) : Prop := PA X e (tA W X.K f)
abbrev PDL (X : Cx) (W : Wx) (e : List Expr) (f : M (List D)) : Prop := PA X e (tAD W X.K f)
theorem pe_imp {X : Cx} {e : Expr} {t u : TE} (h : PE X e t) (k : ∀ σ H Q, u σ H Q → t σ H Q) : PE X e u := ⟨fun pins s σ H Q I q => h.run pins s σ H Q I (k σ H Q q)⟩
theorem pt_imp {X : Cx} {e : Expr} {t u : TT} (h : PT X e t) (k : ∀ σ H Q, u σ H Q → t σ H Q) : PT X e u := ⟨fun pins s σ H Q I q => h.run pins s σ H Q I (k σ H Q q)⟩
theorem pw_imp {X : Cx} {e : Expr} {t u : TT} (h : PW X e t) (k : ∀ σ H Q, u σ H Q → t σ H Q) : PW X e u := ⟨fun whole pins s σ H Q I q => h.run whole pins s σ H Q I (k σ H Q q)⟩
theorem pa_imp {X : Cx} {e : List Expr} {t u : TA} (h : PA X e t) (k : ∀ σ H Q, u σ H Q → t σ H Q) : PA X e u := ⟨fun pos pins s σ H Q I q => h.run pos pins s σ H Q I (k σ H Q q)⟩
theorem ps_imp {X : Cx} {e : Stmt} {t u : TS} (h : PS X e t) (k : ∀ D σ H, u D σ H → t D σ H) : PS X e u := ⟨fun pins s σ H D I q => h.run pins s σ H D I (k D σ H q)⟩
theorem pss_imp {X : Cx} {e : List Stmt} {t u : TS} (h : PSs X e t) (k : ∀ D σ H, u D σ H → t D σ H) : PSs X e u := ⟨fun pins s σ H D I q => h.run pins s σ H D I (k D σ H q)⟩

/-! ### the results of operations -/
def Bp (B : Ad) (p : Addr) : Ad := fun a => B a ∨ a = p
/-- what a rule of values gives: (false, d) shared data, (true, d) a new object -/
def Res (K : Fg) (B : Ad) (H : Hp) (Q : VK) : Option (Bool × D) → Prop
  | none => False
  | some (false, d) => ∀ v H', Same H H' → Rp K B H' v d → Q v H'
  | some (true, d) => ∀ p H', Same H H' → H p = none → OwnAt K (Bp B p) H' p d → Q (.ref p) H'
def toRV : Bool × D → RV
  | (false, d) => .sh d
  | (true, d) => .fr d
def M.res (o : Option (Bool × D)) : M RV := fun e => match o with
  | some x => .ok (toRV x) e
  | none => .bad
section
variable {W : Wx} {K : Fg} {F F1 F' : Fx} {σ : St} {H H0 H1 : Hp} {e e1 : En} {Q : VK}
/-- from the mirror's result to the rule's -/
theorem Res.of {o : Option (Bool × D)} (R : Rel K F σ H e) (k0 : ∀ a, H a = none → H0 a = none) (h : Aft W K F σ H e (fun r F' e' H' => ∀ v, Held K F' σ H0 H' e' v r → Q v H') (M.res o e)) : Res K (Bd F σ e) H Q o := by
  cases o with
  | none => exact h
  | some x =>
    obtain ⟨b, d⟩ := x
    have h : ∀ F' H', Post K F σ H e F' σ H' e → ∀ v, Held K F' σ H0 H' e v (toRV (b, d)) → Q v H' := h
    cases b with
    | false => exact fun v H' s rp => h F H' ⟨R.same s, .same s, fun _ z => .inl z, .refl⟩ v rp
    | true =>
      refine fun p H' s np o => h (F.plus p) H' ⟨R.plus s np o.some, .same s, fun _ z => .inl z, ⟨rfl, fun a z => .inl z, fun a z => z.elim .inl fun z => .inr (z ▸ np)⟩⟩ _ ⟨p, rfl, k0 p np, .inr rfl, ?_⟩
      exact o.anti fun a z => by
        rcases z with (z | z) | z
        · exact .inl (.inl z)
        · exact .inr z
        · exact .inl (.inr z)
end

/-- two values, then an operation on data -/
def eOp2 (dop : D → D → Option (Bool × D)) (f g : M RV) : M RV := M.bind f fun a => M.bind g fun b => M.bind (M.get a) fun x => M.bind (M.get b) fun y => M.res (dop x y)
def eOp1 (dop : D → Option (Bool × D)) (f : M RV) : M RV := M.bind f fun a => M.bind (M.get a) fun x => M.res (dop x)
/-- a rule of values that does dop -/
def Trk (B : Ad) (H : Hp) : Prop := ∀ a, B a → H a ≠ none
theorem Rel.trk {K : Fg} {F : Fx} {σ : St} {H : Hp} {e : En} (R : Rel K F σ H e) : Trk (Bd F σ e) H := fun a z => by
  rcases z with z | ⟨i, f, d, q, n, s⟩
  · exact (R.ext a z).2
  · obtain ⟨p, s', o⟩ := R.own i f d q n
    rw [s] at s'; cases s'; exact o.some
def rD2 (K : Fg) (dop : D → D → Option (Bool × D)) : R2 := fun x y H Q => ∃ B dx dy, Trk B H ∧ RpB K B H x dx ∧ RpB K B H y dy ∧ Res K B H Q (dop dx dy)
def rD1 (K : Fg) (dop : D → Option (Bool × D)) : V → Hp → VK → Prop := fun x H Q => ∃ B dx, Trk B H ∧ RpB K B H x dx ∧ Res K B H Q (dop dx)
section
variable {W : Wx} {K : Fg} {F : Fx} {σ : St} {H H0 : Hp} {e : En}
theorem get_of {r : RV} {v : V} {α : Type} {g : D → M α} {k : α → Fx → En → Hp → Prop} (R : Rel K F σ H e) (h : Held K F σ H0 H e v r) (q : Aft W K F σ H e k (M.bind (M.get r) g e)) :
    ∃ d, look e r = some d ∧ RpB K (Bd F σ e) H v d ∧ Aft W K F σ H e k (g d e) := by
  unfold M.bind M.get at q
  cases w : look e r with
  | none => simp only [w] at q; exact q.elim
  | some d =>
    simp only [w] at q
    exact ⟨d, rfl, h.look R w, q⟩
theorem op2_of {dop : D → D → Option (Bool × D)} {f g : M RV} {Q : VK} (h : tE W K (eOp2 dop f g) σ H Q) : tOp (rD2 K dop) (tE W K f) (tE W K g) σ H Q := by
  obtain ⟨F, e, R, h⟩ := h
  refine ⟨F, e, R, h.bind.imp fun a F1 e1 H1 p1 h1 v hv => ⟨F1, e1, p1.rel, h1.bind.imp fun b F2 e2 H2 p2 h2 w hw => ?_⟩⟩
  have hv2 := hv.post p1.rel p2
  obtain ⟨dx, lx, rx, h3⟩ := get_of p2.rel hv2 h2
  obtain ⟨dy, ly, ry, h4⟩ := get_of p2.rel hw h3
  exact ⟨_, dx, dy, p2.rel.trk, rx, ry, Res.of p2.rel (fun a z => p1.stp.back a (p2.stp.back a z)) h4⟩
theorem op1_of {dop : D → Option (Bool × D)} {f : M RV} {Q : VK} (h : tE W K (eOp1 dop f) σ H Q) : tUn (rD1 K dop) (tE W K f) σ H Q := by
  obtain ⟨F, e, R, h⟩ := h
  refine ⟨F, e, R, h.bind.imp fun a F1 e1 H1 p1 h1 v hv => ?_⟩
  obtain ⟨dx, lx, rx, h3⟩ := get_of p1.rel hv h1
  exact ⟨_, dx, p1.rel.trk, rx, Res.of p1.rel (fun a z => p1.stp.back a z) h3⟩
end
section
variable {X : Cx} {W : Wx} {a b c : Expr} {f g h : M RV} {pos : Pos}
theorem pd_op {op : Operator} {dop : D → D → Option (Bool × D)} (ho : OpR X (binaryOp op) (rD2 X.K dop)) (ha : PD X W a f) (hb : PD X W b g) : PD X W (.BinOp a op b pos) (eOp2 dop f g) := pe_imp (pe_op ho ha hb) fun _ _ _ => op2_of
theorem pd_cmp {op : CmpOp} {dop : D → D → Option (Bool × D)} (ho : OpR X (compareOp op) (rD2 X.K dop)) (ha : PD X W a f) (hb : PD X W b g) (hm : behindInMarks op b = false) : PD X W (.Compare a [op] [b] pos) (eOp2 dop f g) := pe_imp (pe_cmpR ho ha hb hm) fun _ _ _ => op2_of
theorem pd_ix {dop : D → D → Option (Bool × D)} (ho : IxR X (rD2 X.K dop)) (ha : PD X W a f) (hb : PD X W b g) (hs : PlainIx b) : PD X W (.Subscript a b pos) (eOp2 dop f g) := pe_imp (pe_ix ho ha hb hs) fun _ _ _ => op2_of
theorem pd_un {op : UnaryOp} {dop : D → Option (Bool × D)} (ho : UnR X (unaryOp op) (rD1 X.K dop)) (ha : PD X W a f) : PD X W (.UnaryOp op a pos) (eOp1 dop f) := pe_imp (pe_un ho ha) fun _ _ _ => op1_of
/-- a value as a test -/
def eBool (f : M RV) : M Bool := M.bind f fun a => M.bind (M.get a) fun d => match d with
  | .bl b => M.ret b
  | _ => M.bad
theorem RpB.bl {K : Fg} {B : Ad} {H : Hp} {v : V} {b : Bool} (h : RpB K B H v (.bl b)) : v = .bl b := by
  rcases h with h | ⟨p, _, h⟩
  · cases h; rfl
  · exact h.elim
theorem RpB.int {K : Fg} {B : Ad} {H : Hp} {v : V} {b : Int} (h : RpB K B H v (.int b)) : v = .int b := by
  rcases h with h | ⟨p, _, h⟩
  · cases h; rfl
  · exact h.elim
theorem RpB.str {K : Fg} {B : Ad} {H : Hp} {v : V} {b : Str} (h : RpB K B H v (.str b)) : v = .str b := by
  rcases h with h | ⟨p, _, h⟩
  · cases h; rfl
  · exact h.elim
theorem RpB.non {K : Fg} {B : Ad} {H : Hp} {v : V} (h : RpB K B H v .non) : v = .non := by
  rcases h with h | ⟨p, _, h⟩
  · cases h; rfl
  · exact h.elim
theorem test_of {W : Wx} {K : Fg} {σ : St} {H : Hp} {f : M RV} {Q : Bool → Hp → Prop} (h : tT W K (eBool f) σ H Q) : tE W K f σ H fun x H' => ∃ k, x = .bl k ∧ Q k H' := by
  obtain ⟨F, e, R, h⟩ := h
  refine ⟨F, e, R, h.bind.imp fun a F1 e1 H1 p1 h1 v hv => ?_⟩
  obtain ⟨d, ld, rd, h2⟩ := get_of p1.rel hv h1
  cases d with
  | bl b => exact ⟨b, rd.bl, h2 F1 H1 (.refl p1.rel)⟩
  | _ => exact h2.elim
theorem pdt_cmp {op : CmpOp} {dop : D → D → Option (Bool × D)} (ho : OpR X (compareOp op) (rD2 X.K dop)) (ha : PD X W a f) (hb : PD X W b g) (hm : behindInMarks op b = false) : PDT X W (.Compare a [op] [b] pos) (eBool (eOp2 dop f g)) :=
  pt_imp (pt_cmpR ho ha hb hm) fun _ _ _ h => op2_of (test_of h)
theorem pdt_val (ha : PD X W a f) (he : ∀ whole, isTrue a X.env whole = (do let v ← whole; standAt a.pos; holding [v] (truthy v)) := by intro _; rfl) : PDT X W a (eBool f) :=
  pt_imp (pt_val ha he) fun _ _ _ h => test_of h
/-! and, or, not -/
def eAnd (f g : M Bool) : M Bool := M.bind f fun b => if b = true then g else M.ret false
def eOr (f g : M Bool) : M Bool := M.bind f fun b => if b = true then M.ret true else g
def eNot (f : M Bool) : M Bool := M.bind f fun b => M.ret (!b)
variable {tf tg : M Bool} {rest : List Expr}
theorem pdw_and1 (ha : PDT X W a tf) : PDW X W (.BoolOp .And [a] pos) tf := pw_and1 ha
theorem pdw_or1 (ha : PDT X W a tf) : PDW X W (.BoolOp .Or [a] pos) tf := pw_or1 ha
theorem pdw_and (ha : PDT X W a tf) (hb : PDW X W (.BoolOp .And (b :: rest) pos) tg) : PDW X W (.BoolOp .And (a :: b :: rest) pos) (eAnd tf tg) :=
  pw_imp (pw_and ha hb) fun σ H Q ⟨F, e, R, h⟩ => ⟨F, e, R, h.bind.imp fun c F1 e1 H1 p1 h1 => by
    cases c with
    | true => exact ⟨F1, e1, p1.rel, h1⟩
    | false => exact h1 F1 H1 (.refl p1.rel)⟩
theorem pdw_or (ha : PDT X W a tf) (hb : PDW X W (.BoolOp .Or (b :: rest) pos) tg) : PDW X W (.BoolOp .Or (a :: b :: rest) pos) (eOr tf tg) :=
  pw_imp (pw_or ha hb) fun σ H Q ⟨F, e, R, h⟩ => ⟨F, e, R, h.bind.imp fun c F1 e1 H1 p1 h1 => by
    cases c with
    | true => exact h1 F1 H1 (.refl p1.rel)
    | false => exact ⟨F1, e1, p1.rel, h1⟩⟩
theorem pdt_w (ha : PDW X W a tf) : PDT X W a tf := ha.pt
theorem pdt_not (ha : PDT X W a tf) : PDT X W (.UnaryOp .Not a pos) (eNot tf) :=
  pt_imp (pt_not ha) fun σ H Q ⟨F, e, R, h⟩ => ⟨F, e, R, h.bind.imp fun c F1 e1 H1 p1 h1 => h1 F1 H1 (.refl p1.rel)⟩
end
end Cw

/-! Cw, part C: names, constants, argument lists, displays, calls of built-ins. -/
namespace Cw
open PySem L2

def eVar (i : Nat) : M RV := fun e => match getE e i with
  | some _ => .ok (.sl i) e
  | none => .bad
def eC (d : D) : M RV := M.ret (.sh d)
section
variable {X : Cx} {W : Wx} {a b c : Expr} {f g h : M RV} {pos : Pos}
theorem c_of {W : Wx} {K : Fg} {σ : St} {H : Hp} {Q : VK} {d : D} {v : V} (hr : ∀ B H, Rp K B H v d) (h : tE W K (eC d) σ H Q) : tC v σ H Q := by
  obtain ⟨F, e, R, h⟩ := h
  exact Aft.ret R h v (hr _ _)
theorem pd_var {i : Nat} {x : Str} (hN : X.N[i]? = some x) (hv : Vis X.env.scope x) (hd : (x == ("__debug__" : Str)) = false := by decide) (hcd : (x == ("__classdict__" : Str)) = false := by decide) : PD X W (.Name x pos) (eVar i) :=
  pe_imp (pe_var hN hv hd hcd) fun σ H Q ⟨F, e, R, h⟩ => by
    unfold eVar at h
    cases w : getE e i with
    | none => simp only [w] at h; exact h.elim
    | some y =>
      simp only [w] at h
      have hv : ∃ v, getS σ i = some v := by
        obtain ⟨fl, d⟩ := y
        by_cases hf : fl = .sh
        · subst hf
          obtain ⟨v, a, _⟩ := R.val i d w
          exact ⟨v, a⟩
        · obtain ⟨p, a, _⟩ := R.own i fl d w hf
          exact ⟨_, a⟩
      obtain ⟨v, hv⟩ := hv
      exact ⟨v, getS_to hv, h F H (.refl R) v hv⟩
theorem pd_int {i : Int} {j} : PD X W (.Constant (.int i) j pos) (eC (.int i)) := pe_imp pe_int fun _ _ _ => c_of fun _ _ => .int i
theorem pd_bl {i : Bool} {j} : PD X W (.Constant (.bool i) j pos) (eC (.bl i)) := pe_imp pe_bl fun _ _ _ => c_of fun _ _ => .bl i
theorem pd_non {j} : PD X W (.Constant .none j pos) (eC .non) := pe_imp pe_non fun _ _ _ => c_of fun _ _ => .non
theorem pd_str {x j} : PD X W (.Constant (.str x) j pos) (eC (.str x)) := pe_imp pe_str fun _ _ _ => c_of fun _ _ => .str x
/-- a module's name that holds an int; one that holds anything, as it is -/
theorem pd_globI {x : Str} {i : Int} {u : Value} (hg : Gl X x) (hm : X.mg x = some u) (r : RelV (.int i) u) (hd : (x == ("__debug__" : Str)) = false := by decide) : PD X W (.Name x pos) (eC (.int i)) := pe_imp (pe_glob hg hm r hd) fun _ _ _ => c_of fun _ _ => .int i
theorem pd_globR {x : Str} {v : V} {u : Value} (hg : Gl X x) (hm : X.mg x = some u) (r : RelV v u) (hd : (x == ("__debug__" : Str)) = false := by decide) : PD X W (.Name x pos) (eC (.raw v)) := pe_imp (pe_glob hg hm r hd) fun _ _ _ => c_of fun _ _ => .raw v
theorem pd_bltn {x : Str} {v : V} {u : Value} (hg : Gl X x) (hm : X.mg x = none) (hv : bootBuiltins x = some u) (r : RelV v u) (hn : x ≠ "__name__" := by decide) (hd : (x == ("__debug__" : Str)) = false := by decide) : PD X W (.Name x pos) (eC (.raw v)) :=
  pe_imp (pe_bltn hg hm hv r hn hd) fun _ _ _ => c_of fun _ _ => .raw v
/-! and, or, not as values; a if c else b; a chain of two comparisons -/
def eAndV (f g : M RV) : M RV := M.bind f fun a => M.bind (M.get a) fun d => match d with
  | .bl true => g
  | .bl false => M.ret (.sh (.bl false))
  | _ => M.bad
def eOrV (f g : M RV) : M RV := M.bind f fun a => M.bind (M.get a) fun d => match d with
  | .bl false => g
  | .bl true => M.ret (.sh (.bl true))
  | _ => M.bad
def eNotV (f : M RV) : M RV := M.bind f fun a => M.bind (M.get a) fun d => match d with
  | .bl b => M.ret (.sh (.bl (!b)))
  | _ => M.bad
def eIf (c : M Bool) (f g : M RV) : M RV := M.bind c fun b => if b = true then f else g
theorem back_of {K : Fg} {F F1 : Fx} {σ : St} {H H1 : Hp} {e e1 : En} {α : Type} {k : RV → Fx → En → Hp → Prop} {Q : VK} (p : Post K F σ H e F1 σ H1 e1) {r : R RV}
    (h : Aft W K F1 σ H1 e1 (fun r F' e' H' => ∀ v, Held K F' σ H H' e' v r → Q v H') r) : Aft W K F1 σ H1 e1 (fun r F' e' H' => ∀ v, Held K F' σ H1 H' e' v r → Q v H') r :=
  h.imp fun a F' e' H' p' h v hv => h v (hv.back p.stp.back)
theorem pd_one {op} (ha : PD X W a f) : PD X W (.BoolOp op [a] pos) f := pe_one ha
theorem pd_and {rest : List Expr} (ha : PD X W a f) (hb : PD X W (.BoolOp .And (b :: rest) pos) g) : PD X W (.BoolOp .And (a :: b :: rest) pos) (eAndV f g) :=
  pe_imp (pe_and ha hb) fun σ H Q ⟨F, e, R, h⟩ => ⟨F, e, R, h.bind.imp fun a F1 e1 H1 p1 h1 v hv => by
    obtain ⟨d, ld, rd, h2⟩ := get_of p1.rel hv h1
    cases d with
    | bl b =>
      refine ⟨b, rd.bl, ?_⟩
      cases b with
      | true => exact ⟨F1, e1, p1.rel, h2.imp fun a F' e' H' p' h v hv => h v (hv.back p1.stp.back)⟩
      | false => exact Aft.ret p1.rel h2 _ (.bl _)
    | _ => exact h2.elim⟩
theorem pd_or {rest : List Expr} (ha : PD X W a f) (hb : PD X W (.BoolOp .Or (b :: rest) pos) g) : PD X W (.BoolOp .Or (a :: b :: rest) pos) (eOrV f g) :=
  pe_imp (pe_or ha hb) fun σ H Q ⟨F, e, R, h⟩ => ⟨F, e, R, h.bind.imp fun a F1 e1 H1 p1 h1 v hv => by
    obtain ⟨d, ld, rd, h2⟩ := get_of p1.rel hv h1
    cases d with
    | bl b =>
      refine ⟨b, rd.bl, ?_⟩
      cases b with
      | false => exact ⟨F1, e1, p1.rel, h2.imp fun a F' e' H' p' h v hv => h v (hv.back p1.stp.back)⟩
      | true => exact Aft.ret p1.rel h2 _ (.bl _)
    | _ => exact h2.elim⟩
theorem pd_not (ha : PD X W a f) : PD X W (.UnaryOp .Not a pos) (eNotV f) :=
  pe_imp (pe_not ha) fun σ H Q ⟨F, e, R, h⟩ => ⟨F, e, R, h.bind.imp fun a F1 e1 H1 p1 h1 v hv => by
    obtain ⟨d, ld, rd, h2⟩ := get_of p1.rel hv h1
    cases d with
    | bl b => exact ⟨b, rd.bl, Aft.ret p1.rel h2 _ (.bl _)⟩
    | _ => exact h2.elim⟩
theorem pd_if {tc : M Bool} (hc : PDT X W c tc) (ha : PD X W a f) (hb : PD X W b g) : PD X W (.IfExp c a b pos) (eIf tc f g) :=
  pe_imp (pe_ifExp hc ha hb) fun σ H Q ⟨F, e, R, h⟩ => ⟨F, e, R, h.bind.imp fun c F1 e1 H1 p1 h1 => by
    cases c with
    | true => exact ⟨F1, e1, p1.rel, h1.imp fun a F' e' H' p' h v hv => h v (hv.back p1.stp.back)⟩
    | false => exact ⟨F1, e1, p1.rel, h1.imp fun a F' e' H' p' h v hv => h v (hv.back p1.stp.back)⟩⟩
/-- a < b < c, the first two reckoned first -/
def eChain (d1 d2 : D → D → Option (Bool × D)) (f g h : M RV) : M RV :=
  M.bind f fun a => M.bind g fun b => M.bind (M.get a) fun x => M.bind (M.get b) fun y => match d1 x y with
    | some (false, .bl true) => M.bind h fun c => M.bind (M.get b) fun y => M.bind (M.get c) fun z => M.res (d2 y z)
    | some (false, .bl false) => M.ret (.sh (.bl false))
    | _ => M.bad
theorem Post.same {K : Fg} {F : Fx} {σ : St} {H H' : Hp} {e : En} (R : Rel K F σ H e) (s : Same H H') : Post K F σ H e F σ H' e := ⟨R.same s, .same s, fun _ z => .inl z, .refl⟩
theorem Aft.post {α : Type} {K : Fg} {F F1 : Fx} {σ : St} {H H1 : Hp} {e e1 : En} {k : α → Fx → En → Hp → Prop} {r : R α} (p : Post K F σ H e F1 σ H1 e1) (h : Aft W K F σ H e k r) : Aft W K F1 σ H1 e1 k r := by
  cases r with
  | ok a e' => exact fun F' H' p' => h F' H' (p.trans p')
  | exc x e' => exact fun cls d F' H' p' => h cls d F' H' (p.trans p')
  | bad => exact h
theorem chain_of {K : Fg} {σ : St} {H : Hp} {Q : VK} {d1 d2 : D → D → Option (Bool × D)} (h' : tE W K (eChain d1 d2 f g h) σ H Q) : tChain (rD2 K d1) (rD2 K d2) (tE W K f) (tE W K g) (tE W K h) σ H Q := by
  obtain ⟨F, e, R, h0⟩ := h'
  refine ⟨F, e, R, h0.bind.imp fun a F1 e1 H1 p1 h1 v hv => ⟨F1, e1, p1.rel, h1.bind.imp fun b F2 e2 H2 p2 h2 w hw => ?_⟩⟩
  have hv2 := hv.post p1.rel p2
  obtain ⟨dx, lx, rx, h3⟩ := get_of p2.rel hv2 h2
  obtain ⟨dy, ly, ry, h4⟩ := get_of p2.rel hw h3
  refine ⟨_, dx, dy, p2.rel.trk, rx, ry, ?_⟩
  cases w1 : d1 dx dy with
  | none => simp only [w1] at h4; exact h4.elim
  | some y =>
    obtain ⟨fl, d⟩ := y
    cases fl with
    | true => simp only [w1] at h4; exact h4.elim
    | false =>
      cases d with
      | bl b =>
        intro v3 H3 s3 r3
        cases r3
        have p3 := Post.same p2.rel s3
        refine ⟨b, rfl, ?_⟩
        cases b with
        | false =>
          simp only [w1] at h4
          have h5 := Aft.post p3 h4
          exact Aft.ret p3.rel h5 _ (.bl _)
        | true =>
          simp only [w1] at h4
          have h5 := Aft.post p3 h4
          refine ⟨F2, e2, p3.rel, h5.bind.imp fun c F4 e4 H4 p4 h6 w4 hw4 => ?_⟩
          have hw5 := (hw.post p2.rel p3).post p3.rel p4
          obtain ⟨dy, ly, ry, h7⟩ := get_of p4.rel hw5 h6
          obtain ⟨dz, lz, rz, h8⟩ := get_of p4.rel hw4 h7
          exact ⟨_, dy, dz, p4.rel.trk, ry, rz, Res.of p4.rel (fun a z => p1.stp.back a (p2.stp.back a (p3.stp.back a (p4.stp.back a z)))) h8⟩
      | _ => simp only [w1] at h4; exact h4.elim
theorem pd_chain {op op' : CmpOp} {d1 d2 : D → D → Option (Bool × D)} (ho : OpR X (compareOp op) (rD2 X.K d1)) (ho' : OpR X (compareOp op') (rD2 X.K d2)) (ha : PD X W a f) (hb : PD X W b g) (hc : PD X W c h)
    (hm : lastMarks [op, op'] [b, c] = false := by with_unfolding_all rfl) : PD X W (.Compare a [op, op'] [b, c] pos) (eChain d1 d2 f g h) := pe_imp (pe_chain ho ho' ha hb hc hm) fun _ _ _ => chain_of
theorem pdt_chain {op op' : CmpOp} {d1 d2 : D → D → Option (Bool × D)} (ho : OpR X (compareOp op) (rD2 X.K d1)) (ho' : OpR X (compareOp op') (rD2 X.K d2)) (ha : PD X W a f) (hb : PD X W b g) (hc : PD X W c h)
    (hm : lastMarks [op, op'] [b, c] = false := by with_unfolding_all rfl) : PDT X W (.Compare a [op, op'] [b, c] pos) (eBool (eChain d1 d2 f g h)) := pt_imp (pt_chain ho ho' ha hb hc hm) fun _ _ _ h => chain_of (test_of h)
end

/-! ### argument lists -/
/-- a new object is let go, a slot is not -/
def M.arg : RV → M RV
  | .fr d => M.ret (.sh d)
  | r => M.ret r
def aNil {α : Type} : M (List α) := M.ret []
def aCons (f : M RV) (fs : M (List RV)) : M (List RV) := M.bind (M.bind f M.arg) fun r => M.bind fs fun rs => M.ret (r :: rs)
def lCons (f : M RV) (fs : M (List D)) : M (List D) := M.bind (M.bind f M.esc) fun r => M.bind fs fun rs => M.ret (r :: rs)
section
variable {X : Cx} {W : Wx} {a : Expr} {f : M RV} {es : List Expr} {fs : M (List RV)} {ls : M (List D)}
theorem HeldL.post {K : Fg} {F1 F2 : Fx} {σ : St} {H0 H1 H2 : Hp} {e1 e2 : En} (R : Rel K F1 σ H1 e1) (b : Post K F1 σ H1 e1 F2 σ H2 e2) : ∀ {vs : List V} {rs : List RV}, HeldL K F1 σ H0 H1 e1 vs rs → HeldL K F2 σ H0 H2 e2 vs rs
  | [], [], _ => trivial
  | _ :: _, _ :: _, h => ⟨h.1.post R b, HeldL.post R b h.2⟩
  | [], _ :: _, h => h.elim
  | _ :: _, [], h => h.elim
theorem HeldL.back {K : Fg} {F1 : Fx} {σ : St} {H0 H1 H2 : Hp} {e1 : En} (k : ∀ a, H1 a = none → H0 a = none) : ∀ {vs : List V} {rs : List RV}, HeldL K F1 σ H1 H2 e1 vs rs → HeldL K F1 σ H0 H2 e1 vs rs
  | [], [], _ => trivial
  | _ :: _, _ :: _, h => ⟨h.1.back k, HeldL.back k h.2⟩
  | [], _ :: _, h => h.elim
  | _ :: _, [], h => h.elim
theorem pda_nil : PDA X W [] aNil := pa_imp pa_nil fun σ H Q ⟨F, e, R, h⟩ => Aft.ret R h [] trivial
theorem pdl_nil : PDL X W [] aNil := pa_imp pa_nil fun σ H Q ⟨F, e, R, h⟩ => Aft.ret R h [] .nil
theorem arg_of {K : Fg} {F : Fx} {σ : St} {H : Hp} {e : En} {f : M RV} {Q : V → Hp → Prop} {k : RV → Fx → En → Hp → Prop} (R : Rel K F σ H e) (hk : ∀ r F' e' H' v, k r F' e' H' → Held K F' σ H H' e' v r → Q v H') (h : Aft W K F σ H e k (M.bind f M.arg e)) :
    Aft W K F σ H e (fun r F' e' H' => ∀ v, Held K F' σ H H' e' v r → Q v H') (f e) := by
  unfold M.bind at h
  cases q : f e with
  | bad => rw [q] at h; exact h
  | exc x e1 => rw [q] at h; exact h
  | ok r e1 =>
    rw [q] at h
    have h : Aft W K F σ H e k (M.arg r e1) := h
    intro F1 H1 p v hv
    cases r with
    | sh d => exact hk _ _ _ _ _ (h F1 H1 p) hv
    | sl i => exact hk _ _ _ _ _ (h F1 H1 p) hv
    | fr d =>
      obtain ⟨p2, rp⟩ := p.esc R hv (d := d) (e1 := e1) rfl
      exact hk _ _ _ _ _ (h F H1 p2) rp
theorem pda_cons (ha : PD X W a f) (hr : PDA X W es fs) (hs : starEach (a :: es) X.env = (false, eval a X.env) :: starEach es X.env := by rfl) : PDA X W (a :: es) (aCons f fs) :=
  pa_imp (pa_cons ha hr hs) fun σ H Q ⟨F, e, R, h⟩ => ⟨F, e, R, arg_of R (k := fun r F1 e1 H1 => Rel X.K F1 σ H1 e1 ∧ (∀ a, H1 a = none → H a = none) ∧ Aft W X.K F1 σ H1 e1 (fun rs F' e' H' => ∀ vs, HeldL X.K F' σ H H' e' vs rs → Q vs H') ((M.bind fs fun rs => M.ret (r :: rs)) e1))
    (fun r F1 e1 H1 v ⟨R1, bk, h1⟩ hv => ⟨F1, e1, R1, h1.bind.imp fun rs F2 e2 H2 p2 h2 vs hvs => Aft.ret p2.rel h2 (v :: vs) ⟨hv.post R1 p2, hvs.back bk⟩⟩)
    (h.bind.imp fun r F1 e1 H1 p1 h1 => ⟨p1.rel, p1.stp.back, h1⟩)⟩
theorem pdl_cons (ha : PD X W a f) (hr : PDL X W es ls) (hs : starEach (a :: es) X.env = (false, eval a X.env) :: starEach es X.env := by rfl) : PDL X W (a :: es) (lCons f ls) :=
  pa_imp (pa_cons ha hr hs) fun σ H Q ⟨F, e, R, h⟩ => ⟨F, e, R, esc_of R (k := fun r F1 e1 H1 => Rel X.K F1 σ H1 e1 ∧ Aft W X.K F1 σ H1 e1 (fun rs F' e' H' => ∀ vs, RpL X.K (Bd F' σ e') H' vs rs → Q vs H') ((M.bind ls fun rs => M.ret (r :: rs)) e1))
    (fun r F1 e1 H1 v ⟨R1, h1⟩ hv => ⟨F1, e1, R1, h1.bind.imp fun rs F2 e2 H2 p2 h2 vs hvs => Aft.ret p2.rel h2 (v :: vs) (.cons (hv.post p2) hvs)⟩)
    (h.bind.imp fun r F1 e1 H1 p1 h1 => ⟨p1.rel, h1⟩)⟩
end

/-! ### displays -/
def eTup (fs : M (List D)) : M RV := M.bind fs fun ds => if ds.length ≤ sizeLine then M.ret (.sh (.tup ds)) else M.bad
def eLst (fs : M (List D)) : M RV := M.bind fs fun ds => if ds.length ≤ sizeLine then M.ret (.fr (.lst ds)) else M.bad
theorem RpL.length {K : Fg} {B : Ad} {H : Hp} : ∀ {vs : List V} {ds : List D}, RpL K B H vs ds → vs.length = ds.length
  | _, _, .nil => rfl
  | _, _, .cons _ r => congrArg (· + 1) r.length
theorem same_upd {H : Hp} {p : Addr} {o : HO} (h : H p = none) : Same H (upd H p o) := fun b u q => by rw [upd_ne (ne_of_none q h)]; exact q
section
variable {X : Cx} {W : Wx} {es : List Expr} {ls : M (List D)} {pos : Pos}
theorem pd_tup {x1} (hl : PDL X W es ls) : PD X W (.Tuple es x1 pos) (eTup ls) :=
  pe_imp (pe_tup hl) fun σ H Q ⟨F, e, R, h⟩ => ⟨F, e, R, h.bind.imp fun ds F1 e1 H1 p1 h1 vs hv => by
    by_cases hz : ds.length ≤ sizeLine
    · rw [if_pos hz] at h1
      refine ⟨by rw [hv.length]; exact hz, fun p np => ?_⟩
      have s := same_upd (o := .tup vs) np
      refine h1 F1 _ (Post.same p1.rel s) _ (.tup (.inl ⟨fun z => ?_, .inl upd_same⟩) (hv.post (Post.same p1.rel s)))
      rcases z with z | ⟨i, f, d, q, n, z⟩
      · exact (p1.rel.ext p z).2 np
      · obtain ⟨p', a, b⟩ := p1.rel.own i f d q n
        rw [z] at a; cases a
        exact b.some np
    · rw [if_neg hz] at h1
      exact h1.elim⟩
theorem pd_lst (hl : PDL X W es ls) : PD X W (.List es pos) (eLst ls) :=
  pe_imp (pe_lst hl) fun σ H Q ⟨F, e, R, h⟩ => ⟨F, e, R, h.bind.imp fun ds F1 e1 H1 p1 h1 vs hv => by
    by_cases hz : ds.length ≤ sizeLine
    · rw [if_pos hz] at h1
      refine ⟨by rw [hv.length]; exact hz, fun p np => ?_⟩
      have s := same_upd (o := .lst vs) np
      have h1 : Aft W X.K F1 σ H1 e1 (fun r F' e' H' => ∀ v, Held X.K F' σ H H' e' v r → Q v H') (M.res (some (true, .lst ds)) e1) := h1
      refine Res.of p1.rel p1.stp.back h1 p _ s np ⟨vs, upd_same, hv.step (fun a o q _ => s a o q) fun a z => z.elim .inl fun z => .inr (z ▸ np)⟩
    · rw [if_neg hz] at h1
      exact h1.elim⟩
end

/-! ### built-ins by values -/
def getAll : List RV → M (List D)
  | [] => M.ret []
  | r :: rs => M.bind (M.get r) fun d => M.bind (getAll rs) fun ds => M.ret (d :: ds)
def RpBL (K : Fg) (B : Ad) (H : Hp) : List V → List D → Prop
  | [], [] => True
  | v :: vs, d :: ds => RpB K B H v d ∧ RpBL K B H vs ds
  | _, _ => False
def rDn (K : Fg) (dop : List D → Option (Bool × D)) : List V → Hp → VK → Prop := fun xs H Q => ∃ B ds, Trk B H ∧ RpBL K B H xs ds ∧ Res K B H Q (dop ds)
def eCallB (dop : List D → Option (Bool × D)) (fs : M (List RV)) : M RV := M.bind fs fun rs => M.bind (getAll rs) fun ds => M.res (dop ds)
section
variable {X : Cx} {W : Wx} {x : Str} {p pos : Pos} {e : Expr} {es : List Expr} {fs : M (List RV)} {id T : String} {dop : List D → Option (Bool × D)}
theorem getAll_of {K : Fg} {F : Fx} {σ : St} {H H0 : Hp} {e : En} {α : Type} : ∀ {rs : List RV} {vs : List V} {g : List D → M α} {k : α → Fx → En → Hp → Prop}, Rel K F σ H e → HeldL K F σ H0 H e vs rs → Aft W K F σ H e k (M.bind (getAll rs) g e) →
    ∃ ds, RpBL K (Bd F σ e) H vs ds ∧ Aft W K F σ H e k (g ds e)
  | [], [], g, k, R, h, q => ⟨[], trivial, q⟩
  | r :: rs, v :: vs, g, k, R, h, q => by
    have e1 : M.bind (getAll (r :: rs)) g e = M.bind (M.get r) (fun d => M.bind (getAll rs) fun ds => g (d :: ds)) e := by
      show M.bind (M.bind (M.get r) fun d => M.bind (getAll rs) fun ds => M.ret (d :: ds)) g e = _
      unfold M.bind
      cases M.get r e with
      | bad => rfl
      | exc x e1 => rfl
      | ok d e1 =>
        simp only
        cases getAll rs e1 <;> rfl
    rw [e1] at q
    obtain ⟨d, _, rd, q2⟩ := get_of R h.1 q
    obtain ⟨ds, rs, q3⟩ := getAll_of R h.2 q2
    exact ⟨d :: ds, ⟨rd, rs⟩, q3⟩
  | [], _ :: _, g, k, R, h, q => h.elim
  | _ :: _, [], g, k, R, h, q => h.elim
theorem callB_of {K : Fg} {σ : St} {H : Hp} {Q : VK} (h : tE W K (eCallB dop fs) σ H Q) : tCB (rDn K dop) (tA W K fs) σ H Q := by
  obtain ⟨F, e, R, h⟩ := h
  refine ⟨F, e, R, h.bind.imp fun rs F1 e1 H1 p1 h1 vs hv => ?_⟩
  obtain ⟨ds, rd, h2⟩ := getAll_of p1.rel hv h1
  exact ⟨_, ds, p1.rel.trk, rd, Res.of p1.rel p1.stp.back h2⟩
theorem pd_callB (hc : CallR X (.builtin id) (rDn X.K dop)) (hg : Gl X x) (hm : X.mg x = none) (hv : bootBuiltins x = some (.builtin id)) (ha : PDA X W (e :: es) fs) (hn : x ≠ "__name__" := by decide) (hdb : (x == ("__debug__" : Str)) = false := by decide)
    (he : starEach (e :: es) X.env = (false, eval e X.env) :: starEach es X.env := by rfl) (hpl : (backTo pos (starEach es X.env)).any (·.1) = false := by rfl) : PD X W (.Call (.Name x p) (e :: es) [] pos) (eCallB dop fs) :=
  pe_imp (pe_callB hc hg hm hv ha hn hdb he hpl) fun _ _ _ => callB_of
theorem pd_callTy (hc : CallR X (.type T) (rDn X.K dop)) (hg : Gl X x) (hm : X.mg x = none) (hv : bootBuiltins x = some (.type T)) (ha : PDA X W (e :: es) fs) (hn : x ≠ "__name__" := by decide) (hdb : (x == ("__debug__" : Str)) = false := by decide)
    (he : starEach (e :: es) X.env = (false, eval e X.env) :: starEach es X.env := by rfl) (hpl : (backTo pos (starEach es X.env)).any (·.1) = false := by rfl) : PD X W (.Call (.Name x p) (e :: es) [] pos) (eCallB dop fs) :=
  pe_imp (pe_callTy hc hg hm hv ha hn hdb he hpl) fun _ _ _ => callB_of
end
end Cw

/-! Cw, part D: statements. -/
namespace Cw
open PySem L2

inductive SR where
  | nx (e : En) | rt (r : RV) (e : En) | bk (e : En) | ct (e : En) | exc (x : Xc) (e : En) | bad
abbrev S := En → SR
def SAft (W : Wx) (K : Fg) (F : Fx) (σ : St) (H : Hp) (e : En) (Dn : Ends) : SR → Prop
  | .nx e' => ∀ F' σ' H', Post K F σ H e F' σ' H' e' → Dn.nx σ' H'
  | .bk e' => ∀ F' σ' H', Post K F σ H e F' σ' H' e' → Dn.bk σ' H'
  | .ct e' => ∀ F' σ' H', Post K F σ H e F' σ' H' e' → Dn.ct σ' H'
  | .rt r e' => ∀ F' σ' H' v, Post K F σ H e F' σ' H' e' → Held K F' σ' H H' e' v r → Dn.rt v H'
  | .exc x e' => ∀ cls d F' σ' H', Post K F σ H e F' σ' H' e' → XcOk K (Bd F' σ' e') H' cls d x → W cls d σ' H'
  | .bad => False
def tS (W : Wx) (K : Fg) (g : S) : TS := fun Dn σ H => ∃ F e, Rel K F σ H e ∧ SAft W K F σ H e Dn (g e)
abbrev PDS (X : Cx) (W : Wx) (st : Stmt) (g : S) : Prop := PS X st (tS W X.K g)
abbrev PDB (X : Cx) (W : Wx) (st : List Stmt) (g : S) : Prop := PSs X st (tS W X.K g)
/-- an expression's end within a statement -/
def M.then {α : Type} (f : M α) (g : α → S) : S := fun e => match f e with
  | .ok a e1 => g a e1
  | .exc x e1 => .exc x e1
  | .bad => .bad
def sSeq (f g : S) : S := fun e => match f e with
  | .nx e1 => g e1
  | r => r
section
variable {W : Wx} {K : Fg} {F F1 F' : Fx} {σ σ1 : St} {H H1 : Hp} {e e1 : En} {Dn Dm : Ends}
theorem SAft.post {r : SR} (p : Post K F σ H e F1 σ1 H1 e1) (h : SAft W K F σ H e Dn r) : SAft W K F1 σ1 H1 e1 Dn r := by
  cases r with
  | nx e' => exact fun F' σ' H' p' => h F' σ' H' (p.trans p')
  | bk e' => exact fun F' σ' H' p' => h F' σ' H' (p.trans p')
  | ct e' => exact fun F' σ' H' p' => h F' σ' H' (p.trans p')
  | rt r e' => exact fun F' σ' H' v p' hv => h F' σ' H' v (p.trans p') (hv.back p.stp.back)
  | exc x e' => exact fun cls d F' σ' H' p' => h cls d F' σ' H' (p.trans p')
  | bad => exact h
theorem SAft.then {α : Type} {f : M α} {g : α → S} (h : SAft W K F σ H e Dn (M.then f g e)) : Aft W K F σ H e (fun a F1 e1 H1 => SAft W K F1 σ H1 e1 Dn (g a e1)) (f e) := by
  unfold M.then at h
  cases q : f e with
  | bad => rw [q] at h; exact h
  | exc x e1 => rw [q] at h; exact fun cls d F' H' p hx => h cls d F' σ H' p hx
  | ok a e1 =>
    rw [q] at h
    exact fun F1 H1 p => SAft.post p h
theorem SAft.seq {f g : S} (h : SAft W K F σ H e Dn (sSeq f g e)) : SAft W K F σ H e { Dn with nx := tS W K g Dn } (f e) := by
  unfold sSeq at h
  cases q : f e with
  | nx e1 => rw [q] at h; exact fun F' σ' H' p => ⟨F', e1, p.rel, SAft.post p h⟩
  | bk e1 => rw [q] at h; exact h
  | ct e1 => rw [q] at h; exact h
  | rt r e1 => rw [q] at h; exact h
  | exc x e1 => rw [q] at h; exact h
  | bad => rw [q] at h; exact h
/-- a slot takes a shared value -/
theorem Rel.setSh {i : Nat} {v : V} {d : D} (R : Rel K F σ H e) (rp : Rp K (Bd F σ e) H v d) (nm : ∀ d, getE e i ≠ some (.mu, d)) :
    Rel K F (σ.set i (some v)) H (e.set i (some (.sh, d))) ∧ ∀ a, Own (σ.set i (some v)) (e.set i (some (.sh, d))) a → Own σ e a := by
  by_cases hi : i < e.length
  · have hs : i < σ.length := R.len ▸ hi
    have hg : ∀ j f d', getE (e.set i (some (.sh, d))) j = some (f, d') → f ≠ .sh → i ≠ j ∧ getE e j = some (f, d') := fun j f d' w n => by
      by_cases hj : i = j
      · subst hj
        rw [getE_set_same hi] at w
        cases w; exact absurd rfl n
      · rw [getE_set_ne hj] at w
        exact ⟨hj, w⟩
    have ow : ∀ a, Own (σ.set i (some v)) (e.set i (some (.sh, d))) a → Own σ e a := fun a ⟨j, f, d', w, n, s⟩ => by
      obtain ⟨hj, w⟩ := hg j f d' w n
      rw [getS_set_ne hj] at s
      exact ⟨j, f, d', w, n, s⟩
    have bd : ∀ a, Bd F (σ.set i (some v)) (e.set i (some (.sh, d))) a → Bd F σ e a := fun a h => h.elim .inl fun z => .inr (ow a z)
    refine ⟨⟨by rw [List.length_set, List.length_set]; exact R.len, fun j d' w => ?_, fun j f d' w n => ?_, fun j l f g d1 d2 p' w1 n1 w2 n2 s1 s2 => ?_, fun a h => ⟨fun z => (R.ext a h).1 (ow a z), (R.ext a h).2⟩, fun z hz => ?_⟩, ow⟩
    · by_cases hj : i = j
      · subst hj
        rw [getE_set_same hi] at w; cases w
        exact ⟨v, getS_set_same hs, rp.anti bd⟩
      · rw [getE_set_ne hj] at w
        obtain ⟨v, a, b⟩ := R.val j d' w
        exact ⟨v, by rw [getS_set_ne hj]; exact a, b.anti bd⟩
    · obtain ⟨hj, w⟩ := hg j f d' w n
      obtain ⟨p', a, b⟩ := R.own j f d' w n
      exact ⟨p', by rw [getS_set_ne hj]; exact a, b.anti bd⟩
    · obtain ⟨h1, w1⟩ := hg _ _ _ w1 n1
      obtain ⟨h2, w2⟩ := hg _ _ _ w2 n2
      rw [getS_set_ne h1] at s1
      rw [getS_set_ne h2] at s2
      exact R.dist j l f g d1 d2 p' w1 n1 w2 n2 s1 s2
    · obtain ⟨a, d', b⟩ := R.pin z hz
      have hz' : i ≠ z.1 := fun h => nm d' (by rw [h]; exact b)
      exact ⟨by rw [getS_set_ne hz']; exact a, d', by rw [getE_set_ne hz']; exact b⟩
  · have h1 : e.length ≤ i := Nat.le_of_not_lt hi
    rw [List.set_eq_of_length_le h1, List.set_eq_of_length_le (R.len ▸ h1)]
    exact ⟨R, fun _ h => h⟩
/-- a slot takes a new object -/
theorem Rel.setOw {i : Nat} {p : Addr} {d : D} (R : Rel K F' σ H e) (hp : F'.bx p) (up : ∀ a, F.bx a → F'.bx a) (pn : F.pn = F'.pn) (np : ¬ F.bx p) (o : OwnAt K (Bd F' σ e) H p d) (nm : ∀ d, getE e i ≠ some (.mu, d)) :
    Rel K F (σ.set i (some (.ref p))) H (e.set i (some (.ow, d))) ∧ ∀ a, Own (σ.set i (some (.ref p))) (e.set i (some (.ow, d))) a → Own σ e a ∨ a = p := by
  by_cases hi : i < e.length
  · have hs : i < σ.length := R.len ▸ hi
    have hg : ∀ j f d', getE (e.set i (some (.ow, d))) j = some (f, d') → (i = j ∧ f = .ow ∧ d' = d) ∨ (i ≠ j ∧ getE e j = some (f, d')) := fun j f d' w => by
      by_cases hj : i = j
      · subst hj
        rw [getE_set_same hi] at w
        cases w; exact .inl ⟨rfl, rfl, rfl⟩
      · rw [getE_set_ne hj] at w
        exact .inr ⟨hj, w⟩
    have ow : ∀ a, Own (σ.set i (some (.ref p))) (e.set i (some (.ow, d))) a → Own σ e a ∨ a = p := fun a ⟨j, f, d', w, n, s⟩ => by
      rcases hg j f d' w with ⟨rfl, _, _⟩ | ⟨hj, w⟩
      · rw [getS_set_same hs] at s
        cases s; exact .inr rfl
      · rw [getS_set_ne hj] at s
        exact .inl ⟨j, f, d', w, n, s⟩
    have bd : ∀ a, Bd F (σ.set i (some (.ref p))) (e.set i (some (.ow, d))) a → Bd F' σ e a := fun a h => h.elim (fun z => .inl (up a z)) fun z => (ow a z).elim .inr fun z => .inl (z ▸ hp)
    have npo : ¬ Own σ e p := (R.ext p hp).1
    refine ⟨⟨by rw [List.length_set, List.length_set]; exact R.len, fun j d' w => ?_, fun j f d' w n => ?_, fun j l f g d1 d2 p' w1 n1 w2 n2 s1 s2 => ?_, fun a h => ⟨fun z => ?_, (R.ext a (up a h)).2⟩, fun z hz => ?_⟩, ow⟩
    · rcases hg j .sh d' w with ⟨_, q, _⟩ | ⟨hj, w⟩
      · cases q
      · obtain ⟨v, a, b⟩ := R.val j d' w
        exact ⟨v, by rw [getS_set_ne hj]; exact a, b.anti bd⟩
    · rcases hg j f d' w with ⟨rfl, rfl, rfl⟩ | ⟨hj, w⟩
      · exact ⟨p, getS_set_same hs, o.anti bd⟩
      · obtain ⟨p', a, b⟩ := R.own j f d' w n
        exact ⟨p', by rw [getS_set_ne hj]; exact a, b.anti bd⟩
    · rcases hg j f d1 w1 with ⟨rfl, _, _⟩ | ⟨h1, w1⟩
      · rcases hg l g d2 w2 with ⟨rfl, _, _⟩ | ⟨h2, w2⟩
        · rfl
        · rw [getS_set_same hs] at s1
          cases s1
          rw [getS_set_ne h2] at s2
          exact absurd ⟨l, g, d2, w2, n2, s2⟩ npo
      · rw [getS_set_ne h1] at s1
        rcases hg l g d2 w2 with ⟨rfl, _, _⟩ | ⟨h2, w2⟩
        · rw [getS_set_same hs] at s2
          cases s2
          exact absurd ⟨j, f, d1, w1, n1, s1⟩ npo
        · rw [getS_set_ne h2] at s2
          exact R.dist j l f g d1 d2 p' w1 n1 w2 n2 s1 s2
    · rcases ow a z with z | z
      · exact (R.ext a (up a h)).1 z
      · exact np (z ▸ h)
    · obtain ⟨a, d', b⟩ := R.pin z (pn ▸ hz)
      have hz' : i ≠ z.1 := fun h => nm d' (by rw [h]; exact b)
      exact ⟨by rw [getS_set_ne hz']; exact a, d', by rw [getE_set_ne hz']; exact b⟩
  · have h1 : e.length ≤ i := Nat.le_of_not_lt hi
    rw [List.set_eq_of_length_le h1, List.set_eq_of_length_le (R.len ▸ h1)]
    exact ⟨R.anti up pn, fun _ h => .inl h⟩
end

/-! ### assignment to a name -/
def isMu (e : En) (i : Nat) : Bool := match getE e i with
  | some (.mu, _) => true
  | _ => false
theorem isMu_ne {e : En} {i : Nat} (h : ¬ isMu e i = true) : ∀ d, getE e i ≠ some (.mu, d) := fun d q => h (by unfold isMu; rw [q])
/-- slot i takes r -/
def put (i : Nat) (r : RV) : M Unit := fun e => match r with
  | .sh d => if isMu e i = true then .bad else .ok () (e.set i (some (.sh, d)))
  | .fr d => if isMu e i = true then .bad else .ok () (e.set i (some (.ow, d)))
  | .sl j => match M.esc (.sl j) e with
    | .ok d e' => if isMu e' i = true then .bad else .ok () (e'.set i (some (.sh, d)))
    | _ => .bad
def sSet (i : Nat) (f : M RV) : S := M.then (M.bind f (put i)) fun _ => .nx
section
variable {W : Wx} {K : Fg} {F F1 F' : Fx} {σ σ1 : St} {H H1 H' : Hp} {e e' e1 : En} {Dn Dm : Ends}
theorem put_of {i : Nat} {r : RV} {v : V} (R : Rel K F σ H e) (p : Post K F σ H e F' σ H' e') (h : Held K F' σ H H' e' v r) (q : put i r e' = .ok () e1) :
    Post K F σ H e F (σ.set i (some v)) H' e1 := by
  have p0 := p.anti
  have shc : ∀ (e2 : En) (d : D), Post K F σ H e F σ H' e2 → Rp K (Bd F σ e2) H' v d → (∀ d, getE e2 i ≠ some (.mu, d)) → Post K F σ H e F (σ.set i (some v)) H' (e2.set i (some (.sh, d))) := fun e2 d p2 rp nm => by
    obtain ⟨r1, r2⟩ := p2.rel.setSh rp nm
    exact ⟨r1, p2.stp, fun a z => p2.ow a (r2 a z), .refl⟩
  unfold put at q
  cases r with
  | sh d =>
    simp only at q
    split at q
    · cases q
    · rename_i nm
      cases q
      exact shc _ _ p0 (Rp.anti h fun a z => z.elim (fun z => .inl (p.le.up a z)) .inr) (isMu_ne nm)
  | fr d =>
    simp only at q
    split at q
    · cases q
    · rename_i nm
      cases q
      obtain ⟨a, rfl, n, f, o⟩ := h
      have np : ¬ F.bx a := fun z => (R.ext a z).2 n
      obtain ⟨r1, r2⟩ := p.rel.setOw (i := i) f p.le.up p.le.pn.symm np o (isMu_ne nm)
      exact ⟨r1, p.stp, fun b z => (r2 b z).elim (p.ow b) fun z => .inr (z ▸ n), .refl⟩
  | sl j =>
    simp only at q
    cases w : M.esc (.sl j) e' with
    | bad => rw [w] at q; cases q
    | exc x e2 => rw [w] at q; cases q
    | ok d e2 =>
      rw [w] at q
      simp only at q
      split at q
      · cases q
      · rename_i nm
        cases q
        obtain ⟨p2, rp⟩ := p.esc R h w
        exact shc _ _ p2 rp (isMu_ne nm)
theorem put_noexc {i : Nat} {r : RV} {x : Xc} : put i r e ≠ .exc x e1 := fun q => by
  unfold put at q
  cases r with
  | sh d => simp only at q; split at q <;> cases q
  | fr d => simp only at q; split at q <;> cases q
  | sl j =>
    simp only at q
    cases w : M.esc (.sl j) e with
    | bad => rw [w] at q; cases q
    | exc x e2 => rw [w] at q; cases q
    | ok d e2 => rw [w] at q; simp only at q; split at q <;> cases q
theorem set_of {i : Nat} {f : M RV} {k : S} (R : Rel K F σ H e) (h : SAft W K F σ H e Dn (M.then (M.bind f (put i)) (fun _ => k) e)) :
    Aft W K F σ H e (fun r F' e' H' => ∀ v, Held K F' σ H H' e' v r → ∃ F1 e1, Post K F σ H e F1 (σ.set i (some v)) H' e1 ∧ SAft W K F1 (σ.set i (some v)) H' e1 Dn (k e1)) (f e) := by
  unfold M.then M.bind at h
  cases q : f e with
  | bad => rw [q] at h; exact h
  | exc x e1 => rw [q] at h; exact fun cls d F' H' p hx => h cls d F' σ H' p hx
  | ok r e1 =>
    rw [q] at h
    intro F1 H1 p v hv
    cases w : put i r e1 with
    | bad => simp only [w] at h; exact h.elim
    | exc x e2 => exact absurd w put_noexc
    | ok u e2 =>
      simp only [w] at h
      have p2 := put_of R p hv w
      exact ⟨F, e2, p2, SAft.post p2 h⟩
end

section
variable {X : Cx} {W : Wx} {a c : Expr} {f : M RV} {g h : S} {pos : Pos} {st : Stmt} {rest bd orelse : List Stmt}
def sNil : S := .nx
theorem pds_nil : PDB X W [] sNil := pss_imp pss_nil fun Dn σ H ⟨F, e, R, h⟩ => h F σ H (.refl R)
theorem pds_cons (h1 : PDS X W st g) (h2 : PDB X W rest h) : PDB X W (st :: rest) (sSeq g h) :=
  pss_imp (pss_cons h1 h2) fun Dn σ H ⟨F, e, R, h⟩ => ⟨F, e, R, h.seq⟩
theorem pds_one (h1 : PDS X W st g) : PDB X W [st] g := pss_one h1
theorem pds_pass : PDS X W (.Pass pos) sNil := ps_imp ps_pass fun Dn σ H ⟨F, e, R, h⟩ => h F σ H (.refl R)
def sBrk : S := .bk
def sCnt : S := .ct
theorem pds_break : PDS X W (.Break pos) sBrk := ps_imp ps_break fun Dn σ H ⟨F, e, R, h⟩ => h F σ H (.refl R)
theorem pds_continue : PDS X W (.Continue pos) sCnt := ps_imp ps_continue fun Dn σ H ⟨F, e, R, h⟩ => h F σ H (.refl R)
def sExpr (f : M RV) : S := M.then f fun _ => .nx
theorem pds_expr (ha : PD X W a f) (hs : swapsWith a none pos.line X.env = pure false := by rfl) : PDS X W (.Expr a pos) (sExpr f) :=
  ps_imp (ps_expr ha hs) fun Dn σ H ⟨F, e, R, h⟩ => ⟨F, e, R, h.then.imp fun r F1 e1 H1 p1 h1 v hv => h1 F1 σ H1 (.refl p1.rel)⟩
def sRet (f : M RV) : S := M.then f fun r => .rt r
theorem pds_ret (ha : PD X W a f) : PDS X W (.Return (some a) pos) (sRet f) :=
  ps_imp (ps_ret ha) fun Dn σ H ⟨F, e, R, h⟩ => ⟨F, e, R, by
    unfold sRet M.then at h
    cases q : f e with
    | bad => rw [q] at h; exact h
    | exc x e1 => rw [q] at h; exact fun cls d F' H' p hx => h cls d F' σ H' p hx
    | ok r e1 => rw [q] at h; exact fun F1 H1 p v hv => h F1 σ H1 v p hv⟩
def sRetN : S := .rt (.sh .non)
theorem pds_retN : PDS X W (.Return none pos) sRetN := ps_imp ps_retN fun Dn σ H ⟨F, e, R, h⟩ => h F σ H _ (.refl R) .non
def sIf (c : M Bool) (g h : S) : S := M.then c fun b => if b = true then g else h
theorem pds_if {tc : M Bool} (hc : PDT X W c tc) (hg : PDB X W bd g) (hh : PDB X W orelse h) : PDS X W (.If c bd orelse pos) (sIf tc g h) :=
  ps_imp (ps_if hc hg hh) fun Dn σ H ⟨F, e, R, h⟩ => ⟨F, e, R, h.then.imp fun b F1 e1 H1 p1 h1 => by
    cases b with
    | true => exact ⟨F1, e1, p1.rel, h1⟩
    | false => exact ⟨F1, e1, p1.rel, h1⟩⟩
/-- what is never reached -/
def sNever : S := fun _ => .bad
theorem pds_never : PDS X W st sNever := ps_imp ps_never fun Dn σ H ⟨F, e, R, h⟩ => h
theorem pdb_never : PDB X W rest sNever := pss_imp pss_never fun Dn σ H ⟨F, e, R, h⟩ => h
theorem pds_set {i : Nat} {x : Str} {pos' : Pos} (hN : X.N.Nodup) (hi : X.N[i]? = some x) (hx : Loc X.env.scope x) (ha : PD X W a f) (hs : swapsWith a (some (.Name x pos')) pos.line X.env = pure false := by rfl)
    (hf : X.fn x = true ∨ X.env.scope.names.lookup x = some .local := by first | exact .inl rfl | exact .inr rfl | assumption) : PDS X W (.Assign [.Name x pos'] a pos) (sSet i f) :=
  ps_imp (ps_set hN hi hx ha hs hf) fun Dn σ H ⟨F, e, R, h⟩ => ⟨F, e, R, (set_of R h).imp fun r F1 e1 H1 p1 h1 v hv => by
    obtain ⟨F2, e2, p2, h2⟩ := h1 v hv
    exact h2 F2 _ H1 (.refl p2.rel)⟩
end
end Cw

/-! Cw, part E: targets, walked things, for, comprehensions, while. -/
namespace Cw
open PySem L2

/-! ### targets -/
/-- a target takes shared data: the slots afterwards -/
abbrev G := D → En → Option En
/-- the slots outside of ts stay -/
def Out (ts : List Nat) (σ σ' : St) : Prop := σ'.length = σ.length ∧ ∀ i, i ∉ ts → getS σ' i = getS σ i
def tG (K : Fg) (ts : List Nat) (a : G) : TG := fun v σ H Q => ∃ F e d e', Rel K F σ H e ∧ Rp K (Bd F σ e) H v d ∧ a d e = some e' ∧ ∀ F' σ' H', Post K F σ H e F' σ' H' e' → Out ts σ σ' → Q σ' H'
abbrev Gs := List D → En → Option En
def tGs (K : Fg) (ts : List Nat) (a : Gs) : TGs := fun vs σ H Q => ∃ F e ds e', Rel K F σ H e ∧ RpL K (Bd F σ e) H vs ds ∧ a ds e = some e' ∧ ∀ F' σ' H', Post K F σ H e F' σ' H' e' → Out ts σ σ' → Q σ' H'
abbrev PDG (X : Cx) (tg : Expr) (ts : List Nat) (a : G) : Prop := PG X tg (tG X.K ts a)
abbrev PDGs (X : Cx) (tg : List Expr) (ts : List Nat) (a : Gs) : Prop := PGs X tg (tGs X.K ts a)
theorem pg_imp {X : Cx} {e : Expr} {t u : TG} (h : PG X e t) (k : ∀ v σ H Q, u v σ H Q → t v σ H Q) : PG X e u := ⟨fun pins s σ H v u Q I r q => h.run pins s σ H v u Q I r (k v σ H Q q)⟩
theorem pgs_imp {X : Cx} {e : List Expr} {t u : TGs} (h : PGs X e t) (k : ∀ v σ H Q, u v σ H Q → t v σ H Q) : PGs X e u := ⟨fun pins s σ H v u Q I r q => h.run pins s σ H v u Q I r (k v σ H Q q)⟩
def gN (i : Nat) : G := fun d e => if isMu e i = true then none else some (e.set i (some (.sh, d)))
def gsNil : Gs := fun ds e => match ds with
  | [] => some e
  | _ => none
def gsCons (a : G) (b : Gs) : Gs := fun ds e => match ds with
  | [] => none
  | d :: ds => match a d e with
    | some e1 => b ds e1
    | none => none
def gT (n : Nat) (b : Gs) : G := fun d e => match d with
  | .tup ds => if ds.length = n then b ds e else none
  | _ => none
section
variable {X : Cx} {pos : Pos}
theorem pdg_name {i : Nat} {x : Str} (hN : X.N.Nodup) (hi : X.N[i]? = some x) (hx : Loc X.env.scope x) (hf : X.fn x = true ∨ X.env.scope.names.lookup x = some .local := by first | exact .inl rfl | exact .inr rfl | assumption) : PDG X (.Name x pos) [i] (gN i) :=
  pg_imp (pg_name hN hi hx hf) fun v σ H Q ⟨F, e, d, e', R, rp, q, h⟩ => by
    unfold gN at q
    split at q
    · cases q
    · rename_i nm
      cases q
      obtain ⟨r1, r2⟩ := R.setSh rp (isMu_ne nm)
      exact h F _ H ⟨r1, .refl, fun a z => .inl (r2 a z), .refl⟩ ⟨List.length_set .., fun j hj => getS_set_ne fun z => hj (by simp [z])⟩
theorem pdgs_nil : PDGs X [] [] gsNil := pgs_imp pgs_nil fun vs σ H Q ⟨F, e, ds, e', R, rp, q, h⟩ => by
  cases ds with
  | nil => cases rp; cases q; exact ⟨rfl, h F σ H (.refl R) ⟨rfl, fun _ _ => rfl⟩⟩
  | cons d ds => cases q
theorem pdgs_cons {tg : Expr} {es : List Expr} {a : G} {b : Gs} {t1 t2 : List Nat} (h1 : PDG X tg t1 a) (h2 : PDGs X es t2 b) (hs : (assignEach (tg :: es) X.env).map (·.2) = assign tg X.env :: (assignEach es X.env).map (·.2) := by rfl) : PDGs X (tg :: es) (t1 ++ t2) (gsCons a b) :=
  pgs_imp (pgs_cons h1 h2 hs) fun vs σ H Q ⟨F, e, ds, e', R, rp, q, h⟩ => by
    cases ds with
    | nil => cases q
    | cons d ds =>
      cases rp with
      | cons r rs =>
        unfold gsCons at q
        simp only at q
        cases w : a d e with
        | none => rw [w] at q; cases q
        | some e1 =>
          rw [w] at q
          exact ⟨_, _, rfl, F, e, d, e1, R, r, w, fun F1 σ1 H1 p1 o1 => ⟨F1, e1, ds, e', p1.rel, rs.post p1, q, fun F2 σ2 H2 p2 o2 => h F2 σ2 H2 (p1.trans p2) ⟨o2.1.trans o1.1, fun i hi => (o2.2 i fun z => hi (List.mem_append_right _ z)).trans (o1.2 i fun z => hi (List.mem_append_left _ z))⟩⟩⟩
theorem Rp.tup_inv {K : Fg} {B : Ad} {H : Hp} {v : V} {ds : List D} (h : Rp K B H v (.tup ds)) : ∃ a vs, v = .ref a ∧ TupAt K B H a vs ∧ RpL K B H vs ds := by
  cases h with
  | tup t r => exact ⟨_, _, rfl, t, r⟩
theorem pdg_tup {es : List Expr} {k n : Nat} {b : Gs} {ts : List Nat} (hc : X.calm = true) (h : PDGs X es ts b) (hn : (assignEach es X.env).length = n := by rfl) (hst : (assignEach es X.env).findIdx? (·.1) = none := by rfl) : PDG X (.Tuple es k pos) ts (gT n b) :=
  pg_imp (pg_tup hc h hn hst) fun v σ H Q ⟨F, e, d, e', R, rp, q, h⟩ => by
    cases d with
    | tup ds =>
      obtain ⟨a, vs, rfl, t, r⟩ := rp.tup_inv
      unfold gT at q
      simp only at q
      split at q
      · rename_i hl
        exact ⟨a, vs, rfl, t.sq, by rw [r.length]; exact hl, F, e, ds, e', R, r, q, h⟩
      · cases q
    | _ => cases q
end

/-! ### walked things -/
/-- what J stands on: it stays as long as shared things stay -/
structure ItOk (K : Fg) (J : It) (B : Ad) (H : Hp) (ds : List D) : Prop where
  ex : ∃ S : Ad → Hp → Prop, S B H ∧ (∀ B H B' H', S B H → (∀ a o, H a = some o → ¬ B a → H' a = some o) → (∀ a, B' a → B a ∨ H a = none) → S B' H') ∧
    ∀ B H, S B H → Trk B H → (∀ i d, ds[i]? = some d → J.go i H ∧ ∀ x H', J.yld i H x H' → Same H H' ∧ Rp K B H' x d) ∧ J.stop ds.length H
def tI (W : Wx) (K : Fg) (f : M (List D)) : TI := fun σ H Q => ∃ F e, Rel K F σ H e ∧ Aft W K F σ H e (fun ds F' e' H' => ∀ J, ItOk K J (Bd F' σ e') H' ds → Q J H') (f e)
abbrev PDI (X : Cx) (W : Wx) (tg it : Expr) (f : M (List D)) : Prop := PI X tg it (tI W X.K f)
theorem pi_imp {X : Cx} {tg e : Expr} {t u : TI} (h : PI X tg e t) (k : ∀ σ H Q, u σ H Q → t σ H Q) : PI X tg e u := ⟨fun pins s σ H Q I q => h.run pins s σ H Q I (k σ H Q q)⟩
theorem pi_or {X : Cx} {tg e : Expr} {t u : TI} (h : PI X tg e t) (h' : PI X tg e u) : PI X tg e (fun σ H Q => t σ H Q ∨ u σ H Q) :=
  ⟨fun pins s σ H Q I q => q.elim (h.run pins s σ H Q I) (h'.run pins s σ H Q I)⟩
/-- over a list or a tuple that is shared -/
def iSeq (f : M RV) : M (List D) := M.bind (M.bind f M.esc) fun d => match d with
  | .lst ds => M.ret ds
  | .tup ds => M.ret ds
  | _ => M.bad
theorem RpL.get {K : Fg} {B : Ad} {H : Hp} : ∀ {vs : List V} {ds : List D} {i : Nat} {d : D}, RpL K B H vs ds → ds[i]? = some d → ∃ v, vs[i]? = some v ∧ Rp K B H v d
  | _, _, 0, _, .cons r _, e => by simp at e; subst e; exact ⟨_, rfl, r⟩
  | _, _, i + 1, d, .cons _ t, e => by
    obtain ⟨u, h1, h2⟩ := RpL.get (i := i) (d := d) t (by simpa using e)
    exact ⟨u, by simpa using h1, h2⟩
  | _, _, _, _, .nil, e => by simp at e
theorem SqL.inj {K : Fg} {H : Hp} {a : Addr} {xs ys : List V} (h : Rd H a (.lst xs)) : Rd H a (.lst ys) → xs = ys := by
  intro h'
  rcases h with h | ⟨o, h⟩ <;> rcases h' with h' | ⟨o', h'⟩ <;> rw [h] at h' <;> cases h' <;> rfl

theorem Aft.know {α : Type} {W : Wx} {K : Fg} {F : Fx} {σ : St} {H : Hp} {e : En} {k : α → Fx → En → Hp → Prop} {r : R α} {P : α → Prop} (h : Aft W K F σ H e k r) (hp : ∀ a e', r = .ok a e' → P a) : Aft W K F σ H e (fun a F e H => P a ∧ k a F e H) r := by
  cases r with
  | ok a e' => exact fun F' H' p => ⟨hp a e' rfl, h F' H' p⟩
  | exc x e' => exact h
  | bad => exact h
theorem itOk_list {K : Fg} {B : Ad} {H : Hp} {a : Addr} {vs : List V} {ds : List D} (h : LstAt K B H a vs) (r : RpL K B H vs ds) : ItOk K (Itl K a) B H ds :=
  ⟨fun B H => LstAt K B H a vs ∧ RpL K B H vs ds, ⟨h, r⟩, fun B H B' H' ⟨h, r⟩ h1 h2 => ⟨h.step h1 h2, r.step h1 h2⟩, fun B H ⟨h, r⟩ _ => ⟨fun i d q => by
    obtain ⟨v, hv, rv⟩ := r.get q
    refine ⟨⟨vs, v, h.sq, hv⟩, fun x H' y => ?_⟩
    obtain ⟨rfl, y⟩ := y
    have e := hv.symm.trans (y vs h.sq)
    cases e
    exact ⟨Same.refl _, rv⟩, ⟨vs, h.sq, Nat.le_of_eq r.length⟩⟩⟩
theorem itOk_tup {K : Fg} {B : Ad} {H : Hp} {a : Addr} {vs : List V} {ds : List D} (h : TupAt K B H a vs) (r : RpL K B H vs ds) : ItOk K (Itt K a) B H ds :=
  ⟨fun B H => TupAt K B H a vs ∧ RpL K B H vs ds, ⟨h, r⟩, fun B H B' H' ⟨h, r⟩ h1 h2 => ⟨h.step h1 h2, r.step h1 h2⟩, fun B H ⟨h, r⟩ _ => ⟨fun i d q => by
    obtain ⟨v, hv, rv⟩ := r.get q
    refine ⟨⟨vs, v, h.sq, hv⟩, fun x H' y => ?_⟩
    obtain ⟨rfl, y⟩ := y
    have e := hv.symm.trans (y vs h.sq)
    cases e
    exact ⟨Same.refl _, rv⟩, ⟨vs, h.sq, Nat.le_of_eq r.length⟩⟩⟩
def rangeD (lo : Int) (n : Nat) : List D := (List.range n).map fun (k : Nat) => D.int (lo + (k : Int))
theorem itOk_range {K : Fg} {B : Ad} {H : Hp} {lo : Int} {n : Nat} : ItOk K (Itr lo n) B H (rangeD lo n) :=
  ⟨fun _ _ => True, trivial, fun _ _ _ _ _ _ _ => trivial, fun B H _ _ => ⟨fun i d q => by
    unfold rangeD at q
    rw [List.getElem?_map] at q
    have hi : i < n := by
      cases w : (List.range n)[i]? with
      | none => rw [w] at q; cases q
      | some k =>
        have := (List.getElem?_eq_some_iff.mp w).1
        rwa [List.length_range] at this
    rw [List.getElem?_range hi] at q
    cases q
    refine ⟨hi, fun x H' y => ?_⟩
    obtain ⟨rfl, rfl⟩ := y
    exact ⟨Same.refl _, .int _⟩, by
      show n ≤ (rangeD lo n).length
      unfold rangeD
      rw [List.length_map, List.length_range]
      exact Nat.le_refl _⟩⟩
section
variable {X : Cx} {W : Wx} {tg l : Expr} {f : M RV} {pos p : Pos}
theorem RpL.sq_lst {K : Fg} {B : Ad} {H : Hp} {v : V} {ds : List D} (h : Rp K B H v (.lst ds)) : ∃ a vs, v = .ref a ∧ LstAt K B H a vs ∧ RpL K B H vs ds := by
  cases h with
  | lst t r => exact ⟨_, _, rfl, t, r⟩
theorem pdi_seq (hl : PD X W l f) : PDI X W tg l (iSeq f) :=
  pi_imp (pi_or (pi_list hl) (pi_tup hl)) fun σ H Q ⟨F, e, R, h⟩ => by
    have hb := h.bind
    cases w : M.bind f M.esc e with
    | bad => rw [w] at hb; exact hb.elim
    | exc x e1 => exact .inl ⟨F, e, R, esc_of R (k := fun _ _ _ _ => False) (fun _ _ _ _ _ z _ => z.elim) (by rw [w] at hb ⊢; exact hb)⟩
    | ok d e1 =>
      cases d with
      | lst ds =>
        refine .inl ⟨F, e, R, esc_of R (k := fun d F1 e1 H1 => d = .lst ds ∧ Rel X.K F1 σ H1 e1 ∧ ∀ J, ItOk X.K J (Bd F1 σ e1) H1 ds → Q J H1) (fun d F1 e1 H1 v ⟨ed, R1, k⟩ rp => ?_) ?_⟩
        · subst ed
          obtain ⟨a, vs, rfl, t, r⟩ := RpL.sq_lst rp
          exact ⟨a, rfl, ⟨vs, t.sq⟩, k _ (itOk_list t r)⟩
        · rw [w] at hb ⊢
          exact fun F1 H1 p1 => ⟨rfl, p1.rel, hb F1 H1 p1 F1 H1 (.refl p1.rel)⟩
      | tup ds =>
        refine .inr ⟨F, e, R, esc_of R (k := fun d F1 e1 H1 => d = .tup ds ∧ Rel X.K F1 σ H1 e1 ∧ ∀ J, ItOk X.K J (Bd F1 σ e1) H1 ds → Q J H1) (fun d F1 e1 H1 v ⟨ed, R1, k⟩ rp => ?_) ?_⟩
        · subst ed
          obtain ⟨a, vs, rfl, t, r⟩ := rp.tup_inv
          exact ⟨a, rfl, ⟨vs, t.sq⟩, k _ (itOk_tup t r)⟩
        · rw [w] at hb ⊢
          exact fun F1 H1 p1 => ⟨rfl, p1.rel, hb F1 H1 p1 F1 H1 (.refl p1.rel)⟩
      | _ => exact .inl ⟨F, e, R, esc_of R (k := fun _ _ _ _ => False) (fun _ _ _ _ _ z _ => z.elim) (by rw [w] at hb ⊢; exact fun F1 H1 p1 => hb F1 H1 p1)⟩
/-! range -/
noncomputable def in62 (j : Int) : Bool := @decide (-(2 ^ 62) ≤ j ∧ j < 2 ^ 62) (Classical.propDecidable _)
theorem in62_iff {j : Int} : in62 j = true ↔ (-(2 ^ 62) ≤ j ∧ j < 2 ^ 62) := @decide_eq_true_iff _ (Classical.propDecidable _)
noncomputable def iRng1D (fs : M (List RV)) : M (List D) := M.bind fs fun rs => M.bind (getAll rs) fun ds => match ds with
  | [.int j] => if in62 j = true then M.ret (rangeD 0 j.toNat) else M.bad
  | _ => M.bad
noncomputable def iRng2D (fs : M (List RV)) : M (List D) := M.bind fs fun rs => M.bind (getAll rs) fun ds => match ds with
  | [.int i, .int j] => if in62 i = true ∧ in62 j = true then M.ret (rangeD i (j - i).toNat) else M.bad
  | _ => M.bad
theorem RpBL.one {K : Fg} {B : Ad} {H : Hp} {vs : List V} {d : D} (h : RpBL K B H vs [d]) : ∃ v, vs = [v] ∧ RpB K B H v d := by
  match vs, h with
  | [v], h => exact ⟨v, rfl, h.1⟩
theorem RpBL.two {K : Fg} {B : Ad} {H : Hp} {vs : List V} {d d' : D} (h : RpBL K B H vs [d, d']) : ∃ v w, vs = [v, w] ∧ RpB K B H v d ∧ RpB K B H w d' := by
  match vs, h with
  | [v, w], h => exact ⟨v, w, rfl, h.1, h.2.1⟩
theorem pdi_range1 {a : Expr} {fs : M (List RV)} (hg : Gl X "range") (hm : X.mg "range" = none) (ha : PDA X W [a] fs) (hs : starEach [a] X.env = [(false, eval a X.env)] := by rfl) : PDI X W tg (.Call (.Name "range" p) [a] [] pos) (iRng1D fs) :=
  pi_imp (pi_range1 hg hm ha hs) fun σ H Q ⟨F, e, R, h⟩ => ⟨F, e, R, h.bind.imp fun rs F1 e1 H1 p1 h1 vs hv => by
    obtain ⟨ds, rd, h2⟩ := getAll_of p1.rel hv h1
    match ds, rd, h2 with
    | [.int j], rd, h2 =>
      obtain ⟨v, rfl, rv⟩ := rd.one
      simp only at h2
      split at h2
      · rename_i hj
        replace hj := in62_iff.mp hj
        exact ⟨j, by rw [rv.int], hj.1, hj.2, h2 F1 H1 (.refl p1.rel) _ itOk_range⟩
      · exact h2.elim⟩
theorem pdi_range2 {a b : Expr} {fs : M (List RV)} (hg : Gl X "range") (hm : X.mg "range" = none) (ha : PDA X W [a, b] fs) (hs : starEach [a, b] X.env = [(false, eval a X.env), (false, eval b X.env)] := by rfl) (hs2 : starEach [b] X.env = [(false, eval b X.env)] := by rfl) : PDI X W tg (.Call (.Name "range" p) [a, b] [] pos) (iRng2D fs) :=
  pi_imp (pi_range2 hg hm ha hs hs2) fun σ H Q ⟨F, e, R, h⟩ => ⟨F, e, R, h.bind.imp fun rs F1 e1 H1 p1 h1 vs hv => by
    obtain ⟨ds, rd, h2⟩ := getAll_of p1.rel hv h1
    match ds, rd, h2 with
    | [.int i, .int j], rd, h2 =>
      obtain ⟨v, w, rfl, rv, rw'⟩ := rd.two
      simp only at h2
      split at h2
      · rename_i hj
        obtain ⟨⟨q1, q2⟩, q3, q4⟩ := And.imp in62_iff.mp in62_iff.mp hj
        exact ⟨i, j, by rw [rv.int, rw'.int], ⟨q1, q2, q3, q4⟩, h2 F1 H1 (.refl p1.rel) _ itOk_range⟩
      · exact h2.elim⟩
end

/-! ### for -/
def forL (a : G) (b : S) : List D → S
  | [], e => .nx e
  | d :: ds, e => match a d e with
    | none => .bad
    | some e1 => match b e1 with
      | .nx e2 => forL a b ds e2
      | .ct e2 => forL a b ds e2
      | .bk e2 => .nx e2
      | .rt r e2 => .rt r e2
      | .exc x e2 => .exc x e2
      | .bad => .bad
def sFor (f : M (List D)) (a : G) (b : S) : S := M.then f fun ds => forL a b ds
section
variable {X : Cx} {W : Wx} {tg it : Expr} {f : M (List D)} {a : G} {b : S} {pos : Pos} {body : List Stmt}
theorem for_of {K : Fg} {Dn : Ends} {σ : St} {H : Hp} {ts : List Nat} (h : tS W K (sFor f a b) Dn σ H) : tFor (tI W K f) (tG K ts a) (tS W K b) Dn σ H := by
  obtain ⟨F, e, R, h⟩ := h
  refine ⟨F, e, R, h.then.imp fun ds F1 e1 H1 p1 h1 J hJ => ?_⟩
  obtain ⟨⟨Sx, s0, st, sx⟩⟩ := hJ
  refine ⟨fun i m σ' H' => i + m = ds.length ∧ ∃ F' e', Rel K F' σ' H' e' ∧ Sx (Bd F' σ' e') H' ∧ SAft W K F' σ' H' e' Dn (forL a b (ds.drop i) e'), ⟨ds.length, by simp, F1, e1, p1.rel, s0, h1⟩, ?_⟩
  rintro i m σ' H' ⟨him, F', e', R', s', h'⟩
  obtain ⟨go, stop⟩ := sx _ _ s' R'.trk
  by_cases hi : i < ds.length
  · have hd : ds[i]? = some ds[i] := List.getElem?_eq_getElem hi
    obtain ⟨hgo, hy⟩ := go i _ hd
    refine .inr ⟨hgo, fun σ2 H2 => ∃ F2 e2, Rel K F2 σ2 H2 e2 ∧ Sx (Bd F2 σ2 e2) H2 ∧ SAft W K F2 σ2 H2 e2 Dn (forL a b (ds.drop (i + 1)) e2), fun σ2 H2 ⟨F2, e2, q1, q2, q3⟩ => ⟨m - 1, by omega, by omega, F2, e2, q1, q2, q3⟩, fun x H2 y => ?_⟩
    obtain ⟨sm, rp⟩ := hy x H2 y
    have pS := Post.same R' sm
    rw [List.drop_eq_getElem_cons hi] at h'
    unfold forL at h'
    cases w : a ds[i] e' with
    | none => simp only [w] at h'; exact h'.elim
    | some e2 =>
      simp only [w] at h'
      refine ⟨F', e', ds[i], e2, pS.rel, rp, w, fun F3 σ3 H3 p3 _ => ⟨F3, e2, p3.rel, ?_⟩⟩
      have pT := pS.trans p3
      have h4 := SAft.post pT h'
      have sT : ∀ {F4 : Fx} {σ4 : St} {H4 : Hp} {e4 : En}, Post K F3 σ3 H3 e2 F4 σ4 H4 e4 → Sx (Bd F4 σ4 e4) H4 := fun p4 => st _ _ _ _ s' (pT.trans p4).k1 (pT.trans p4).k2
      cases w2 : b e2 with
      | nx e5 => simp only [w2] at h4; exact fun F5 σ5 H5 p5 => ⟨F5, e5, p5.rel, sT p5, SAft.post p5 h4⟩
      | ct e5 => simp only [w2] at h4; exact fun F5 σ5 H5 p5 => ⟨F5, e5, p5.rel, sT p5, SAft.post p5 h4⟩
      | bk e5 => simp only [w2] at h4; exact fun F5 σ5 H5 p5 => h4 F5 σ5 H5 p5
      | rt r e5 => simp only [w2] at h4; exact h4
      | exc x e5 => simp only [w2] at h4; exact h4
      | bad => simp only [w2] at h4; exact h4
  · have e1 : i = ds.length := by omega
    subst e1
    rw [List.drop_eq_nil_of_le (Nat.le_refl _)] at h'
    exact .inl ⟨stop, h' F' σ' H' (.refl R')⟩
theorem pds_for {ts : List Nat} (hp : PassesOwn (model X.prog X.w) X.A X.env X.xe) (hc : X.calm = true) (hi : PDI X W tg it f) (hg : PDG X tg ts a) (hb : PDB X W body b) (hs : ∀ x, foldedSetIterable it X.env x = pure x := by intro _; rfl) : PDS X W (.For tg it body [] pos) (sFor f a b) :=
  ps_imp (ps_for hp hc hi hg hb hs) fun _ _ _ => for_of
/-! ### while, with fuel -/
def whileL (c : M Bool) (b : S) : Nat → S
  | 0, _ => .bad
  | n + 1, e => match c e with
    | .bad => .bad
    | .exc x e1 => .exc x e1
    | .ok false e1 => .nx e1
    | .ok true e1 => match b e1 with
      | .nx e2 => whileL c b n e2
      | .ct e2 => whileL c b n e2
      | .bk e2 => .nx e2
      | .rt r e2 => .rt r e2
      | .exc x e2 => .exc x e2
      | .bad => .bad
theorem while_of {K : Fg} {Dn : Ends} {σ : St} {H : Hp} {c : M Bool} {n : Nat} (h : tS W K (whileL c b n) Dn σ H) : tWhile (tT W K c) (tS W K b) Dn σ H := by
  refine ⟨fun m σ H => ∃ F e, Rel K F σ H e ∧ SAft W K F σ H e Dn (whileL c b m e), ⟨n, h⟩, ?_⟩
  rintro m σ H ⟨F, e, R, h⟩
  cases m with
  | zero => exact h.elim
  | succ m =>
    unfold whileL at h
    refine ⟨F, e, R, ?_⟩
    cases w : c e with
    | bad => rw [w] at h; exact h
    | exc x e1 => rw [w] at h; exact fun cls d F' H' p hx => h cls d F' σ H' p hx
    | ok t e1 =>
      rw [w] at h
      intro F1 H1 p1
      cases t with
      | false => exact h F1 σ H1 p1
      | true =>
        have h := SAft.post p1 h
        refine ⟨fun σ' H' => ∃ F e, Rel K F σ' H' e ∧ SAft W K F σ' H' e Dn (whileL c b m e), fun σ' H' q => ⟨m, Nat.lt_succ_self m, q⟩, F1, e1, p1.rel, ?_⟩
        cases w2 : b e1 with
        | nx e2 => simp only [w2] at h; exact fun F2 σ2 H2 p2 => ⟨F2, e2, p2.rel, SAft.post p2 h⟩
        | ct e2 => simp only [w2] at h; exact fun F2 σ2 H2 p2 => ⟨F2, e2, p2.rel, SAft.post p2 h⟩
        | bk e2 => simp only [w2] at h; exact fun F2 σ2 H2 p2 => h F2 σ2 H2 p2
        | rt r e2 => simp only [w2] at h; exact h
        | exc x e2 => simp only [w2] at h; exact h
        | bad => simp only [w2] at h; exact h
theorem pds_while {c : Expr} {tc : M Bool} {n : Nat} (hp : PassesOwn (model X.prog X.w) X.A X.env X.xe) (hc : PDT X W c tc) (hb : PDB X W body b) : PDS X W (.While c body [] pos) (whileL tc b n) :=
  ps_imp (ps_while hp hc hb) fun _ _ _ => while_of
end
end Cw

/-! Cw, part F: list comprehensions. -/
namespace Cw
open PySem L2

abbrev Wno : Wx := fun _ _ _ _ => False
def wipeE (e : En) : List Nat → En
  | [] => e
  | v :: vs => (wipeE e vs).set v none
theorem wipeE_length (e : En) : ∀ vs : List Nat, (wipeE e vs).length = e.length
  | [] => rfl
  | v :: vs => by unfold wipeE; rw [List.length_set, wipeE_length e vs]
theorem getE_wipe {e : En} {i : Nat} {x : Fl × D} : ∀ {vs : List Nat}, getE (wipeE e vs) i = some x → i ∉ vs ∧ getE e i = some x
  | [], h => ⟨by simp, h⟩
  | v :: vs, h => by
    unfold wipeE at h
    by_cases hv : v = i
    · subst hv
      by_cases hl : v < (wipeE e vs).length
      · rw [getE_set_same hl] at h; cases h
      · rw [List.set_eq_of_length_le (Nat.le_of_not_lt hl)] at h
        exact absurd (getE_lt h) hl
    · rw [getE_set_ne hv] at h
      obtain ⟨a, b⟩ := getE_wipe h
      exact ⟨by simp only [List.mem_cons, not_or]; exact ⟨fun z => hv z.symm, a⟩, b⟩
theorem getE_wipe_out {e : En} {i : Nat} : ∀ {vs : List Nat}, i ∉ vs → getE (wipeE e vs) i = getE e i
  | [], _ => rfl
  | v :: vs, h => by
    unfold wipeE
    simp only [List.mem_cons, not_or] at h
    rw [getE_set_ne fun z => h.1 z.symm]
    exact getE_wipe_out h.2
theorem getS_wipe_out {σ : St} {i : Nat} : ∀ {vs : List Nat}, i ∉ vs → getS (wipe σ vs) i = getS σ i
  | [], _ => rfl
  | v :: vs, h => by
    unfold wipe
    simp only [List.mem_cons, not_or] at h
    rw [getS_set_ne fun z => h.1 z.symm]
    exact getS_wipe_out h.2
/-- no changed parameter among these slots -/
def noMu (e : En) (vs : List Nat) : Bool := vs.all fun i => !isMu e i
section
variable {K : Fg} {F : Fx} {σ : St} {H : Hp} {e : En} {vs : List Nat}
/-- the slots vs are unknown: whatever stands there -/
theorem Rel.wipe' {σ' : St} (R : Rel K F σ H e) (nm : noMu e vs = true) (hl : σ'.length = σ.length) (hs : ∀ i, i ∉ vs → getS σ' i = getS σ i) :
    Rel K F σ' H (wipeE e vs) ∧ ∀ a, Own σ' (wipeE e vs) a → Own σ e a := by
  have ow : ∀ a, Own σ' (wipeE e vs) a → Own σ e a := fun a ⟨i, f, d, q, n, s⟩ => by
    obtain ⟨hi, q⟩ := getE_wipe q
    rw [hs i hi] at s
    exact ⟨i, f, d, q, n, s⟩
  have bd : ∀ a, Bd F σ' (wipeE e vs) a → Bd F σ e a := fun a h => h.elim .inl fun z => .inr (ow a z)
  refine ⟨⟨by rw [wipeE_length, hl]; exact R.len, fun i d q => ?_, fun i f d q n => ?_, fun i j f g d d' p q1 n1 q2 n2 s1 s2 => ?_, fun a z => ⟨fun w => (R.ext a z).1 (ow a w), (R.ext a z).2⟩, fun q hq => ?_⟩, ow⟩
  · obtain ⟨hi, q⟩ := getE_wipe q
    obtain ⟨v, a, b⟩ := R.val i d q
    exact ⟨v, by rw [hs i hi]; exact a, b.anti bd⟩
  · obtain ⟨hi, q⟩ := getE_wipe q
    obtain ⟨v, a, b⟩ := R.own i f d q n
    exact ⟨v, by rw [hs i hi]; exact a, b.anti bd⟩
  · obtain ⟨hi, q1⟩ := getE_wipe q1
    obtain ⟨hj, q2⟩ := getE_wipe q2
    rw [hs i hi] at s1
    rw [hs j hj] at s2
    exact R.dist i j f g d d' p q1 n1 q2 n2 s1 s2
  · obtain ⟨a, d, b⟩ := R.pin q hq
    have hn : q.1 ∉ vs := fun z => by
      have := (List.all_eq_true.mp nm) q.1 z
      unfold isMu at this
      rw [b] at this
      cases this
    exact ⟨by rw [hs _ hn]; exact a, d, by rw [getE_wipe_out hn]; exact b⟩
/-- an object around is changed -/
theorem Rel.updX {p : Addr} {o : HO} (R : Rel K F σ H e) (hp : F.bx p) : Rel K F σ (upd H p o) e := by
  have k1 : ∀ a u, H a = some u → ¬ Bd F σ e a → upd H p o a = some u := fun a u q n => by
    have hne : a ≠ p := fun z => n (.inl (by rw [z]; exact hp))
    rw [upd_ne hne]; exact q
  refine ⟨R.len, fun i d q => ?_, fun i f d q n => ?_, R.dist, fun a z => ⟨(R.ext a z).1, ?_⟩, R.pin⟩
  · obtain ⟨v, a, b⟩ := R.val i d q
    exact ⟨v, a, b.step k1 fun a z => .inl z⟩
  · obtain ⟨p', a, b⟩ := R.own i f d q n
    refine ⟨p', a, b.step k1 (fun a z => .inl z) (upd_ne fun z => ?_)⟩
    exact (R.ext p hp).1 ⟨i, f, d, q, n, z ▸ a⟩
  · unfold upd
    split
    · exact fun z => nomatch z
    · exact (R.ext a z).2
end

/-- one turn after another: the items that are made -/
def lcL (vs : List Nat) (a : G) (tt : M Bool) (te : M RV) : List D → M (List D)
  | [], e => .ok [] e
  | d :: ds, e => match a d e with
    | none => .bad
    | some e1 => match tt e1 with
      | .ok true e2 => match M.bind te M.esc e2 with
        | .ok y e3 => if noMu e3 vs = true then (match lcL vs a tt te ds (wipeE e3 vs) with
          | .ok ys e4 => .ok (y :: ys) e4
          | .exc x e4 => .exc x e4
          | .bad => .bad) else .bad
        | _ => .bad
      | .ok false e2 => if noMu e2 vs = true then lcL vs a tt te ds (wipeE e2 vs) else .bad
      | _ => .bad
def M.wipe (vs : List Nat) : M Unit := fun e => if noMu e vs = true then .ok () (wipeE e vs) else .bad
def eLc (vs : List Nat) (f : M (List D)) (a : G) (tt : M Bool) (te : M RV) : M RV :=
  M.bind f fun ds => M.bind (M.wipe vs) fun _ => M.bind (lcL vs a tt te ds) fun ys => if ys.length ≤ sizeLine then M.ret (.fr (.lst ys)) else M.bad
def eYes : M Bool := M.ret true

section
variable {K : Fg} {σ : St} {vs : List Nat} {a : G} {tt : M Bool} {te : M RV} {J : It}
theorem RpL.append {B : Ad} {H : Hp} {v : V} {d : D} (r : Rp K B H v d) : ∀ {vs : List V} {ds : List D}, RpL K B H vs ds → RpL K B H (vs ++ [v]) (ds ++ [d])
  | _, _, .nil => .cons r .nil
  | _, _, .cons a b => .cons a (RpL.append r b)
theorem lcL_noexc : ∀ {ds : List D} {e e' : En} {x : Xc}, lcL vs a tt te ds e ≠ .exc x e'
  | [], _, _, _ => fun h => by cases h
  | d :: ds, e, e', x => fun h => by
    unfold lcL at h
    cases w : a d e with
    | none => simp only [w] at h; cases h
    | some e1 =>
      simp only [w] at h
      cases w2 : tt e1 with
      | bad => simp only [w2] at h; cases h
      | exc x e2 => simp only [w2] at h; cases h
      | ok b e2 =>
        cases b with
        | true =>
          simp only [w2] at h
          cases w3 : M.bind te M.esc e2 with
          | bad => simp only [w3] at h; cases h
          | exc x e2 => simp only [w3] at h; cases h
          | ok y e3 =>
            simp only [w3] at h
            split at h
            · cases w4 : lcL vs a tt te ds (wipeE e3 vs) with
              | bad => simp only [w4] at h; cases h
              | exc x2 e5 => exact lcL_noexc w4
              | ok ys e5 => simp only [w4] at h; cases h
            · cases h
        | false =>
          simp only [w2] at h
          split at h
          · exact lcL_noexc h
          · cases h
theorem mem_wipe_eq {σ σ2 : St} (hl : σ2.length = σ.length) (h : ∀ i, i ∉ vs → getS σ2 i = getS σ i) : L2.wipe σ2 vs = L2.wipe σ vs := by
  have key : ∀ (s t : St), s.length = t.length → (∀ i, getS s i = getS t i) → s = t := by
    intro s
    induction s with
    | nil => intro t h1 _; cases t with
      | nil => rfl
      | cons _ _ => simp at h1
    | cons x s ih =>
      intro t h1 h2
      cases t with
      | nil => simp at h1
      | cons y t =>
        have e0 : x = y := h2 0
        have e1 := ih t (by simpa using h1) fun i => h2 (i + 1)
        rw [e0, e1]
  refine key _ _ (by rw [wipe_length, wipe_length, hl]) fun i => ?_
  by_cases hi : i ∈ vs
  · have z : ∀ (s : St) (ws : List Nat), i ∈ ws → getS (L2.wipe s ws) i = none := by
      intro s ws
      induction ws with
      | nil => intro q; cases q
      | cons w ws ih =>
        intro q
        unfold L2.wipe
        by_cases hw : w = i
        · subst hw
          by_cases hlt : w < (L2.wipe s ws).length
          · exact getS_set_same hlt
          · cases w' : getS ((L2.wipe s ws).set w none) w with
            | none => rfl
            | some v =>
              have := getS_lt w'
              rw [List.length_set] at this
              exact absurd this hlt
        · rw [getS_set_ne hw]
          rcases List.mem_cons.mp q with q | q
          · exact absurd q.symm hw
          · exact ih q
    rw [z _ _ hi, z _ _ hi]
  · rw [getS_wipe_out hi, getS_wipe_out hi]; exact h i hi
/-- the loop of a comprehension: acc is made so far at the new list p -/
theorem lc_run {F : Fx} {H : Hp} {e e9 : En} {p : Addr} {ds ys acc : List D} {Qd : Hp → Prop} {ts : List Nat} (hts : ∀ i, i ∈ ts → i ∈ vs) (R : Rel K F (L2.wipe σ vs) H e) (hp : F.bx p) (hacc : OwnAt K (Bd F (L2.wipe σ vs) e) H p (.lst acc)) (hJ : ItOk K J (Bd F (L2.wipe σ vs) e) H ds)
    (hr : lcL vs a tt te ds e = .ok ys e9) (hz : acc.length + ys.length ≤ sizeLine)
    (hQ : ∀ F' H', Rel K F' (L2.wipe σ vs) H' e9 → Stp (fun b => Own (L2.wipe σ vs) e b ∨ b = p) H H' → (∀ b, Own (L2.wipe σ vs) e9 b → Own (L2.wipe σ vs) e b ∨ H b = none) → Le F F' H → OwnAt K (Bd F' (L2.wipe σ vs) e9) H' p (.lst (acc ++ ys)) → Qd H') :
    ∃ W : Nat → Nat → Hp → Prop, (∃ m, W 0 m H) ∧ ∀ i m H, W i m H →
      (J.stop i H ∧ Qd H) ∨ (J.go i H ∧ ∃ Nx : Hp → Prop, (∀ H', Nx H' → ∃ m', m' < m ∧ W (i + 1) m' H') ∧ ∀ x H', J.yld i H x H' → tG K ts a x (L2.wipe σ vs) H' fun σ2 H2 => L2.wipe σ2 vs = L2.wipe σ vs ∧ tT Wno K tt σ2 H2 fun b H3 =>
        if b = true then tE Wno K te σ2 H3 fun y H4 => ∃ acc, H4 p = some (.lst acc) ∧ acc.length < sizeLine ∧ Nx (upd H4 p (.lst (acc ++ [y]))) else Nx H3) := by
  obtain ⟨⟨Sx, s0, st, sx⟩⟩ := hJ
  refine ⟨fun i m H' => i + m = ds.length ∧ ∃ F' e' ac zs, Rel K F' (L2.wipe σ vs) H' e' ∧ Sx (Bd F' (L2.wipe σ vs) e') H' ∧ F'.bx p ∧ OwnAt K (Bd F' (L2.wipe σ vs) e') H' p (.lst ac) ∧ lcL vs a tt te (ds.drop i) e' = .ok zs e9 ∧ ac ++ zs = acc ++ ys ∧
      Stp (fun b => Own (L2.wipe σ vs) e b ∨ b = p) H H' ∧ (∀ b, Own (L2.wipe σ vs) e' b → Own (L2.wipe σ vs) e b ∨ H b = none) ∧ Le F F' H, ⟨ds.length, by simp, F, e, acc, ys, R, s0, hp, hacc, hr, rfl, .refl, fun _ z => .inl z, .refl⟩, ?_⟩
  rintro i m H' ⟨him, F', e', ac, zs, R', s', hp', ho, hl, hac, stp, ow, le⟩
  obtain ⟨go, stop⟩ := sx _ _ s' R'.trk
  by_cases hi : i < ds.length
  · have hd : ds[i]? = some ds[i] := List.getElem?_eq_getElem hi
    obtain ⟨hgo, hy⟩ := go i _ hd
    refine .inr ⟨hgo, fun H2 => ∃ F' e' ac zs, Rel K F' (L2.wipe σ vs) H2 e' ∧ Sx (Bd F' (L2.wipe σ vs) e') H2 ∧ F'.bx p ∧ OwnAt K (Bd F' (L2.wipe σ vs) e') H2 p (.lst ac) ∧ lcL vs a tt te (ds.drop (i + 1)) e' = .ok zs e9 ∧ ac ++ zs = acc ++ ys ∧
      Stp (fun b => Own (L2.wipe σ vs) e b ∨ b = p) H H2 ∧ (∀ b, Own (L2.wipe σ vs) e' b → Own (L2.wipe σ vs) e b ∨ H b = none) ∧ Le F F' H, fun H2 q => ⟨m - 1, by omega, by omega, q⟩, fun x H2 y => ?_⟩
    obtain ⟨sm, rp⟩ := hy x H2 y
    have pS := Post.same R' sm
    rw [List.drop_eq_getElem_cons hi] at hl
    unfold lcL at hl
    cases w : a ds[i] e' with
    | none => simp only [w] at hl; cases hl
    | some e2 =>
      simp only [w] at hl
      refine ⟨F', e', ds[i], e2, pS.rel, rp, w, fun F3 σ3 H3 p3 o3 => ⟨mem_wipe_eq (by rw [o3.1, wipe_length]) fun j hj => ?_, F3, e2, p3.rel, ?_⟩⟩
      · rw [o3.2 j fun z => hj (hts j z), getS_wipe_out hj]
      · have pT := pS.trans p3
        have out3 : ∀ i, i ∉ vs → getS σ3 i = getS (L2.wipe σ vs) i := fun i hi => o3.2 i fun z => hi (hts i z)
        -- the end of a turn
        have fin : ∀ {F4 : Fx} {H4 : Hp} {e4 : En} {zs' : List D}, Post K F' (L2.wipe σ vs) H' e' F4 σ3 H4 e4 → noMu e4 vs = true → lcL vs a tt te (ds.drop (i + 1)) (wipeE e4 vs) = .ok zs' e9 → ac ++ zs' = acc ++ ys →
            ∃ F' e' ac zs, Rel K F' (L2.wipe σ vs) H4 e' ∧ Sx (Bd F' (L2.wipe σ vs) e') H4 ∧ F'.bx p ∧ OwnAt K (Bd F' (L2.wipe σ vs) e') H4 p (.lst ac) ∧ lcL vs a tt te (ds.drop (i + 1)) e' = .ok zs e9 ∧ ac ++ zs = acc ++ ys ∧
              Stp (fun b => Own (L2.wipe σ vs) e b ∨ b = p) H H4 ∧ (∀ b, Own (L2.wipe σ vs) e' b → Own (L2.wipe σ vs) e b ∨ H b = none) ∧ Le F F' H := fun {F4 H4 e4 zs'} p4 nm hl' hac' => by
          obtain ⟨Rw, oww⟩ := p4.rel.wipe' (σ' := L2.wipe σ vs) nm (by rw [o3.1]) fun i hi => (out3 i hi).symm
          have p5 : Post K F' (L2.wipe σ vs) H' e' F4 (L2.wipe σ vs) H4 (wipeE e4 vs) := ⟨Rw, p4.stp, fun b z => p4.ow b (oww b z), p4.le⟩
          refine ⟨F4, _, ac, zs', Rw, st _ _ _ _ s' p5.k1 p5.k2, p4.le.up p hp', ho.step p5.k1 p5.k2 (p5.around R' hp'), hl', hac', stp.trans (p5.stp) fun b z => ?_, fun b z => (p5.ow b z).elim (ow b) fun z => .inr (stp.back b z), ⟨p5.le.pn.trans le.pn, fun b z => p5.le.up b (le.up b z), fun b z => (p5.le.dn b z).elim (le.dn b) fun z => .inr (stp.back b z)⟩⟩
          exact (ow b z).elim (fun z => .inl (.inl z)) .inr
        cases w2 : tt e2 with
        | bad => simp only [w2] at hl; cases hl
        | exc x e3 => simp only [w2] at hl; cases hl
        | ok b e3 =>
          intro F4 H4 p4
          cases b with
          | false =>
            simp only [w2] at hl
            split at hl
            · rename_i nm
              exact fin (pT.trans p4) nm hl hac
            · cases hl
          | true =>
            simp only [w2] at hl
            refine ⟨F4, e3, p4.rel, esc_of p4.rel (k := fun y F5 e5 H5 => Post K F' (L2.wipe σ vs) H' e' F5 σ3 H5 e5 ∧ noMu e5 vs = true ∧ ∃ zs', lcL vs a tt te (ds.drop (i + 1)) (wipeE e5 vs) = .ok zs' e9 ∧ zs = y :: zs') (fun y F5 e5 H5 v ⟨p5, nm, zs', hl', ez⟩ rpv => ?_) ?_⟩
            · subst ez
              have ho5 := ho.step p5.k1 p5.k2 (p5.around R' hp')
              obtain ⟨avs, hav, rav⟩ := ho5
              have hp5 := p5.le.up p hp'
              have hlen : avs.length < sizeLine := by
                have e1 := congrArg List.length hac
                simp only [List.length_append, List.length_cons] at e1
                rw [rav.length]; omega
              refine ⟨avs, hav, hlen, ?_⟩
              obtain ⟨Rw, oww⟩ := (p5.rel.updX (o := .lst (avs ++ [v])) hp5).wipe' (σ' := L2.wipe σ vs) nm (by rw [o3.1]) fun i hi => (out3 i hi).symm
              have kk1 : ∀ a o, H5 a = some o → ¬ Bd F5 σ3 e5 a → upd H5 p (.lst (avs ++ [v])) a = some o := fun a o q n => by
                have hne : a ≠ p := fun z => n (.inl (by rw [z]; exact hp5))
                rw [upd_ne hne]; exact q
              have kk2 : ∀ a, Bd F5 (L2.wipe σ vs) (wipeE e5 vs) a → Bd F5 σ3 e5 a ∨ H5 a = none := fun a z => .inl (z.elim .inl fun z => .inr (oww a z))
              refine ⟨F5, _, ac ++ [y], zs', Rw, st _ _ _ _ (st _ _ _ _ s' p5.k1 p5.k2) kk1 kk2, hp5, ⟨_, upd_same, ?_⟩, hl', ?_, ?_, fun b z => (p5.ow b (oww b z)).elim (ow b) fun z => .inr (stp.back b z), ⟨p5.le.pn.trans le.pn, fun b z => p5.le.up b (le.up b z), fun b z => (p5.le.dn b z).elim (le.dn b) fun z => .inr (stp.back b z)⟩⟩
              · exact RpL.append (rpv.step kk1 kk2) (rav.step kk1 kk2)
              · rw [List.append_assoc]; exact hac
              · refine ⟨fun b o q n => ?_, fun b q => ?_⟩
                · have hne : b ≠ p := fun z => n (.inr z)
                  rw [upd_ne hne]
                  exact p5.stp.keep b o (stp.keep b o q n) fun z => (ow b z).elim (fun z => n (.inl z)) fun z => by rw [q] at z; cases z
                · refine stp.back b (p5.stp.back b ?_)
                  by_cases hb : b = p
                  · rw [hb, upd_same] at q; cases q
                  · rw [upd_ne hb] at q; exact q
            · cases w3 : M.bind te M.esc e3 with
              | bad => simp only [w3] at hl; cases hl
              | exc x e5 => simp only [w3] at hl; cases hl
              | ok y e5 =>
                simp only [w3] at hl
                split at hl
                · rename_i nm
                  cases w4 : lcL vs a tt te (ds.drop (i + 1)) (wipeE e5 vs) with
                  | bad => simp only [w4] at hl; cases hl
                  | exc x2 e6 => exact absurd w4 lcL_noexc
                  | ok zs' e6 =>
                    simp only [w4] at hl
                    cases hl
                    exact fun F6 H6 p6 => ⟨(pT.trans p4).trans p6, nm, zs', w4, rfl⟩
                · cases hl
  · have e1 : i = ds.length := by omega
    subst e1
    rw [List.drop_eq_nil_of_le (Nat.le_refl _)] at hl
    unfold lcL at hl
    cases hl
    rw [List.append_nil] at hac
    subst hac
    exact .inl ⟨stop, hQ F' H' R' stp ow le ho⟩
def Wiped (vs : List Nat) (e : En) : Prop := ∀ i, i ∈ vs → getE e i = none
theorem wiped_wipe {e : En} : Wiped vs (wipeE e vs) := fun i hi => by
  cases w : getE (wipeE e vs) i with
  | none => rfl
  | some x => exact absurd hi (getE_wipe w).1
theorem lcL_wiped : ∀ {ds ys : List D} {e e' : En}, Wiped vs e → lcL vs a tt te ds e = .ok ys e' → Wiped vs e'
  | [], _, _, _, hw, h => by unfold lcL at h; cases h; exact hw
  | d :: ds, ys, e, e', hw, h => by
    unfold lcL at h
    cases w : a d e with
    | none => simp only [w] at h; cases h
    | some e1 =>
      simp only [w] at h
      cases w2 : tt e1 with
      | bad => simp only [w2] at h; cases h
      | exc x e2 => simp only [w2] at h; cases h
      | ok b e2 =>
        cases b with
        | true =>
          simp only [w2] at h
          cases w3 : M.bind te M.esc e2 with
          | bad => simp only [w3] at h; cases h
          | exc x e2 => simp only [w3] at h; cases h
          | ok y e3 =>
            simp only [w3] at h
            split at h
            · cases w4 : lcL vs a tt te ds (wipeE e3 vs) with
              | bad => simp only [w4] at h; cases h
              | exc x2 e5 => simp only [w4] at h; cases h
              | ok ys e5 => simp only [w4] at h; cases h; exact lcL_wiped wiped_wipe w4
            · cases h
        | false =>
          simp only [w2] at h
          split at h
          · exact lcL_wiped wiped_wipe h
          · cases h
theorem Rel.swap {F : Fx} {σ σ' : St} {H : Hp} {e : En} (R : Rel K F σ H e) (hw : Wiped vs e) (hl : σ'.length = σ.length) (hs : ∀ i, i ∉ vs → getS σ' i = getS σ i) :
    Rel K F σ' H e ∧ ∀ a, Own σ' e a ↔ Own σ e a := by
  have hn : ∀ {i x}, getE e i = some x → i ∉ vs := fun q hi => by rw [hw _ hi] at q; cases q
  have ow : ∀ a, Own σ' e a ↔ Own σ e a := fun a => ⟨fun ⟨i, f, d, q, n, s⟩ => ⟨i, f, d, q, n, by rw [← hs i (hn q)]; exact s⟩, fun ⟨i, f, d, q, n, s⟩ => ⟨i, f, d, q, n, by rw [hs i (hn q)]; exact s⟩⟩
  have bd : ∀ a, Bd F σ' e a → Bd F σ e a := fun a h => h.elim .inl fun z => .inr ((ow a).mp z)
  refine ⟨⟨by rw [hl]; exact R.len, fun i d q => ?_, fun i f d q n => ?_, fun i j f g d d' p q1 n1 q2 n2 s1 s2 => ?_, fun a z => ⟨fun w => (R.ext a z).1 ((ow a).mp w), (R.ext a z).2⟩, fun q hq => ?_⟩, ow⟩
  · obtain ⟨v, a, b⟩ := R.val i d q
    exact ⟨v, by rw [hs i (hn q)]; exact a, b.anti bd⟩
  · obtain ⟨v, a, b⟩ := R.own i f d q n
    exact ⟨v, by rw [hs i (hn q)]; exact a, b.anti bd⟩
  · rw [hs i (hn q1)] at s1
    rw [hs j (hn q2)] at s2
    exact R.dist i j f g d d' p q1 n1 q2 n2 s1 s2
  · obtain ⟨a, d, b⟩ := R.pin q hq
    exact ⟨by rw [hs _ (hn b)]; exact a, d, b⟩
theorem ItOk.step {B B' : Ad} {H H' : Hp} {ds : List D} (h : ItOk K J B H ds) (h1 : ∀ a o, H a = some o → ¬ B a → H' a = some o) (h2 : ∀ a, B' a → B a ∨ H a = none) : ItOk K J B' H' ds := by
  obtain ⟨S, s0, st, sx⟩ := h
  exact ⟨S, st _ _ _ _ s0 h1 h2, st, sx⟩
theorem lc_of {W : Wx} {f : M (List D)} {H : Hp} {Q : VK} {ts : List Nat} (hts : ∀ i, i ∈ ts → i ∈ vs) (h : tE W K (eLc vs f a tt te) σ H Q) : tLc (tI W K f) (tG K ts a) (tT Wno K tt) (tE Wno K te) vs σ H Q := by
  obtain ⟨F, e, R, h⟩ := h
  refine ⟨F, e, R, h.bind.imp fun ds F1 e1 H1 p1 h1 J hJ p np => ?_⟩
  unfold M.bind M.wipe at h1
  by_cases nm : noMu e1 vs = true
  · simp only [if_pos nm] at h1
    cases w : lcL vs a tt te ds (wipeE e1 vs) with
    | bad => simp only [w] at h1; exact h1.elim
    | exc x e2 => exact absurd w lcL_noexc
    | ok ys e9 =>
      simp only [w] at h1
      by_cases hz : ys.length ≤ sizeLine
      · simp only [if_pos hz] at h1
        obtain ⟨Rw, oww⟩ := p1.rel.wipe' (σ' := L2.wipe σ vs) nm (wipe_length _ _) fun i hi => getS_wipe_out hi
        have s := same_upd (o := .lst []) np
        have Rp' := Rw.plus s np (by rw [upd_same]; exact fun z => nomatch z)
        have hJ' : ItOk K J (Bd (F1.plus p) (L2.wipe σ vs) (wipeE e1 vs)) (upd H1 p (.lst [])) ds := hJ.step (fun a o q _ => s a o q) fun b z => by
          rcases z with (z | z) | z
          · exact .inl (.inl z)
          · exact .inr (z ▸ np)
          · exact .inl (.inr (oww b z))
        refine lc_run hts Rp' (.inr rfl) (acc := []) ⟨[], upd_same, .nil⟩ hJ' w (by simpa using hz) fun F' H' R' stp ow le o => ?_
        have hw := lcL_wiped wiped_wipe w
        obtain ⟨R9, ow9⟩ := R'.swap (σ' := σ) hw (wipe_length _ _).symm fun i hi => (getS_wipe_out hi).symm
        have np' : ∀ b, upd H1 p (.lst []) b = none → H1 b = none := fun b q => s.free q
        have ps : Post K F1 σ H1 e1 F' σ H' e9 := ⟨R9, ⟨fun b u q n => stp.keep b u (s b u q) fun z => z.elim (fun z => n (oww b z)) fun z => (by rw [z, np] at q; cases q), fun b q => np' b (stp.back b q)⟩,
          fun b z => (ow b ((ow9 b).mp z)).elim (fun z => .inl (oww b z)) fun z => .inr (np' b z), ⟨le.pn, fun b z => le.up b (.inl z), fun b z => (le.dn b z).elim (fun z => z.elim .inl fun z => .inr (z ▸ np)) fun z => .inr (np' b z)⟩⟩
        refine h1 F' H' ps _ ⟨p, rfl, p1.stp.back p np, le.up p (.inr rfl), ?_⟩
        have o : OwnAt K (Bd F' (L2.wipe σ vs) e9) H' p (.lst ys) := o
        exact o.anti fun b z => z.elim .inl fun z => .inr ((ow9 b).mp z)
      · simp only [if_neg hz] at h1; exact h1.elim
  · simp only [if_neg nm] at h1; exact h1.elim
end
section
variable {X : Cx} {W : Wx}
theorem pts_imp {X : Cx} {e : List Expr} {t u : TT} (h : PTs X e t) (k : ∀ σ H Q, u σ H Q → t σ H Q) : PTs X e u := ⟨fun pins s σ H Q I q => h.run pins s σ H Q I (k σ H Q q)⟩
abbrev PDTs (X : Cx) (W : Wx) (e : List Expr) (f : M Bool) : Prop := PTs X e (tT W X.K f)
theorem pdts_nil : PDTs X W [] eYes := pts_imp pts_nil fun σ H Q ⟨F, e, R, h⟩ => h F H (.refl R)
theorem pdts_one {c : Expr} {t : M Bool} (h : PDT X W c t) : PDTs X W [c] t := pts_one h
theorem pd_lc {elt tg iter : Expr} {ifs : List Expr} {scope : Scope} {own : List (Str × Nat)} {pos : Pos} {f : M (List D)} {a : G} {ts : List Nat} {tt : M Bool} {te : M RV} (hc : X.calm = true) (hN : X.N.Nodup) (hi : PDI X W tg iter f) (ok : BlkOk X.N X.env.scope scope own)
    (hg : ∀ (s : Shared) (H : Hp) (C : Addr) (cl : List (Str × Addr)) (fp : List Addr), PDG (X.blk s H scope (compEnvC scope cl C X.env) fp) tg ts a) (ht : ∀ (s : Shared) (H : Hp) (C : Addr) (cl : List (Str × Addr)) (fp : List Addr), PDTs (X.blk s H scope (compEnvC scope cl C X.env) fp) Wno ifs tt)
    (he : ∀ (s : Shared) (H : Hp) (C : Addr) (cl : List (Str × Addr)) (fp : List Addr), PD (X.blk s H scope (compEnvC scope cl C X.env) fp) Wno elt te) (hts : ∀ i, i ∈ ts → i ∈ own.map (·.2)) (hs : ∀ x, foldedSetIterable iter X.env x = pure x := by intro _; rfl) :
    PD X W (.ListComp elt [⟨tg, iter, ifs, 0⟩] scope pos) (eLc (own.map (·.2)) f a tt te) :=
  pe_imp (pe_lc hc hN hi ok hg ht he hs) fun _ _ _ => lc_of hts
theorem pds_setLc {i : Nat} {y : Str} {py : Pos} {elt tg iter : Expr} {ifs : List Expr} {scope : Scope} {own : List (Str × Nat)} {pos spos : Pos} {f : M (List D)} {a : G} {ts : List Nat} {tt : M Bool} {te : M RV} (hc : X.calm = true) (hN : X.N.Nodup) (hy : X.N[i]? = some y) (hyl : X.env.scope.names.lookup y = some .local)
    (hsw : swapsWith (.ListComp elt [⟨tg, iter, ifs, 0⟩] scope pos) (some (.Name y py)) spos.line X.env = pure true) (hi : PDI X W tg iter f) (ok : BlkOk X.N X.env.scope scope own)
    (hg : ∀ (s : Shared) (H : Hp) (C : Addr) (cl : List (Str × Addr)) (fp : List Addr), PDG (X.blk s H scope (compEnvC scope cl C X.env) fp) tg ts a) (ht : ∀ (s : Shared) (H : Hp) (C : Addr) (cl : List (Str × Addr)) (fp : List Addr), PDTs (X.blk s H scope (compEnvC scope cl C X.env) fp) Wno ifs tt)
    (he : ∀ (s : Shared) (H : Hp) (C : Addr) (cl : List (Str × Addr)) (fp : List Addr), PD (X.blk s H scope (compEnvC scope cl C X.env) fp) Wno elt te) (hts : ∀ i, i ∈ ts → i ∈ own.map (·.2)) (hs : ∀ x, foldedSetIterable iter X.env x = pure x := by intro _; rfl) :
    PDS X W (.Assign [.Name y py] (.ListComp elt [⟨tg, iter, ifs, 0⟩] scope pos) spos) (sSet i (eLc (own.map (·.2)) f a tt te)) :=
  ps_imp (ps_setLc hc hN hy hyl hsw hi ok hg ht he hs) fun Dn σ H ⟨F, e, R, h⟩ => lc_of hts (Q := fun x H1 => Dn.nx (σ.set i (some x)) H1) ⟨F, e, R, (set_of R h).imp fun r F1 e1 H1 p1 h1 v hv => by
    obtain ⟨F2, e2, p2, h2⟩ := h1 v hv
    exact h2 F2 _ H1 (.refl p2.rel)⟩
end
end Cw

/-! Cw, part G: defs and their calls. -/
namespace Cw
open PySem L2

inductive FR where
  | ok (r : Bool × D) (ms : List D)
  | exc (x : Xc) (ms : List D)
  | bad
/-- a def's mirror: the arguments' data; what it gives, and what the changed arguments hold then -/
abbrev Fn := List D → FR
def muA : List Bool → List V → List Addr
  | true :: ms, .ref p :: vs => p :: muA ms vs
  | _ :: ms, _ :: vs => muA ms vs
  | _, _ => []
def ArgOk (K : Fg) (B : Ad) (H : Hp) : List Bool → List V → List D → Prop
  | [], [], [] => True
  | false :: ms, v :: vs, d :: ds => Rp K B H v d ∧ ArgOk K B H ms vs ds
  | true :: ms, v :: vs, d :: ds => (∃ p, v = .ref p ∧ B p ∧ OwnAt K B H p d) ∧ ArgOk K B H ms vs ds
  | _, _, _ => False
def MuOk (K : Fg) (B : Ad) (H : Hp) : List Addr → List D → Prop
  | [], [] => True
  | p :: ps, d :: ds => OwnAt K B H p d ∧ MuOk K B H ps ds
  | _, _ => False
def FnEnd (K : Fg) (B : Ad) (H : Hp) (mu : List Addr) (Q : VK) (E : XK) : FR → Prop
  | .ok (false, d) ms => ∀ v H', Stp (· ∈ mu) H H' → Rp K B H' v d → MuOk K B H' mu ms → Q v H'
  | .ok (true, d) ms => ∀ p H', Stp (· ∈ mu) H H' → H p = none → OwnAt K (Bp B p) H' p d → MuOk K (Bp B p) H' mu ms → Q (.ref p) H'
  | .exc x ms => ∀ cls d H', Stp (· ∈ mu) H H' → XcOk K B H' cls d x → MuOk K B H' mu ms → E cls d H'
  | .bad => False
/-- the promise: the def does what F says -/
def spD (K : Fg) (modes : List Bool) (F : Fn) : Sp := fun vs H Q E =>
  ∃ B ds, ArgOk K B H modes vs ds ∧ (muA modes vs).Nodup ∧ (∀ a, B a → H a ≠ none) ∧ FnEnd K B H (muA modes vs) Q E (F ds)
theorem ArgOk.length {K : Fg} {B : Ad} {H : Hp} : ∀ {ms : List Bool} {vs : List V} {ds : List D}, ArgOk K B H ms vs ds → vs.length = ms.length ∧ ds.length = ms.length
  | [], [], [], _ => ⟨rfl, rfl⟩
  | false :: ms, v :: vs, d :: ds, h => by
    have := ArgOk.length h.2
    simp only [List.length_cons]; omega
  | true :: ms, v :: vs, d :: ds, h => by
    have := ArgOk.length h.2
    simp only [List.length_cons]; omega

/-! ### a body's mirror as a def's mirror -/
def initE : List Bool → List D → En
  | false :: ms, d :: ds => some (.sh, d) :: initE ms ds
  | true :: ms, d :: ds => some (.mu, d) :: initE ms ds
  | _, _ => []
/-- what the changed parameters hold -/
def muOf : List Bool → En → Option (List D)
  | [], _ => some []
  | false :: ms, _ :: e => muOf ms e
  | true :: ms, some (.mu, d) :: e => match muOf ms e with
    | some ds => some (d :: ds)
    | none => none
  | _, _ => none
def finR (modes : List Bool) : SR → FR
  | .nx e => match muOf modes e with
    | some ms => .ok (false, .non) ms
    | none => .bad
  | .rt (.sh d) e => match muOf modes e with
    | some ms => .ok (false, d) ms
    | none => .bad
  | .rt (.fr d) e => match muOf modes e with
    | some ms => .ok (true, d) ms
    | none => .bad
  | .rt (.sl i) e => match muOf modes e, getE e i with
    | some ms, some (.sh, d) => .ok (false, d) ms
    | some ms, some (.ow, d) => .ok (true, d) ms
    | _, _ => .bad
  | .exc x e => match muOf modes e with
    | some ms => .exc x ms
    | none => .bad
  | _ => .bad
def fnOf (n : Nat) (modes : List Bool) (g : S) : Fn := fun ds => finR modes (g (initE modes ds ++ List.replicate (n - modes.length) none))

section
variable {K : Fg} {B : Ad} {H : Hp}
theorem muA_mem_B : ∀ {ms : List Bool} {vs : List V} {ds : List D}, ArgOk K B H ms vs ds → ∀ p, p ∈ muA ms vs → B p
  | [], [], [], _, p, h => by cases h
  | false :: ms, v :: vs, d :: ds, ⟨_, h⟩, p, hp => by
    have : muA (false :: ms) (v :: vs) = muA ms vs := by cases v <;> rfl
    rw [this] at hp
    exact muA_mem_B h p hp
  | true :: ms, v :: vs, d :: ds, ⟨⟨q, e, b, _⟩, h⟩, p, hp => by
    subst e
    rcases List.mem_cons.mp hp with z | z
    · rw [z]; exact b
    · exact muA_mem_B h p z
/-- the slots at the entry -/
theorem init_get : ∀ {ms : List Bool} {vs : List V} {ds : List D}, ArgOk K B H ms vs ds → ∀ (k : Nat) i f d, getE (initE ms ds ++ List.replicate k none) i = some (f, d) →
    ∃ v, getS (vs.map some ++ List.replicate k none) i = some v ∧ ((f = .sh ∧ Rp K B H v d) ∨ (f = .mu ∧ ∃ p, v = .ref p ∧ p ∈ muA ms vs ∧ OwnAt K B H p d))
  | [], [], [], _, k, i, f, d, h => by
    exfalso
    have : ∀ (k i : Nat) (x : Fl × D), getE (List.replicate k none) i ≠ some x := by
      intro k
      induction k with
      | zero => intro i x h; cases h
      | succ k ih =>
        intro i x h
        cases i with
        | zero => cases h
        | succ i => exact ih i x h
    exact this k i _ h
  | false :: ms, v :: vs, d0 :: ds, ⟨r, hr⟩, k, 0, f, d, h => by
    cases h
    exact ⟨v, rfl, .inl ⟨rfl, r⟩⟩
  | true :: ms, v :: vs, d0 :: ds, ⟨⟨p, e, b, o⟩, hr⟩, k, 0, f, d, h => by
    cases h
    subst e
    exact ⟨_, rfl, .inr ⟨rfl, p, rfl, List.mem_cons_self .., o⟩⟩
  | false :: ms, v :: vs, d0 :: ds, ⟨r, hr⟩, k, i + 1, f, d, h => by
    obtain ⟨v', a, b⟩ := init_get hr k i f d h
    have em : muA (false :: ms) (v :: vs) = muA ms vs := by cases v <;> rfl
    exact ⟨v', a, by rw [em]; exact b⟩
  | true :: ms, v :: vs, d0 :: ds, ⟨⟨p, e, b, o⟩, hr⟩, k, i + 1, f, d, h => by
    subst e
    obtain ⟨v', a, c⟩ := init_get hr k i f d h
    refine ⟨v', a, c.imp id ?_⟩
    rintro ⟨f, q, e, m, o⟩
    exact ⟨f, q, e, List.mem_cons_of_mem _ m, o⟩
theorem init_len : ∀ {ms : List Bool} {vs : List V} {ds : List D}, ArgOk K B H ms vs ds → (initE ms ds).length = vs.length
  | [], [], [], _ => rfl
  | false :: ms, v :: vs, d :: ds, ⟨_, h⟩ => congrArg (· + 1) (init_len h)
  | true :: ms, v :: vs, d :: ds, ⟨_, h⟩ => congrArg (· + 1) (init_len h)
/-- the changed parameters' slots and addresses -/
def pinsOf : Nat → List Bool → List V → List (Nat × Addr)
  | i, true :: ms, .ref p :: vs => (i, p) :: pinsOf (i + 1) ms vs
  | i, _ :: ms, _ :: vs => pinsOf (i + 1) ms vs
  | _, _, _ => []
theorem pins_get : ∀ {ms : List Bool} {vs : List V} {ds : List D}, ArgOk K B H ms vs ds → ∀ (k j : Nat) q, q ∈ pinsOf j ms vs → j ≤ q.1 ∧ getS (vs.map some ++ List.replicate k none) (q.1 - j) = some (.ref q.2) ∧ ∃ d, getE (initE ms ds ++ List.replicate k none) (q.1 - j) = some (.mu, d)
  | [], [], [], _, k, j, q, h => by cases h
  | false :: ms, v :: vs, d :: ds, ⟨_, h⟩, k, j, q, hq => by
    have em : pinsOf j (false :: ms) (v :: vs) = pinsOf (j + 1) ms vs := by cases v <;> rfl
    rw [em] at hq
    obtain ⟨h1, h2, h3⟩ := pins_get h k (j + 1) q hq
    have e : q.1 - j = (q.1 - (j + 1)) + 1 := by omega
    rw [e]
    exact ⟨by omega, h2, h3⟩
  | true :: ms, v :: vs, d :: ds, ⟨⟨p, e, b, o⟩, h⟩, k, j, q, hq => by
    subst e
    rcases List.mem_cons.mp hq with z | z
    · subst z
      have e : j - j = 0 := by omega
      rw [show ((j, p) : Nat × Addr).1 = j from rfl, e]
      exact ⟨Nat.le_refl _, rfl, d, rfl⟩
    · obtain ⟨h1, h2, h3⟩ := pins_get h k (j + 1) q z
      have e : q.1 - j = (q.1 - (j + 1)) + 1 := by omega
      rw [e]
      exact ⟨by omega, h2, h3⟩
theorem pins_muA : ∀ {ms : List Bool} {vs : List V} {ds : List D}, ArgOk K B H ms vs ds → ∀ j, (pinsOf j ms vs).map (·.2) = muA ms vs
  | [], [], [], _, _ => rfl
  | false :: ms, v :: vs, d :: ds, ⟨_, h⟩, j => by
    have e1 : pinsOf j (false :: ms) (v :: vs) = pinsOf (j + 1) ms vs := by cases v <;> rfl
    have e2 : muA (false :: ms) (v :: vs) = muA ms vs := by cases v <;> rfl
    rw [e1, e2]; exact pins_muA h (j + 1)
  | true :: ms, v :: vs, d :: ds, ⟨⟨p, e, _⟩, h⟩, j => by
    subst e
    show p :: (pinsOf (j + 1) ms vs).map (·.2) = p :: muA ms vs
    rw [pins_muA h (j + 1)]
/-- what the pinned slots hold at the end -/
theorem mu_end {e : En} : ∀ {ms : List Bool} {vs : List V} {ds ds' : List D}, ArgOk K B H ms vs ds → ∀ (e : En), muOf ms e = some ds' → ∀ (B' : Ad) (H' : Hp),
    (∀ i p, (i, p) ∈ pinsOf 0 ms vs → ∀ d, getE e i = some (.mu, d) → OwnAt K B' H' p d) → MuOk K B' H' (muA ms vs) ds'
  | [], [], [], ds', _, e, hm, B', H', hp => by
    cases e <;> (cases hm; exact trivial)
  | false :: ms, v :: vs, d :: ds, ds', ⟨_, h⟩, e, hm, B', H', hp => by
    have e2 : muA (false :: ms) (v :: vs) = muA ms vs := by cases v <;> rfl
    have e1 : pinsOf 0 (false :: ms) (v :: vs) = pinsOf 1 ms vs := by cases v <;> rfl
    rw [e2]
    cases e with
    | nil => cases hm
    | cons x e =>
      refine mu_end (e := e) h e hm B' H' fun i p hi d q => hp (i + 1) p ?_ d q
      rw [e1]
      have sh : ∀ (ms : List Bool) (vs : List V) (j i : Nat) (p : Addr), (i, p) ∈ pinsOf j ms vs → (i + 1, p) ∈ pinsOf (j + 1) ms vs := by
        intro ms
        induction ms with
        | nil => intro vs j i p h; cases vs <;> cases h
        | cons m ms ih =>
          intro vs j i p h
          cases vs with
          | nil => cases m <;> cases h
          | cons v vs =>
            cases m with
            | false =>
              have a1 : pinsOf j (false :: ms) (v :: vs) = pinsOf (j + 1) ms vs := by cases v <;> rfl
              have a2 : pinsOf (j + 1) (false :: ms) (v :: vs) = pinsOf (j + 2) ms vs := by cases v <;> rfl
              rw [a1] at h; rw [a2]; exact ih vs _ _ _ h
            | true =>
              cases v with
              | ref q =>
                rcases List.mem_cons.mp h with z | z
                · cases z; exact List.mem_cons_self ..
                · exact List.mem_cons_of_mem _ (ih vs _ _ _ z)
              | _ => exact ih vs _ _ _ h
      exact sh ms vs 0 i p hi
  | true :: ms, v :: vs, d :: ds, ds', ⟨⟨p, ep, _⟩, h⟩, e, hm, B', H', hp => by
    subst ep
    cases e with
    | nil => cases hm
    | cons x e =>
      cases x with
      | none => cases hm
      | some x =>
        obtain ⟨f, d0⟩ := x
        cases f with
        | sh => cases hm
        | ow => cases hm
        | mu =>
          unfold muOf at hm
          cases w : muOf ms e with
          | none => simp only [w] at hm; cases hm
          | some dr =>
            simp only [w] at hm
            cases hm
            refine ⟨hp 0 p (List.mem_cons_self ..) d0 rfl, mu_end (e := e) h e w B' H' fun i p' hi d q => hp (i + 1) p' (List.mem_cons_of_mem _ ?_) d q⟩
            have sh : ∀ (ms : List Bool) (vs : List V) (j i : Nat) (p : Addr), (i, p) ∈ pinsOf j ms vs → (i + 1, p) ∈ pinsOf (j + 1) ms vs := by
              intro ms
              induction ms with
              | nil => intro vs j i p h; cases vs <;> cases h
              | cons m ms ih =>
                intro vs j i p h
                cases vs with
                | nil => cases m <;> cases h
                | cons v vs =>
                  cases m with
                  | false =>
                    have a1 : pinsOf j (false :: ms) (v :: vs) = pinsOf (j + 1) ms vs := by cases v <;> rfl
                    have a2 : pinsOf (j + 1) (false :: ms) (v :: vs) = pinsOf (j + 2) ms vs := by cases v <;> rfl
                    rw [a1] at h; rw [a2]; exact ih vs _ _ _ h
                  | true =>
                    cases v with
                    | ref q =>
                      rcases List.mem_cons.mp h with z | z
                      · cases z; exact List.mem_cons_self ..
                      · exact List.mem_cons_of_mem _ (ih vs _ _ _ z)
                    | _ => exact ih vs _ _ _ h
            exact sh ms vs 0 i p' hi
end
section
variable {K : Fg} {B : Ad} {H : Hp}
theorem init_dist : ∀ {ms : List Bool} {vs : List V} {ds : List D}, ArgOk K B H ms vs ds → (muA ms vs).Nodup → ∀ (k i j : Nat) (d d' : D) (p : Addr), getE (initE ms ds ++ List.replicate k none) i = some (.mu, d) → getE (initE ms ds ++ List.replicate k none) j = some (.mu, d') →
    getS (vs.map some ++ List.replicate k none) i = some (.ref p) → getS (vs.map some ++ List.replicate k none) j = some (.ref p) → i = j
  | [], [], [], h, nd, k, i, j, d, d', p, h1, h2, s1, s2 => by
    obtain ⟨v, _, q⟩ := init_get h k i _ _ h1
    rcases q with ⟨z, _⟩ | ⟨_, p, _, m, _⟩
    · cases z
    · cases m
  | false :: ms, v :: vs, d0 :: ds, ⟨r, hr⟩, nd, k, i, j, d, d', p, h1, h2, s1, s2 => by
    have em : muA (false :: ms) (v :: vs) = muA ms vs := by cases v <;> rfl
    rw [em] at nd
    cases i with
    | zero => cases h1
    | succ i =>
      cases j with
      | zero => cases h2
      | succ j => exact congrArg (· + 1) (init_dist hr nd k i j d d' p h1 h2 s1 s2)
  | true :: ms, v :: vs, d0 :: ds, ⟨⟨q, e, b, o⟩, hr⟩, nd, k, i, j, d, d', p, h1, h2, s1, s2 => by
    subst e
    obtain ⟨n1, n2⟩ := List.nodup_cons.mp nd
    have key : ∀ (j : Nat) (d' : D), getE (initE ms ds ++ List.replicate k none) j = some (.mu, d') → getS (vs.map some ++ List.replicate k none) j ≠ some (.ref q) := fun j d' h2 s2 => by
      obtain ⟨v', a, c⟩ := init_get hr k j _ _ h2
      rcases c with ⟨z, _⟩ | ⟨_, p', e', m, _⟩
      · cases z
      · rw [s2] at a; cases a
        cases e'
        exact n1 m
    cases i with
    | zero =>
      cases s1
      cases j with
      | zero => rfl
      | succ j => exact absurd s2 (key j d' h2)
    | succ i =>
      cases j with
      | zero => cases s2; exact absurd s1 (key i d h1)
      | succ j => exact congrArg (· + 1) (init_dist hr n2 k i j d d' p h1 h2 s1 s2)
theorem own_init {ms : List Bool} {vs : List V} {ds : List D} (h : ArgOk K B H ms vs ds) (k : Nat) (a : Addr) : Own (vs.map some ++ List.replicate k none) (initE ms ds ++ List.replicate k none) a ↔ a ∈ muA ms vs := by
  constructor
  · rintro ⟨i, f, d, q, n, s⟩
    obtain ⟨v, b, c⟩ := init_get h k i f d q
    rcases c with ⟨z, _⟩ | ⟨_, p, e, m, _⟩
    · exact absurd z n
    · rw [s] at b; cases b
      cases e; exact m
  · intro hm
    rw [← pins_muA h 0] at hm
    obtain ⟨q, hq, e⟩ := List.mem_map.mp hm
    obtain ⟨_, h2, d, h3⟩ := pins_get h k 0 q hq
    exact ⟨_, .mu, d, h3, by decide, e ▸ h2⟩
theorem rel_init {ms : List Bool} {vs : List V} {ds : List D} (h : ArgOk K B H ms vs ds) (nd : (muA ms vs).Nodup) (tr : ∀ a, B a → H a ≠ none) (k : Nat) :
    Rel K ⟨fun a => B a ∧ a ∉ muA ms vs, pinsOf 0 ms vs⟩ (vs.map some ++ List.replicate k none) H (initE ms ds ++ List.replicate k none) := by
  have bd : ∀ a, Bd ⟨fun a => B a ∧ a ∉ muA ms vs, pinsOf 0 ms vs⟩ (vs.map some ++ List.replicate k none) (initE ms ds ++ List.replicate k none) a → B a := fun a z => by
    rcases z with z | z
    · exact z.1
    · exact muA_mem_B h a ((own_init h k a).mp z)
  refine ⟨by rw [List.length_append, List.length_append, List.length_map, init_len h, List.length_replicate, List.length_replicate], fun i d q => ?_, fun i f d q n => ?_, fun i j f g d d' p q1 n1 q2 n2 s1 s2 => ?_, fun a z => ⟨fun w => z.2 ((own_init h k a).mp w), tr a z.1⟩, fun q hq => ?_⟩
  · obtain ⟨v, a, c⟩ := init_get h k i _ d q
    rcases c with ⟨_, r⟩ | ⟨z, _⟩
    · exact ⟨v, a, r.anti bd⟩
    · cases z
  · obtain ⟨v, a, c⟩ := init_get h k i f d q
    rcases c with ⟨z, _⟩ | ⟨_, p, e, m, o⟩
    · exact absurd z n
    · exact ⟨p, e ▸ a, o.anti bd⟩
  · have m1 : f = .mu := by
      obtain ⟨v, a, c⟩ := init_get h k i f d q1
      rcases c with ⟨z, _⟩ | ⟨z, _⟩
      · exact absurd z n1
      · exact z
    have m2 : g = .mu := by
      obtain ⟨v, a, c⟩ := init_get h k j g d' q2
      rcases c with ⟨z, _⟩ | ⟨z, _⟩
      · exact absurd z n2
      · exact z
    subst m1 m2
    exact init_dist h nd k i j d d' p q1 q2 s1 s2
  · obtain ⟨_, h2, h3⟩ := pins_get h k 0 q hq
    exact ⟨h2, h3⟩
/-- from the promise to the body -/
theorem body_of {W : Wx} {E : XK} {modes : List Bool} {g : S} {n : Nat} {vs : List V} {Q : VK} (hW : ∀ cls d σ H, E cls d H → W cls d σ H) (hsp : spD K modes (fnOf n modes g) vs H Q E) :
    tS W K g { nx := fun _ H' => Q .non H', rt := Q } (vs.map some ++ List.replicate (n - vs.length) none) H := by
  obtain ⟨B, ds, ha, nd, tr, fe⟩ := hsp
  have hl := ha.length
  unfold fnOf at fe
  rw [← hl.1] at fe
  have R := rel_init ha nd tr (n - vs.length)
  refine ⟨_, _, R, ?_⟩
  -- what the end gives
  have mu : ∀ {F' σ' H' e' ms}, Post K ⟨fun a => B a ∧ a ∉ muA modes vs, pinsOf 0 modes vs⟩ (vs.map some ++ List.replicate (n - vs.length) none) H (initE modes ds ++ List.replicate (n - vs.length) none) F' σ' H' e' → muOf modes e' = some ms → ∀ B' : Ad, (∀ a, B' a → Bd F' σ' e' a) → MuOk K B' H' (muA modes vs) ms := fun {F' σ' H' e' ms} p hm B' hb => by
    refine mu_end (e := e') ha e' hm B' H' fun i q hq d hd => ?_
    have hq' : (i, q) ∈ F'.pn := by rw [p.le.pn]; exact hq
    obtain ⟨s1, _⟩ := p.rel.pin _ hq'
    obtain ⟨q', s2, o⟩ := p.rel.own i .mu d hd (by decide)
    rw [s1] at s2; cases s2
    exact o.anti hb
  have bb : ∀ {F' σ' H' e'}, Post K ⟨fun a => B a ∧ a ∉ muA modes vs, pinsOf 0 modes vs⟩ (vs.map some ++ List.replicate (n - vs.length) none) H (initE modes ds ++ List.replicate (n - vs.length) none) F' σ' H' e' → ∀ a, B a → Bd F' σ' e' a := fun {F' σ' H' e'} p a ba => by
    by_cases hm : a ∈ muA modes vs
    · rw [← pins_muA ha 0] at hm
      obtain ⟨q, hq, e⟩ := List.mem_map.mp hm
      have hq' : q ∈ F'.pn := by rw [p.le.pn]; exact hq
      obtain ⟨s1, d, h1⟩ := p.rel.pin q hq'
      exact .inr ⟨q.1, .mu, d, h1, by decide, e ▸ s1⟩
    · exact .inl (p.le.up a ⟨ba, hm⟩)
  have stp : ∀ {F' σ' H' e'}, Post K ⟨fun a => B a ∧ a ∉ muA modes vs, pinsOf 0 modes vs⟩ (vs.map some ++ List.replicate (n - vs.length) none) H (initE modes ds ++ List.replicate (n - vs.length) none) F' σ' H' e' → Stp (· ∈ muA modes vs) H H' := fun {F' σ' H' e'} p =>
    ⟨fun a o q na => p.stp.keep a o q fun z => na ((own_init ha _ a).mp z), p.stp.back⟩
  cases w : g (initE modes ds ++ List.replicate (n - vs.length) none) with
  | bad => rw [w] at fe; exact fe
  | bk e' => rw [w] at fe; exact fe.elim
  | ct e' => rw [w] at fe; exact fe.elim
  | nx e' =>
    rw [w] at fe
    intro F' σ' H' p
    unfold finR at fe
    cases hm : muOf modes e' with
    | none => simp only [hm] at fe; exact fe.elim
    | some ms => simp only [hm] at fe; exact fe _ H' (stp p) .non (mu p hm B (bb p))
  | exc x e' =>
    rw [w] at fe
    intro cls d F' σ' H' p hx
    unfold finR at fe
    cases hm : muOf modes e' with
    | none => simp only [hm] at fe; exact fe.elim
    | some ms =>
      simp only [hm] at fe
      refine hW _ _ _ _ (fe cls d H' (stp p) ⟨hx.1, ?_⟩ (mu p hm B (bb p)))
      have h2 := hx.2
      cases hf : x.fs with
      | nil => trivial
      | cons y ys =>
        rw [hf] at h2
        obtain ⟨a, vs', e1, e2, r⟩ := h2
        exact ⟨a, vs', e1, e2, r.step (fun _ _ q _ => q) fun a z => .inl (bb p a z)⟩
  | rt r e' =>
    rw [w] at fe
    intro F' σ' H' v p hv
    unfold finR at fe
    have fre : ∀ (q : Addr) (d : D) (ms : List D), muOf modes e' = some ms → FnEnd K B H (muA modes vs) Q E (.ok (true, d) ms) → Bd F' σ' e' q → H q = none → OwnAt K (Bd F' σ' e') H' q d → Q (.ref q) H' := fun q d ms hm fe bq nq o => by
      have b2 : ∀ a, Bp B q a → Bd F' σ' e' a := fun a z => z.elim (bb p a) fun z => by rw [z]; exact bq
      exact fe q H' (stp p) nq (o.anti b2) (mu p hm _ b2)
    cases r with
    | sh d =>
      simp only at fe
      cases hm : muOf modes e' with
      | none => simp only [hm] at fe; exact fe.elim
      | some ms => simp only [hm] at fe; exact fe v H' (stp p) (Rp.anti hv (bb p)) (mu p hm B (bb p))
    | fr d =>
      simp only at fe
      cases hm : muOf modes e' with
      | none => simp only [hm] at fe; exact fe.elim
      | some ms =>
        simp only [hm] at fe
        obtain ⟨q, rfl, nq, fq, o⟩ := hv
        exact fre q d ms hm fe (.inl fq) nq o
    | sl i =>
      simp only at fe
      cases hm : muOf modes e' with
      | none => simp only [hm] at fe; exact fe.elim
      | some ms =>
        cases hg : getE e' i with
        | none => simp only [hm, hg] at fe; exact fe.elim
        | some y =>
          obtain ⟨f, d⟩ := y
          cases f with
          | mu => simp only [hm, hg] at fe; exact fe.elim
          | sh =>
            simp only [hm, hg] at fe
            obtain ⟨v', s1, r1⟩ := p.rel.val i d hg
            have s1 := (show getS σ' i = some v from hv).symm.trans s1
            cases s1
            exact fe v H' (stp p) (r1.anti (bb p)) (mu p hm B (bb p))
          | ow =>
            simp only [hm, hg] at fe
            obtain ⟨q, s1, o⟩ := p.rel.own i .ow d hg (by decide)
            have s2 := (show getS σ' i = some v from hv).symm.trans s1
            cases s2
            have oq : Own σ' e' q := ⟨i, .ow, d, hg, by decide, s1⟩
            have nq : H q = none := by
              rcases p.ow q oq with z | z
              · exfalso
                have hmq := (own_init ha _ q).mp z
                rw [← pins_muA ha 0] at hmq
                obtain ⟨u, hu, e⟩ := List.mem_map.mp hmq
                have hu' : u ∈ F'.pn := by rw [p.le.pn]; exact hu
                obtain ⟨s3, d3, h3⟩ := p.rel.pin u hu'
                have := p.rel.dist i u.1 .ow .mu d d3 q hg (by decide) h3 (by decide) s1 (e ▸ s3)
                rw [← this, hg] at h3
                cases h3
              · exact z
            exact fre q d ms hm fe (.inr oq) nq o
end
/-- no exception -/
def noX (F : Fn) : Fn := fun ds => match F ds with
  | .exc _ _ => .bad
  | r => r
/-- as the layer's promise of a def, where no repr is under way -/
structure FnG (P : Program) (w : World) (K : Fg) (mg : Str → Option Value) (base : Heap) (CX : CXT) (k : Nat) (f : Addr) (fd : FuncData) (ps : List Str) (sp : Sp) : Prop where
  len : ∀ vs H Q E, sp vs H Q E → vs.length = ps.length
  run : ∀ (A : Around) (outer : List PySem.Env) (s : Shared) (H : Hp) (args : Args) (us : List Value) (vs : List V) (Q : VK) (E : XK), Room k A → A.guards = some [] →
    Env0 P w K mg base A outer s H → BindsTo s fd args (ps.zip us) → Vals vs us → sp vs H Q E → codeAny (model P w) A (.call (.ref f) args) (CR CX outer P w H s Q E) s
theorem FnG.mono {P : Program} {w : World} {K : Fg} {mg : Str → Option Value} {base : Heap} {CX : CXT} {j k : Nat} {f : Addr} {fd : FuncData} {ps : List Str} {sp : Sp} (F : FnG P w K mg base CX j f fd ps sp) (h : j ≤ k) : FnG P w K mg base CX k f fd ps sp :=
  ⟨F.len, fun A o s H a us vs Q E hr => F.run A o s H a us vs Q E (hr.mono h)⟩
/-- a def by its body -/
theorem FnG.of {CX : CXT} {P : Program} {w : World} {K : Fg} {mg : Str → Option Value} {base : Heap} {x qual : Str} {st : Stmt} {f : Addr} {fd : FuncData} {N ps : List Str} {k : Nat} {sp : Sp} (F : Fun K x qual st f fd) (Sc : FnScope N ps (defScope st))
    (len : ∀ vs H Q E, sp vs H Q E → vs.length = ps.length)
    (bod : ∀ (cdv : Value) (A : Around) (outer : List PySem.Env) (s : Shared) (H : Hp) (vs : List V) (Q : VK) (E : XK), Room k (A.deeper (PyProof.Rows.envOfC qual (defScope st) s.heap.objs.size f cdv)) → A.guards = some [] → sp vs H Q E →
      ∃ t, PSs (cxOf CX P w K mg base N qual (defScope st) f cdv A outer s H E) (defBody st) t ∧ t { nx := fun _ H' => Q .non H', rt := Q } (start N vs) H) :
    FnG P w K mg base CX (k + 1) f fd ps sp := by
  obtain ⟨oc, od, kV, doc, pm, an, cdv, ct, osl, rfl, lk, hcd⟩ := F.ex
  constructor
  · exact len
  intro A outer s H args us vs Q E hr hgd e0 hb r hsp
  have lenv := len _ _ _ _ hsp
  have inK : K.In s.heap := e0.mod.kin.keeps (fun b o e => (e0.bs b o e).1)
  have noL : s.heap.NoLimit := e0.mod.nolimit.keeps (fun b o e => (e0.bs b o e).1)
  refine PySem.codeAny_call_function hr.depth (inK _ _ lk) rfl Sc.co Sc.gen rfl (PySem.W.codeRec_of inK hcd) (hb _ _ _ _ ?_)
  apply PySem.wpAny_newFunctionEnv_cells Sc.kind
  · rintro ⟨n, v⟩ hy
    cases Sc.par n (List.of_mem_zip hy).1 with
    | inl q => exact Or.inl q
    | inr q => exact Or.inr ⟨q, PySem.W.cellsFrom_some _ _ _ (.inl q)⟩
  intro env he s1 x
  subst he
  constructor
  · exact noL.keeps x.toInCall.keep
  apply PySem.codeAny_func
  obtain ⟨t, ht, hq⟩ := bod cdv A outer s H vs Q E (hr.deeper _) hgd hsp
  have I := inv_start (CX := CX) (E := E) Sc hr.hd e0 lenv r x
  apply wpAny_mono (ht.run [] s1 (start N vs) H _ I hq) _ (fun e s' z => z)
  intro fl s' z
  match fl, z with
  | .ret u, ⟨v, σ', H', J, rv, q⟩ => exact ⟨v, H', J.os, J.bare, J.base, J.hok, rv, q⟩
  | .next, ⟨σ', H', J, q⟩ => exact ⟨.non, H', J.os, J.bare, J.base, J.hok, rfl, q⟩
  | .brk, ⟨_, _, _, q⟩ => exact q.elim
  | .cont, ⟨_, _, _, q⟩ => exact q.elim
/-- a def that lets no exception out -/
theorem fn_ok {P : Program} {w : World} {K : Fg} {mg : Str → Option Value} {base : Heap} {x qual : Str} {st : Stmt} {f : Addr} {fd : FuncData} {N ps : List Str} {k : Nat} {g : S} (F : Fun K x qual st f fd) (Sc : FnScope N ps (defScope st)) (modes : List Bool) (hl : modes.length = ps.length)
    (hb : ∀ (cdv : Value) (A : Around) (outer : List PySem.Env) (s : Shared) (H : Hp) (E : XK), Room k (A.deeper (PyProof.Rows.envOfC qual (defScope st) s.heap.objs.size f cdv)) → A.guards = some [] → PDB (cxOf CX0 P w K mg base N qual (defScope st) f cdv A outer s H E).nox Wno (defBody st) g) :
    FnG P w K mg base CX0 (k + 1) f fd ps (spD K modes (noX (fnOf N.length modes g))) := by
  refine FnG.of F Sc (fun vs H Q E h => ?_) (fun cdv A outer s H vs Q E hr hg h => ⟨_, (hb cdv A outer s H E hr hg).nox, ?_⟩)
  · obtain ⟨B, ds, ha, _⟩ := h
    rw [ha.length.1, hl]
  · obtain ⟨B, ds, ha, nd, tr, fe⟩ := h
    have fe : FnEnd K B H (muA modes vs) Q E (noX (fnOf N.length modes g) ds) := fe
    have h2 : spD K modes (fnOf N.length modes g) vs H Q E0 := ⟨B, ds, ha, nd, tr, by
      unfold noX at fe
      cases q : fnOf N.length modes g ds with
      | bad => rw [q] at fe; exact fe
      | ok r ms => rw [q] at fe; obtain ⟨b, d⟩ := r; cases b <;> exact fe
      | exc x ms => rw [q] at fe; exact fe.elim⟩
    exact body_of (K := K) (E := E0) (fun _ _ _ _ z => z) h2
/-- the callee runs -/
theorem runG {X : Cx} {CX : CXT} {k : Nat} {f : Addr} {fd : FuncData} {ps : List Str} {sp : Sp} {E : XK} {pins : List (Addr × Obj)} {σ : St} {H : Hp} {s : Shared} {Q : VK} {us ws : List Value} {vs xs : List V} (F : FnG X.prog X.w X.K X.mg X.base CX k f fd ps sp) (hr : Room k X.A) (hgd : X.A.guards = some []) (hb : Binds X.K fd ps ws)
    (hd : Vals xs ws) (hx : Passes CX X E) (I : Inv X pins σ H s) (r : Vals vs us) (h : sp (vs ++ xs) H Q E) : wpAny (model X.prog X.w) X.A (call (.ref f) us) (EP X pins σ Q) X.xe s := by
  have r2 := Vals.append r hd
  have hl : (us ++ ws).length = ps.length := r2.length.symm.trans (F.len _ _ _ _ h)
  apply PySem.wpAny_call
  apply codeAny_mono (F.run X.A X.stack s H ⟨us, []⟩ (us ++ ws) (vs ++ xs) Q E hr hgd I.env0 (hb s us I.kIn hl) r2 h)
  intro res s' z
  match res, z with
  | .error e, z => exact hx pins σ H s e s' I z
  | .ok (.ret u), z => exact I.after z
end Cw

/-! Cw, part H: calls of defs, making of instances, methods, fields. -/
namespace Cw
open PySem L2

/-! ### arguments: kept as they are (a slot that is handed on), or shared -/
def kCons (f : M RV) (fs : M (List RV)) : M (List RV) := M.bind f fun r => M.bind fs fun rs => M.ret (r :: rs)
def sCons (f : M RV) (fs : M (List RV)) : M (List RV) := M.bind (M.bind f M.esc) fun d => M.bind fs fun rs => M.ret (.sh d :: rs)
section
variable {X : Cx} {W : Wx} {a : Expr} {f : M RV} {es : List Expr} {fs : M (List RV)}
theorem pda_keep (ha : PD X W a f) (hr : PDA X W es fs) (hs : starEach (a :: es) X.env = (false, eval a X.env) :: starEach es X.env := by rfl) : PDA X W (a :: es) (kCons f fs) :=
  pa_imp (pa_cons ha hr hs) fun σ H Q ⟨F, e, R, h⟩ => ⟨F, e, R, h.bind.imp fun r F1 e1 H1 p1 h1 v hv => ⟨F1, e1, p1.rel, h1.bind.imp fun rs F2 e2 H2 p2 h2 vs hvs => Aft.ret p2.rel h2 (v :: vs) ⟨hv.post p1.rel p2, hvs.back p1.stp.back⟩⟩⟩
theorem pda_esc (ha : PD X W a f) (hr : PDA X W es fs) (hs : starEach (a :: es) X.env = (false, eval a X.env) :: starEach es X.env := by rfl) : PDA X W (a :: es) (sCons f fs) :=
  pa_imp (pa_cons ha hr hs) fun σ H Q ⟨F, e, R, h⟩ => ⟨F, e, R, esc_of R (k := fun d F1 e1 H1 => Rel X.K F1 σ H1 e1 ∧ (∀ a, H1 a = none → H a = none) ∧ Aft W X.K F1 σ H1 e1 (fun rs F' e' H' => ∀ vs, HeldL X.K F' σ H H' e' vs rs → Q vs H') ((M.bind fs fun rs => M.ret (.sh d :: rs)) e1))
    (fun d F1 e1 H1 v ⟨R1, bk, h1⟩ hv => ⟨F1, e1, R1, h1.bind.imp fun rs F2 e2 H2 p2 h2 vs hvs => Aft.ret p2.rel h2 (v :: vs) (show HeldL X.K F2 σ H H2 e2 (v :: vs) (.sh d :: rs) from ⟨Rp.post hv p2, hvs.back bk⟩)⟩)
    (h.bind.imp fun r F1 e1 H1 p1 h1 => ⟨p1.rel, p1.stp.back, h1⟩)⟩
end

/-! ### the slots of changed arguments -/
def gather : List Bool → List RV → En → Option (List D)
  | [], [], _ => some []
  | false :: ms, .sh d :: rs, e => match gather ms rs e with
    | some ds => some (d :: ds)
    | none => none
  | true :: ms, .sl i :: rs, e => match getE e i with
    | some (.sh, _) => none
    | some (_, d) => (match gather ms rs e with
      | some ds => some (d :: ds)
      | none => none)
    | none => none
  | _, _, _ => none
def muI : List Bool → List RV → List Nat
  | true :: ms, .sl i :: rs => i :: muI ms rs
  | _ :: ms, _ :: rs => muI ms rs
  | _, _ => []
def scatter : List Nat → List D → En → Option En
  | [], [], e => some e
  | i :: is, d :: ds, e => match getE e i with
    | some (f, _) => scatter is ds (e.set i (some (f, d)))
    | none => none
  | _, _, _ => none
def callM (modes : List Bool) (F : Fn) (rs : List RV) : M RV := fun e =>
  if (muI modes rs).Nodup then (match gather modes rs e with
    | none => .bad
    | some ds => match F ds with
      | .ok r ms => (match scatter (muI modes rs) ms e with
        | some e' => .ok (toRV r) e'
        | none => .bad)
      | _ => .bad) else .bad
def eCall (modes : List Bool) (F : Fn) (fs : M (List RV)) : M RV := M.bind fs (callM modes F)

section
variable {K : Fg} {F F2 : Fx} {σ : St} {H H' H0 : Hp} {e e2 : En}
theorem scatter_spec : ∀ {is : List Nat} {ds : List D} {e e2 : En}, is.Nodup → scatter is ds e = some e2 → e2.length = e.length ∧ is.length = ds.length ∧
    (∀ j f d, getE e2 j = some (f, d) → (∃ k : Nat, is[k]? = some j ∧ ds[k]? = some d ∧ ∃ d0, getE e j = some (f, d0)) ∨ (j ∉ is ∧ getE e j = some (f, d))) ∧ ∀ j f d0, getE e j = some (f, d0) → ∃ d, getE e2 j = some (f, d)
  | [], [], e, e2, _, h => by
    cases h
    exact ⟨rfl, rfl, fun j f d q => .inr ⟨by simp, q⟩, fun j f d0 q => ⟨d0, q⟩⟩
  | [], _ :: _, _, _, _, h => by cases h
  | _ :: _, [], _, _, _, h => by cases h
  | i :: is, d :: ds, e, e2, nd, h => by
    unfold scatter at h
    obtain ⟨n1, n2⟩ := List.nodup_cons.mp nd
    cases w : getE e i with
    | none => simp only [w] at h; cases h
    | some y =>
      obtain ⟨f0, d00⟩ := y
      simp only [w] at h
      obtain ⟨h1, h2, h3, h4⟩ := scatter_spec n2 h
      have hi := getE_lt w
      refine ⟨by rw [h1, List.length_set], by simp [h2], fun j f d' q => ?_, fun j f d0 q => ?_⟩
      · rcases h3 j f d' q with ⟨k, a, b, c⟩ | ⟨a, b⟩
        · left
          refine ⟨k + 1, by simpa using a, by simpa using b, ?_⟩
          obtain ⟨d0, c⟩ := c
          have hij : i ≠ j := fun z => n1 (z ▸ List.mem_of_getElem? a)
          rw [getE_set_ne hij] at c
          exact ⟨d0, c⟩
        · by_cases hij : i = j
          · subst hij
            rw [getE_set_same hi] at b
            cases b
            exact .inl ⟨0, rfl, rfl, d00, w⟩
          · rw [getE_set_ne hij] at b
            exact .inr ⟨by simp only [List.mem_cons, not_or]; exact ⟨fun z => hij z.symm, a⟩, b⟩
      · by_cases hij : i = j
        · subst hij
          rw [w] at q; cases q
          exact h4 i f0 d (getE_set_same hi)
        · exact h4 j f d0 (by rw [getE_set_ne hij]; exact q)
theorem Rel.reown (R : Rel K F σ H e) (hl : e2.length = e.length) (hfl : ∀ i f d, getE e2 i = some (f, d) → ∃ d0, getE e i = some (f, d0) ∧ (f = .sh → d = d0)) (hbk : ∀ i f d0, getE e i = some (f, d0) → ∃ d, getE e2 i = some (f, d))
    (hk1 : ∀ a o, H a = some o → ¬ Bd F σ e a → H' a = some o) (hk2 : ∀ a, Bd F2 σ e a → Bd F σ e a ∨ H a = none) (hown : ∀ i f d p, getE e2 i = some (f, d) → f ≠ .sh → getS σ i = some (.ref p) → OwnAt K (Bd F2 σ e) H' p d)
    (hext : ∀ a, F2.bx a → ¬ Own σ e a ∧ H' a ≠ none) (hpn : F2.pn = F.pn) : Rel K F2 σ H' e2 ∧ ∀ a, Own σ e2 a ↔ Own σ e a := by
  have ow : ∀ a, Own σ e2 a ↔ Own σ e a := fun a => ⟨fun ⟨i, f, d, q, n, s⟩ => let ⟨d0, q0, _⟩ := hfl i f d q; ⟨i, f, d0, q0, n, s⟩, fun ⟨i, f, d, q, n, s⟩ => let ⟨d1, q1⟩ := hbk i f d q; ⟨i, f, d1, q1, n, s⟩⟩
  have bd : ∀ a, Bd F2 σ e2 a → Bd F2 σ e a := fun a z => z.elim .inl fun z => .inr ((ow a).mp z)
  refine ⟨⟨by rw [hl]; exact R.len, fun i d q => ?_, fun i f d q n => ?_, fun i j f g d d' p q1 n1 q2 n2 s1 s2 => ?_, fun a z => ⟨fun w => (hext a z).1 ((ow a).mp w), (hext a z).2⟩, fun q hq => ?_⟩, ow⟩
  · obtain ⟨d0, q0, e0⟩ := hfl i _ d q
    obtain ⟨v, a, b⟩ := R.val i d0 q0
    exact ⟨v, a, e0 rfl ▸ (b.step hk1 fun a z => hk2 a (bd a z))⟩
  · obtain ⟨d0, q0, _⟩ := hfl i f d q
    obtain ⟨p, a, _⟩ := R.own i f d0 q0 n
    exact ⟨p, a, (hown i f d p q n a).anti bd⟩
  · obtain ⟨d1, q1, _⟩ := hfl i f d q1
    obtain ⟨d2, q2, _⟩ := hfl j g d' q2
    exact R.dist i j f g d1 d2 p q1 n1 q2 n2 s1 s2
  · rw [hpn] at hq
    obtain ⟨a, d, b⟩ := R.pin q hq
    exact ⟨a, hbk _ _ d b⟩
/-- the arguments as the promise wants them -/
theorem arg_ok (R : Rel K F σ H e) : ∀ {modes : List Bool} {vs : List V} {rs : List RV} {ds : List D}, HeldL K F σ H0 H e vs rs → gather modes rs e = some ds → ArgOk K (Bd F σ e) H modes vs ds
  | [], [], [], ds, h, q => by cases q; exact trivial
  | [], _ :: _, [], ds, h, q => h.elim
  | [], _, _ :: _, ds, h, q => by cases q
  | false :: ms, v :: vs, .sh d :: rs, ds, h, q => by
    unfold gather at q
    cases w : gather ms rs e with
    | none => simp only [w] at q; cases q
    | some dr => simp only [w] at q; cases q; exact ⟨h.1, arg_ok R h.2 w⟩
  | true :: ms, v :: vs, .sl i :: rs, ds, h, q => by
    unfold gather at q
    cases g : getE e i with
    | none => simp only [g] at q; cases q
    | some y =>
      obtain ⟨f, d⟩ := y
      have own : f ≠ .sh → (∃ p, v = .ref p ∧ Bd F σ e p ∧ OwnAt K (Bd F σ e) H p d) := fun n => by
        obtain ⟨p, s, o⟩ := R.own i f d g n
        have hv := (show getS σ i = some v from h.1).symm.trans s
        cases hv
        exact ⟨p, rfl, .inr ⟨i, f, d, g, n, s⟩, o⟩
      cases w : gather ms rs e with
      | none => cases f <;> simp only [g, w] at q <;> cases q
      | some dr =>
        cases f with
        | sh => simp only [g] at q; cases q
        | ow => simp only [g, w] at q; cases q; exact ⟨own (by decide), arg_ok R h.2 w⟩
        | mu => simp only [g, w] at q; cases q; exact ⟨own (by decide), arg_ok R h.2 w⟩
  | _ :: _, [], rs, ds, h, q => by
    cases rs with
    | nil => rename_i b _; cases b <;> cases q
    | cons _ _ => exact h.elim
  | false :: _, _, [], ds, h, q => by cases q
  | true :: _, _, [], ds, h, q => by cases q
  | false :: _, _, .fr _ :: _, ds, h, q => by cases q
  | false :: _, _, .sl _ :: _, ds, h, q => by cases q
  | true :: _, _, .sh _ :: _, ds, h, q => by cases q
  | true :: _, _, .fr _ :: _, ds, h, q => by cases q
/-- the addresses of the changed arguments, by their slots -/
theorem muA_at : ∀ {modes : List Bool} {vs : List V} {rs : List RV} {ds : List D}, Rel K F σ H e → HeldL K F σ H0 H e vs rs → gather modes rs e = some ds →
    (muA modes vs).length = (muI modes rs).length ∧ ∀ (k i : Nat), (muI modes rs)[k]? = some i → ∃ p f d, (muA modes vs)[k]? = some p ∧ getS σ i = some (.ref p) ∧ getE e i = some (f, d) ∧ f ≠ .sh
  | [], [], [], ds, R, h, q => ⟨rfl, fun k i z => by cases z⟩
  | [], _ :: _, [], ds, R, h, q => h.elim
  | [], _, _ :: _, ds, R, h, q => by cases q
  | false :: ms, v :: vs, .sh d :: rs, ds, R, h, q => by
    unfold gather at q
    cases w : gather ms rs e with
    | none => simp only [w] at q; cases q
    | some dr =>
      have e1 : muA (false :: ms) (v :: vs) = muA ms vs := by cases v <;> rfl
      rw [e1]
      exact muA_at R h.2 w
  | true :: ms, v :: vs, .sl i :: rs, ds, R, h, q => by
    unfold gather at q
    cases g : getE e i with
    | none => simp only [g] at q; cases q
    | some y =>
      obtain ⟨f, d⟩ := y
      cases w : gather ms rs e with
      | none => cases f <;> simp only [g, w] at q <;> cases q
      | some dr =>
        have n : f ≠ .sh := fun z => by subst z; simp only [g] at q; cases q
        obtain ⟨p, s, o⟩ := R.own i f d g n
        have hv := (show getS σ i = some v from h.1).symm.trans s
        cases hv
        obtain ⟨l1, l2⟩ := muA_at R h.2 w
        refine ⟨congrArg (· + 1) l1, fun k j z => ?_⟩
        cases k with
        | zero => cases z; exact ⟨p, f, d, rfl, s, g, n⟩
        | succ k => exact l2 k j z
  | _ :: _, [], rs, ds, R, h, q => by
    cases rs with
    | nil => rename_i b _; cases b <;> cases q
    | cons _ _ => exact h.elim
  | false :: _, _, [], ds, R, h, q => by cases q
  | true :: _, _, [], ds, R, h, q => by cases q
  | false :: _, _, .fr _ :: _, ds, R, h, q => by cases q
  | false :: _, _, .sl _ :: _, ds, R, h, q => by cases q
  | true :: _, _, .sh _ :: _, ds, R, h, q => by cases q
  | true :: _, _, .fr _ :: _, ds, R, h, q => by cases q
theorem MuOk.at {B : Ad} : ∀ {ps : List Addr} {ds : List D}, MuOk K B H ps ds → ∀ (k : Nat) (p : Addr) (d : D), ps[k]? = some p → ds[k]? = some d → OwnAt K B H p d
  | [], [], _, k, p, d, h, _ => by cases h
  | q :: ps, x :: ds, h, 0, p, d, h1, h2 => by cases h1; cases h2; exact h.1
  | q :: ps, x :: ds, h, k + 1, p, d, h1, h2 => MuOk.at h.2 k p d h1 h2
  | [], _ :: _, h, _, _, _, _, _ => h.elim
  | _ :: _, [], h, _, _, _, _, _ => h.elim
theorem MuOk.anti {B B' : Ad} (k : ∀ a, B' a → B a) : ∀ {ps : List Addr} {ds : List D}, MuOk K B H ps ds → MuOk K B' H ps ds
  | [], [], _ => trivial
  | _ :: _, _ :: _, h => ⟨h.1.anti k, MuOk.anti k h.2⟩
  | [], _ :: _, h => h.elim
  | _ :: _, [], h => h.elim
theorem nodup_of_ix {l : List Addr} (h : ∀ (i j : Nat) (p : Addr), l[i]? = some p → l[j]? = some p → i = j) : l.Nodup := by
  induction l with
  | nil => exact List.nodup_nil
  | cons x l ih =>
    refine List.nodup_cons.mpr ⟨fun hx => ?_, ih fun i j p h1 h2 => ?_⟩
    · obtain ⟨k, hk⟩ := List.getElem?_of_mem hx
      have := h 0 (k + 1) x rfl hk
      omega
    · have := h (i + 1) (j + 1) p h1 h2
      omega
/-- the call's end, as the mirror says -/
theorem call_sp {modes : List Bool} {G : Fn} {vs : List V} {rs : List RV} {ds ms : List D} {r : Bool × D} {Q : VK} {E : XK} (R : Rel K F σ H e) (hv : HeldL K F σ H0 H e vs rs) (nd : (muI modes rs).Nodup) (hg : gather modes rs e = some ds) (hG : G ds = .ok r ms) (hs : scatter (muI modes rs) ms e = some e2)
    (hQ : ∀ v H' F', Post K F σ H e F' σ H' e2 → Held K F' σ H H' e2 v (toRV r) → Q v H') : spD K modes G vs H Q E := by
  obtain ⟨la, at'⟩ := muA_at R hv hg
  obtain ⟨s1, s2, s3, s4⟩ := scatter_spec nd hs
  have ndA : (muA modes vs).Nodup := nodup_of_ix fun i j p h1 h2 => by
    have hi : i < (muI modes rs).length := la ▸ (List.getElem?_eq_some_iff.mp h1).1
    have hj : j < (muI modes rs).length := la ▸ (List.getElem?_eq_some_iff.mp h2).1
    obtain ⟨p1, f1, d1, a1, b1, c1, n1⟩ := at' i _ (List.getElem?_eq_getElem hi)
    obtain ⟨p2, f2, d2, a2, b2, c2, n2⟩ := at' j _ (List.getElem?_eq_getElem hj)
    rw [h1] at a1; cases a1
    rw [h2] at a2; cases a2
    have hd := R.dist _ _ f1 f2 d1 d2 p c1 n1 c2 n2 b1 b2
    exact (List.getElem_inj nd).mp hd
  have inOwn : ∀ p, p ∈ muA modes vs → Own σ e p := fun p hp => by
    obtain ⟨k, hk⟩ := List.getElem?_of_mem hp
    have hi : k < (muI modes rs).length := la ▸ (List.getElem?_eq_some_iff.mp hk).1
    obtain ⟨p1, f1, d1, a1, b1, c1, n1⟩ := at' k _ (List.getElem?_eq_getElem hi)
    rw [hk] at a1; cases a1
    exact ⟨_, f1, d1, c1, n1, b1⟩
  have tr : ∀ a, Bd F σ e a → H a ≠ none := fun a z => by
    rcases z with z | ⟨i, f, d, q, n, s⟩
    · exact (R.ext a z).2
    · obtain ⟨p, s', o⟩ := R.own i f d q n
      rw [s] at s'; cases s'; exact o.some
  refine ⟨Bd F σ e, ds, arg_ok R hv hg, ndA, tr, ?_⟩
  rw [hG]
  -- what stands afterwards
  have fin : ∀ (F2 : Fx) (H' : Hp), Stp (· ∈ muA modes vs) H H' → (∀ a, F.bx a → F2.bx a) → (∀ a, F2.bx a → F.bx a ∨ (H a = none ∧ H' a ≠ none)) → F2.pn = F.pn → MuOk K (Bd F2 σ e) H' (muA modes vs) ms → Post K F σ H e F2 σ H' e2 ∧ ∀ a, Own σ e2 a ↔ Own σ e a := fun F2 H' st up dn pn mo => by
    have k1 : ∀ a o, H a = some o → ¬ Bd F σ e a → H' a = some o := fun a o q n => st.keep a o q fun z => n (.inr (inOwn a z))
    have k2 : ∀ a, Bd F2 σ e a → Bd F σ e a ∨ H a = none := fun a z => z.elim (fun z => (dn a z).elim (fun z => .inl (.inl z)) fun z => .inr z.1) fun z => .inl (.inr z)
    suffices rr : Rel K F2 σ H' e2 ∧ ∀ a, Own σ e2 a ↔ Own σ e a by
      obtain ⟨R2, ow⟩ := rr
      exact ⟨⟨R2, ⟨fun a o q n => st.keep a o q fun z => n (inOwn a z), st.back⟩, fun a z => .inl ((ow a).mp z), ⟨pn, up, fun a z => (dn a z).imp id fun z => z.1⟩⟩, ow⟩
    refine R.reown (F2 := F2) (H' := H') (e2 := e2) s1 (fun i f d q => ?_) s4 k1 k2 (fun i f d p q n s => ?_) (fun a z => ?_) pn
    · rcases s3 i f d q with ⟨k, a, b, d0, c⟩ | ⟨a, b⟩
      · refine ⟨d0, c, fun z => ?_⟩
        subst z
        obtain ⟨p1, f1, d1, a1, b1, c1, n1⟩ := at' k i a
        rw [c] at c1; cases c1; exact absurd rfl n1
      · exact ⟨d, b, fun _ => rfl⟩
    · rcases s3 i f d q with ⟨k, a, b, d0, c⟩ | ⟨a, b⟩
      · obtain ⟨p1, f1, d1, a1, b1, c1, n1⟩ := at' k i a
        rw [s] at b1; cases b1
        exact mo.at k p d a1 b
      · obtain ⟨p', s', o⟩ := R.own i f d b n
        rw [s] at s'; cases s'
        refine o.step k1 k2 ?_
        cases w : H p with
        | none => exact absurd w o.some
        | some ob =>
          refine st.keep p ob w fun z => ?_
          obtain ⟨k, hk⟩ := List.getElem?_of_mem z
          have hi : k < (muI modes rs).length := la ▸ (List.getElem?_eq_some_iff.mp hk).1
          obtain ⟨p1, f1, d1, a1, b1, c1, n1⟩ := at' k _ (List.getElem?_eq_getElem hi)
          rw [hk] at a1; cases a1
          have := R.dist _ _ f1 f d1 d p c1 n1 b n b1 s
          exact a (this ▸ List.getElem_mem hi)
    · rcases dn a z with z | z
      · exact ⟨(R.ext a z).1, fun w => (R.ext a z).2 (st.back a w)⟩
      · refine ⟨fun ⟨i, f, d, q, n, s⟩ => ?_, z.2⟩
        obtain ⟨p', s', o⟩ := R.own i f d q n
        rw [s] at s'; cases s'
        exact o.some z.1
  obtain ⟨b, d⟩ := r
  cases b with
  | false =>
    intro v H' st rp mo
    obtain ⟨p, ow⟩ := fin F H' st (fun _ z => z) (fun _ z => .inl z) rfl mo
    exact hQ v H' F p (rp.anti fun a z => z.elim .inl fun z => .inr ((ow a).mp z))
  | true =>
    intro q H' st nq o mo
    obtain ⟨p, ow⟩ := fin (F.plus q) H' st (fun _ z => .inl z) (fun a z => z.elim .inl fun z => .inr ⟨z ▸ nq, z ▸ o.some⟩) rfl (by
      have : ∀ a, Bd (F.plus q) σ e a → Bp (Bd F σ e) q a := fun a z => by
        rcases z with (z | z) | z
        · exact .inl (.inl z)
        · exact .inr z
        · exact .inl (.inr z)
      exact MuOk.anti this mo)
    exact hQ _ H' _ p ⟨q, rfl, nq, .inr rfl, o.anti fun a z => by
      rcases z with (z | z) | z
      · exact .inl (.inl z)
      · exact .inr z
      · exact .inl (.inr ((ow a).mp z))⟩
end
end Cw

/-! Cw, part I: calls, methods, fields; changes of owned objects. -/
namespace Cw
open PySem L2

/-! ### the rules of calls, over FnG -/
section
variable {X : Cx} {CX : CXT} {k : Nat} {f C : Addr} {fd : FuncData} {ps : List Str} {sp : Sp} {E : XK} {x m : Str} {p pos apos : Pos} {e o : Expr} {es : List Expr} {ta : TE} {t : TA} {ws : List Value} {xs : List V}
theorem peg_call (F : FnG X.prog X.w X.K X.mg X.base CX k f fd ps sp) (hr : Room k X.A) (hgd : X.A.guards = some []) (hg : Gl X x) (hm : X.mg x = some (.ref f)) (hk : PySem.W.keepIn X.K (.ref f) = true) (hb : Binds X.K fd ps ws) (hd : Vals xs ws) (hx : Passes CX X E) (ha : PA X (e :: es) t)
    (hdb : (x == ("__debug__" : Str)) = false) (he : starEach (e :: es) X.env = (false, eval e X.env) :: starEach es X.env) (hpl : (backTo pos (starEach es X.env)).any (·.1) = false) : PE X (.Call (.Name x p) (e :: es) [] pos) (tCall sp xs E t) := by
  constructor
  intro pins s σ H Q I h
  apply PySem.wpAny_Call_Name_kw
  apply ld_glob I hg hm _ hdb
  apply PySem.W.callWith_K (h₀ := X.base) I.ok.mod.kin hk _ he hpl
  apply thn (ha.run pos pins s σ H _ I h)
  rintro us s1 ⟨vs, H1, I1, r, q⟩
  exact ⟨I1.kIn, runG F hr hgd hb hd hx I1 r q⟩
theorem peg_call0 (F : FnG X.prog X.w X.K X.mg X.base CX k f fd ps sp) (hr : Room k X.A) (hgd : X.A.guards = some []) (hg : Gl X x) (hm : X.mg x = some (.ref f)) (hk : PySem.W.keepIn X.K (.ref f) = true) (hb : Binds X.K fd ps ws) (hd : Vals xs ws) (hx : Passes CX X E)
    (hdb : (x == ("__debug__" : Str)) = false) : PE X (.Call (.Name x p) [] [] pos) (tCall sp xs E tNil) := by
  constructor
  intro pins s σ H Q I h
  apply PySem.wpAny_Call_Name_kw
  apply ld_glob I hg hm _ hdb
  exact PySem.W.callWith_K0 I.kIn hk (runG (us := []) F hr hgd hb hd hx I .nil h)
theorem peg_meth {pl : Sem Bool} (he : PE X o ta) (c : Cls X.K C) (hm : Meth X.K C m f) (F : FnG X.prog X.w X.K X.mg X.base CX k f fd ps sp) (hr : Room k X.A) (hgd : X.A.guards = some []) (hb : Binds X.K fd ps ws) (hd : Vals xs ws) (hx : Passes CX X E) (ha : PA X (e :: es) t)
    (hst : starEach (e :: es) X.env = (false, eval e X.env) :: starEach es X.env) (hpl : (backTo pos (starEach es X.env)).any (·.1) = false)
    (ht : eval (.Call (.Attribute o m apos) (e :: es) [] pos) X.env = (do
      let ov ← eval o X.env
      standAt apos.atName
      let (f, first) ← holding [ov] (getMethod ov m pl)
      callWith pos f first (backTo pos (starEach (e :: es) X.env)) (backToKw pos (keywordEach [] X.env)))) : PE X (.Call (.Attribute o m apos) (e :: es) [] pos) (tMeth C m sp xs E ta t) := by
  constructor
  intro pins s σ H Q I h
  apply PySem.W.methodCall_KW (pl := pl) _ ht
  apply thn (he.run pins s σ H _ I h)
  rintro u s1 ⟨_, H1, I1, rx, a, dx, fs, rfl, ea, l, q⟩
  cases (show u = Value.ref a from rx)
  apply getmeth_ok I1 ea c hm l
  apply PySem.W.callWith_K (first := [.ref a]) (h₀ := X.base) I.ok.mod.kin hm.kp _ hst hpl
  apply thn (ha.run pos pins s1 σ H1 _ I1 q)
  rintro us s2 ⟨vs, H2, I2, r, q2⟩
  exact ⟨I2.kIn, runG (us := .ref a :: us) (vs := .ref a :: vs) F hr hgd hb hd hx I2 (.cons rfl r) q2⟩
theorem peg_meth0 {pl : Sem Bool} (he : PE X o ta) (c : Cls X.K C) (hm : Meth X.K C m f) (F : FnG X.prog X.w X.K X.mg X.base CX k f fd ps sp) (hr : Room k X.A) (hgd : X.A.guards = some []) (hb : Binds X.K fd ps ws) (hd : Vals xs ws) (hx : Passes CX X E)
    (ht : eval (.Call (.Attribute o m apos) [] [] pos) X.env = (do
      let ov ← eval o X.env
      standAt apos.atName
      let (f, first) ← holding [ov] (getMethod ov m pl)
      callWith pos f first (backTo pos (starEach [] X.env)) (backToKw pos (keywordEach [] X.env)))) : PE X (.Call (.Attribute o m apos) [] [] pos) (tMeth C m sp xs E ta tNil) := by
  constructor
  intro pins s σ H Q I h
  apply PySem.W.methodCall_KW (pl := pl) _ ht
  apply thn (he.run pins s σ H _ I h)
  rintro u s1 ⟨_, H1, I1, rx, a, dx, fs, rfl, ea, l, q⟩
  cases (show u = Value.ref a from rx)
  apply getmeth_ok I1 ea c hm l
  exact PySem.W.callWith_K0 (first := [.ref a]) I1.kIn hm.kp (runG (us := [.ref a]) (vs := [.ref a]) F hr hgd hb hd hx I1 (.cons rfl .nil) q)
theorem guards_make {A : Around} (hgd : A.guards = some []) (C : Addr) (us : List Value) : (A.under (.builtin "type.__call__" ⟨.ref C :: us, []⟩)).guards = some [] := by
  have n : ("type.__call__" : String) ∉ guardIds := by decide +kernel
  simp [Around.under, Code.guards, Code.isGuard, pushGuards, hgd, n]
theorem peg_make (Mc : Mk X.K C f) (F : FnG X.prog X.w X.K X.mg X.base CX k f fd ps sp) (hr : Room (k + 1) X.A) (hgd : X.A.guards = some []) (hg : Gl X x) (hm : X.mg x = some (.ref C)) (hb : Binds X.K fd ps ws) (hd : Vals xs ws) (hx : Passes CX X E) (ha : PA X (e :: es) t)
    (hdb : (x == ("__debug__" : Str)) = false) (he : starEach (e :: es) X.env = (false, eval e X.env) :: starEach es X.env) (hpl : (backTo pos (starEach es X.env)).any (·.1) = false) : PE X (.Call (.Name x p) (e :: es) [] pos) (tMake C sp xs E t) := by
  constructor
  intro pins s σ H Q I h
  apply PySem.wpAny_Call_Name_kw
  apply ld_glob I hg hm _ hdb
  apply PySem.W.callWith_K (h₀ := X.base) I.ok.mod.kin Mc.kp _ he hpl
  apply thn (ha.run pos pins s σ H _ I h)
  rintro us s1 ⟨vs, H1, I1, r, q⟩
  refine ⟨I1.kIn, ?_⟩
  have hq := q (s1.heap.objs.size + 1) s1.heap.objs.size (I1.hok.fresh (Nat.le_succ _)) (I1.hok.fresh (Nat.le_refl _)) (Nat.ne_of_lt (Nat.lt_succ_self _))
  have I2 := Inv.made (C := C) I1
  have r2 := Vals.append r hd
  have hl : (us ++ ws).length + 1 = ps.length := by
    have e1 := F.len _ _ _ _ hq
    have e2 := r2.length
    simp only [List.length_cons] at e1
    omega
  apply PySem.wpAny_call
  apply make_map (f := f) I1.kIn Mc.makes Mc.init (beq_iff_eq.mp Mc.fn)
  have run := F.run _ X.stack _ _ ⟨Value.ref (s1.heap.objs.size + 1) :: us, []⟩ (Value.ref (s1.heap.objs.size + 1) :: (us ++ ws)) (V.ref (s1.heap.objs.size + 1) :: (vs ++ xs)) _ E (hr.make C us []) (guards_make hgd C us)
    (I2.env0.make C us []) (hb _ (Value.ref (s1.heap.objs.size + 1) :: us) I2.kIn (by simpa using hl)) (.cons rfl r2) hq
  apply codeAny_mono run
  intro res s' z
  match res, z with
  | .error e, z => exact hx pins σ _ _ e s' I2 z
  | .ok (.ret u), z =>
    obtain ⟨v, H', I3, rv, rfl, q3⟩ := I2.after z
    exact ⟨rv, V.ref (s1.heap.objs.size + 1), H', I3, rfl, q3⟩
end

section
variable {X : Cx} {W : Wx} {x m : Str} {p pos apos : Pos} {e o : Expr} {es : List Expr} {fs : M (List RV)} {CX : CXT} {k : Nat} {f C : Addr} {fd : FuncData} {ps : List Str} {modes : List Bool} {G : Fn} {g : M RV}
theorem HeldL.nilR {K : Fg} {F : Fx} {σ : St} {H0 H : Hp} {e : En} {vs : List V} {rs : List RV} (h : HeldL K F σ H0 H e vs rs) : HeldL K F σ H0 H e (vs ++ []) (rs ++ []) := by
  rw [List.append_nil, List.append_nil]; exact h
theorem callM_of {K : Fg} {F : Fx} {σ : St} {H0 H : Hp} {e : En} {vs : List V} {rs : List RV} {Q : VK} {E : XK} (R : Rel K F σ H e) (bk : ∀ a, H a = none → H0 a = none) (hv : HeldL K F σ H0 H e vs rs) (h : Aft W K F σ H e (fun r F' e' H' => ∀ v, Held K F' σ H0 H' e' v r → Q v H') (callM modes G rs e)) : spD K modes G vs H Q E := by
  unfold callM at h
  by_cases nd : (muI modes rs).Nodup
  · rw [if_pos nd] at h
    cases hg : gather modes rs e with
    | none => simp only [hg] at h; exact h.elim
    | some ds =>
      simp only [hg] at h
      cases hG : G ds with
      | bad => simp only [hG] at h; exact h.elim
      | exc x ms => simp only [hG] at h; exact h.elim
      | ok r ms =>
        simp only [hG] at h
        cases hs : scatter (muI modes rs) ms e with
        | none => simp only [hs] at h; exact h.elim
        | some e2 =>
          simp only [hs] at h
          exact call_sp R hv nd hg hG hs fun v H' F' ps hh => h F' H' ps v (hh.back bk)
  · rw [if_neg nd] at h; exact h.elim
theorem pd_call (Fo : FnG X.prog X.w X.K X.mg X.base CX k f fd ps (spD X.K modes G)) (hr : Room k X.A) (hgd : X.A.guards = some []) (hg : Gl X x) (hm : X.mg x = some (.ref f)) (hk : PySem.W.keepIn X.K (.ref f) = true) (hb : Binds X.K fd ps []) (hx : Passes CX X E0)
    (ha : PDA X W (e :: es) fs) (hdb : (x == ("__debug__" : Str)) = false := by decide) (he : starEach (e :: es) X.env = (false, eval e X.env) :: starEach es X.env := by rfl) (hpl : (backTo pos (starEach es X.env)).any (·.1) = false := by rfl) :
    PD X W (.Call (.Name x p) (e :: es) [] pos) (eCall modes G fs) :=
  pe_imp (peg_call Fo hr hgd hg hm hk hb .nil hx ha hdb he hpl) fun σ H Q ⟨F, e, R, h⟩ => ⟨F, e, R, h.bind.imp fun rs F1 e1 H1 p1 h1 vs hv => by
    show spD X.K modes G (vs ++ []) H1 Q E0
    rw [List.append_nil]
    exact callM_of p1.rel p1.stp.back hv h1⟩
theorem pd_call0 (Fo : FnG X.prog X.w X.K X.mg X.base CX k f fd ps (spD X.K modes G)) (hr : Room k X.A) (hgd : X.A.guards = some []) (hg : Gl X x) (hm : X.mg x = some (.ref f)) (hk : PySem.W.keepIn X.K (.ref f) = true) (hb : Binds X.K fd ps []) (hx : Passes CX X E0)
    (hdb : (x == ("__debug__" : Str)) = false := by decide) : PD X W (.Call (.Name x p) [] [] pos) (eCall modes G aNil) :=
  pe_imp (peg_call0 Fo hr hgd hg hm hk hb .nil hx hdb) fun σ H Q ⟨F, e, R, h⟩ => by
    have h1 := Aft.ret R h.bind
    show spD X.K modes G ([] ++ []) H Q E0
    exact callM_of R (fun _ z => z) (vs := []) (rs := []) trivial h1

/-! fields -/
theorem RpF.lookup {K : Fg} {B : Ad} {H : Hp} {n : Str} : ∀ {vs : List (Str × V)} {ds : List (Str × D)}, RpF K B H vs ds → (∀ d, ds.lookup n = some d → ∃ v, vs.lookup n = some v ∧ Rp K B H v d) ∧ (ds.lookup n = none → vs.lookup n = none)
  | _, _, .nil => ⟨fun d h => (by cases h), fun _ => rfl⟩
  | _, _, .cons (n := q) (v := v) (d := d0) r t => by
    obtain ⟨a, b⟩ := RpF.lookup (n := n) t
    simp only [List.lookup_cons]
    cases n == q with
    | true => exact ⟨fun d h => (by cases h; exact ⟨v, rfl, r⟩), fun h => (by cases h)⟩
    | false => exact ⟨a, b⟩
theorem RpF.length {K : Fg} {B : Ad} {H : Hp} : ∀ {vs : List (Str × V)} {ds : List (Str × D)}, RpF K B H vs ds → vs.length = ds.length
  | _, _, .nil => rfl
  | _, _, .cons _ r => congrArg (· + 1) r.length
theorem RpB.ins {K : Fg} {B : Ad} {H : Hp} {v : V} {C : Addr} {ds : List (Str × D)} (h : RpB K B H v (.ins C ds)) : ∃ a dx fs, v = .ref a ∧ H a = some (.ins C dx fs) ∧ RpF K B H fs ds := by
  rcases h with h | ⟨p, rfl, dx, fs, h, r⟩
  · cases h with
    | ins nb h r => exact ⟨_, _, _, rfl, h, r⟩
  · exact ⟨p, dx, fs, rfl, h, r⟩
def eFld (C : Addr) (n : Str) (g : M RV) : M RV := M.bind g fun r => M.bind (M.get r) fun d => match d with
  | .ins C' ds => if C' = C then (match ds.lookup n with
    | some x => M.ret (.sh x)
    | none => M.bad) else M.bad
  | _ => M.bad
theorem pd_fld {n : Str} (he : PD X W o g) (hc : Cls X.K C) (hn : NoAttr X.K C n) (hb : attributeBase o n X.env (eval o X.env) = eval o X.env := by rfl) : PD X W (.Attribute o n pos) (eFld C n g) :=
  pe_imp (pe_fld he hb) fun σ H Q ⟨F, e, R, h⟩ => ⟨F, e, R, h.bind.imp fun r F1 e1 H1 p1 h1 v hv => by
    obtain ⟨d, ld, rd, h2⟩ := get_of p1.rel hv h1
    cases d with
    | ins C' ds =>
      simp only at h2
      by_cases hC : C' = C
      · subst hC
        rw [if_pos rfl] at h2
        obtain ⟨a, dx, fs, rfl, ha, rf⟩ := rd.ins
        cases hl : ds.lookup n with
        | none => simp only [hl] at h2; exact h2.elim
        | some y =>
          simp only [hl] at h2
          obtain ⟨v, lv, rv⟩ := rf.lookup.1 y hl
          exact ⟨a, C', dx, fs, v, rfl, ha, hc, hn, lv, Aft.ret p1.rel h2 v rv⟩
      · rw [if_neg hC] at h2; exact h2.elim
    | _ => exact h2.elim⟩
/-! methods of shared instances, of a slot's own instance -/
def eMeth (C : Addr) (m : Str) (modes : List Bool) (G : Fn) (g : M RV) (fs : M (List RV)) : M RV := M.bind (M.bind g M.esc) fun d => match d with
  | .ins C' ds => if C' = C ∧ ds.lookup m = none then M.bind fs fun rs => callM (false :: modes) G (.sh (.ins C' ds) :: rs) else M.bad
  | _ => M.bad
theorem meth_of {K : Fg} {σ : St} {H : Hp} {Q : VK} {E : XK} (h : tE W K (eMeth C m modes G g fs) σ H Q) : tMeth C m (spD K (false :: modes) G) [] E (tE W K g) (tA W K fs) σ H Q := by
  obtain ⟨F, e, R, h⟩ := h
  refine ⟨F, e, R, esc_of R (k := fun d F1 e1 H1 => Rel K F1 σ H1 e1 ∧ (∀ a, H1 a = none → H a = none) ∧ Aft W K F1 σ H1 e1 (fun r F' e' H' => ∀ v, Held K F' σ H H' e' v r → Q v H') ((match d with
    | .ins C' ds => if C' = C ∧ ds.lookup m = none then M.bind fs fun rs => callM (false :: modes) G (.sh (.ins C' ds) :: rs) else M.bad
    | _ => M.bad) e1)) (fun d F1 e1 H1 v ⟨R1, bk, h1⟩ rp => ?_) (h.bind.imp fun r F1 e1 H1 p1 h1 => ⟨p1.rel, p1.stp.back, h1⟩)⟩
  cases d with
  | ins C' ds =>
    simp only at h1
    by_cases hC : C' = C ∧ ds.lookup m = none
    · rw [if_pos hC] at h1
      obtain ⟨rfl, hl⟩ := hC
      obtain ⟨a, dx, fs', rfl, ha, rf⟩ := RpB.ins (.inl rp)
      refine ⟨a, dx, fs', rfl, ha, rf.lookup.2 hl, F1, e1, R1, h1.bind.imp fun rs F2 e2 H2 p2 h2 vs hv => ?_⟩
      show spD K (false :: modes) G (V.ref a :: (vs ++ [])) H2 Q E
      rw [List.append_nil]
      exact callM_of p2.rel (fun a z => bk a (p2.stp.back a z)) (vs := .ref a :: vs) (rs := .sh (.ins C' ds) :: rs) (show HeldL K F2 σ H H2 e2 (.ref a :: vs) (.sh (.ins C' ds) :: rs) from ⟨Rp.post rp p2, hv.back bk⟩) h2
    · rw [if_neg hC] at h1; exact h1.elim
  | _ => exact h1.elim
theorem pd_meth {pl : Sem Bool} (ho : PD X W o g) (c : Cls X.K C) (hm : Meth X.K C m f) (Fo : FnG X.prog X.w X.K X.mg X.base CX k f fd ps (spD X.K (false :: modes) G)) (hr : Room k X.A) (hgd : X.A.guards = some []) (hb : Binds X.K fd ps []) (hx : Passes CX X E0) (ha : PDA X W (e :: es) fs)
    (hst : starEach (e :: es) X.env = (false, eval e X.env) :: starEach es X.env := by rfl) (hpl : (backTo pos (starEach es X.env)).any (·.1) = false := by rfl)
    (ht : eval (.Call (.Attribute o m apos) (e :: es) [] pos) X.env = (do
      let ov ← eval o X.env
      standAt apos.atName
      let (f, first) ← holding [ov] (getMethod ov m pl)
      callWith pos f first (backTo pos (starEach (e :: es) X.env)) (backToKw pos (keywordEach [] X.env))) := by rfl) :
    PD X W (.Call (.Attribute o m apos) (e :: es) [] pos) (eMeth C m modes G g fs) :=
  pe_imp (peg_meth (pl := pl) ho c hm Fo hr hgd hb .nil hx ha hst hpl ht) fun _ _ _ => meth_of
theorem pd_meth0 {pl : Sem Bool} (ho : PD X W o g) (c : Cls X.K C) (hm : Meth X.K C m f) (Fo : FnG X.prog X.w X.K X.mg X.base CX k f fd ps (spD X.K [false] G)) (hr : Room k X.A) (hgd : X.A.guards = some []) (hb : Binds X.K fd ps []) (hx : Passes CX X E0)
    (ht : eval (.Call (.Attribute o m apos) [] [] pos) X.env = (do
      let ov ← eval o X.env
      standAt apos.atName
      let (f, first) ← holding [ov] (getMethod ov m pl)
      callWith pos f first (backTo pos (starEach [] X.env)) (backToKw pos (keywordEach [] X.env))) := by rfl) :
    PD X W (.Call (.Attribute o m apos) [] [] pos) (eMeth C m [] G g aNil) :=
  pe_imp (peg_meth0 (pl := pl) ho c hm Fo hr hgd hb .nil hx ht) fun σ H Q h => by
    have h := meth_of (E := E0) h
    obtain ⟨F, e, R, h⟩ := h
    refine ⟨F, e, R, h.imp fun r F1 e1 H1 p1 h1 v hv => ?_⟩
    obtain ⟨a, dx, fs, ex, ha, hl, F2, e2, R2, h2⟩ := h1 v hv
    exact ⟨a, dx, fs, ex, ha, hl, Aft.ret R2 h2 [] trivial⟩
end

/-! ### an owned object is changed -/
section
variable {K : Fg} {F : Fx} {σ : St} {H : Hp} {e : En}
theorem Rel.mut {i : Nat} {f : Fl} {d0 d' : D} {p : Addr} {o : HO} (R : Rel K F σ H e) (g : getE e i = some (f, d0)) (n : f ≠ .sh) (s : getS σ i = some (.ref p)) (ho : OwnAt K (Bd F σ e) (upd H p o) p d') :
    Post K F σ H e F σ (upd H p o) (e.set i (some (f, d'))) ∧ ∀ a, Own σ (e.set i (some (f, d'))) a ↔ Own σ e a := by
  have hi := getE_lt g
  have own : Own σ e p := ⟨i, f, d0, g, n, s⟩
  have k1 : ∀ a u, H a = some u → ¬ Bd F σ e a → upd H p o a = some u := fun a u q nb => by
    have hne : a ≠ p := fun z => nb (.inr (by rw [z]; exact own))
    rw [upd_ne hne]; exact q
  have tr : ∀ a, upd H p o a = none → H a = none := fun a q => by
    by_cases ha : a = p
    · rw [ha, upd_same] at q; cases q
    · rw [upd_ne ha] at q; exact q
  have rr : Rel K F σ (upd H p o) (e.set i (some (f, d'))) ∧ ∀ a, Own σ (e.set i (some (f, d'))) a ↔ Own σ e a := by
    refine R.reown (List.length_set ..) (fun j f' d q => ?_) (fun j f' d q => ?_) k1 (fun a z => .inl z) (fun j f' d q' q n' s' => ?_) (fun a z => ⟨(R.ext a z).1, fun w => (R.ext a z).2 (tr a w)⟩) rfl
    · by_cases hj : i = j
      · subst hj
        rw [getE_set_same hi] at q; cases q
        exact ⟨d0, g, fun z => absurd z n⟩
      · rw [getE_set_ne hj] at q
        exact ⟨d, q, fun _ => rfl⟩
    · by_cases hj : i = j
      · subst hj
        rw [g] at q; cases q
        exact ⟨d', getE_set_same hi⟩
      · exact ⟨d, by rw [getE_set_ne hj]; exact q⟩
    · by_cases hj : i = j
      · subst hj
        rw [getE_set_same hi] at q; cases q
        rw [s] at s'; cases s'
        exact ho
      · rw [getE_set_ne hj] at q
        obtain ⟨p', a, b⟩ := R.own j f' d q n'
        rw [s'] at a; cases a
        refine b.step k1 (fun a z => .inl z) (upd_ne fun z => ?_)
        subst z
        exact hj (R.dist i j f f' d0 d _ g n q n' s s')
  exact ⟨⟨rr.1, ⟨fun a u q nb => by
    have hne : a ≠ p := fun z => nb (by rw [z]; exact own)
    rw [upd_ne hne]; exact q, tr⟩, fun a z => .inl ((rr.2 a).mp z), .refl⟩, rr.2⟩
theorem step_upd {p : Addr} {o : HO} {B : Ad} (hp : B p) : ∀ a u, H a = some u → ¬ B a → upd H p o a = some u := fun a u q nb => by
  have hne : a ≠ p := fun z => nb (by rw [z]; exact hp)
  rw [upd_ne hne]; exact q
end
/-- a method of the list in slot i that changes it: what it holds then -/
def eMut (i : Nat) (dop : List D → List D → Option (List D)) (fs : M (List D)) : M RV := M.bind (eVar i) fun _ => M.bind (M.get (.sl i)) fun d0 => match d0 with
  | .lst _ => M.bind fs fun ds => fun e => match getE e i with
    | some (.sh, _) => .bad
    | some (f, .lst xs) => (match dop xs ds with
      | some ys => .ok (.sh .non) (e.set i (some (f, .lst ys)))
      | none => .bad)
    | _ => .bad
  | _ => M.bad
/-- what such a method does by values: op on any lists of values, as dop on their data -/
def rMut (vop : List V → List V → List V) (ok : List V → List V → Prop) : V → List V → Hp → VK → Prop := fun x vs H Q => ∃ l xs, x = .ref l ∧ H l = some (.lst xs) ∧ ok xs vs ∧ Q .non (upd H l (.lst (vop xs vs)))
section
variable {X : Cx} {W : Wx} {apos cpos p pos : Pos} {e o : Expr} {es : List Expr} {fs : M (List D)} {name : Str} {id : String} {i : Nat} {dop : List D → List D → Option (List D)} {vop : List V → List V → List V} {ok : List V → List V → Prop}
theorem RpL.sqB {K : Fg} {B : Ad} {H : Hp} {v : V} {ds : List D} (h : RpB K B H v (.lst ds)) : ∃ a vs, v = .ref a ∧ SqL K H a vs ∧ RpL K B H vs ds := by
  rcases h with h | ⟨p, rfl, vs, h, r⟩
  · obtain ⟨a, vs, e, t, r⟩ := RpL.sq_lst h
    exact ⟨a, vs, e, t.sq, r⟩
  · exact ⟨p, vs, rfl, SqL.of h, r⟩
theorem mut_of {K : Fg} {σ : St} {H : Hp} {Q : VK} (hop : ∀ B H xs vs ds es ys, RpL K B H xs ds → RpL K B H vs es → dop ds es = some ys → ok xs vs ∧ RpL K B H (vop xs vs) ys) (h : tE W K (eMut i dop fs) σ H Q) :
    tBM K "list" (rMut vop ok) (tE W K (eVar i)) (tAD W K fs) σ H Q := by
  obtain ⟨F, e, R, h⟩ := h
  refine ⟨F, e, R, ?_⟩
  have hb := h.bind
  unfold eVar at hb ⊢
  cases w : getE e i with
  | none => simp only [w] at hb; exact hb
  | some y =>
    simp only [w] at hb ⊢
    intro F1 H1 p1 v hv
    have h1 := hb F1 H1 p1
    obtain ⟨d0, l0, r0, h2⟩ := get_of p1.rel (H0 := H) hv h1
    cases d0 with
    | lst xs0 =>
      simp only at h2
      obtain ⟨a, vs0, rfl, sq, _⟩ := RpL.sqB r0
      refine ⟨.inl ⟨rfl, vs0, sq⟩, F1, e, p1.rel, h2.bind.imp fun ds F2 e2 H2 p2 h3 vs rvs => ?_⟩
      cases g : getE e2 i with
      | none => simp only [g] at h3; exact h3.elim
      | some z =>
        obtain ⟨f, d⟩ := z
        have own : f ≠ .sh → ∀ xs, d = .lst xs → ∀ ys, dop xs ds = some ys → (∀ F' H', Post K F2 σ H2 e2 F' σ H' (e2.set i (some (f, .lst ys))) → ∀ v, Held K F' σ H H' (e2.set i (some (f, .lst ys))) v (.sh .non) → Q v H') → rMut vop ok (.ref a) vs H2 Q := fun n xs ed ys hd hq => by
          subst ed
          obtain ⟨q, s, xvs, hx, rx⟩ := p2.rel.own i f _ g n
          have hv' := (show getS σ i = some (.ref a) from hv).symm.trans s
          cases hv'
          obtain ⟨h4, h5⟩ := hop _ _ _ _ _ _ _ rx rvs hd
          have bq : Bd F2 σ e2 a := .inr ⟨i, f, _, g, n, s⟩
          obtain ⟨po, _⟩ := p2.rel.mut (o := .lst (vop xvs vs)) (d' := .lst ys) g n s ⟨_, upd_same, h5.step (step_upd bq) fun a z => .inl z⟩
          exact ⟨a, xvs, rfl, hx, h4, hq F2 _ po _ .non⟩
        cases d with
        | lst xs =>
          cases f with
          | sh => simp only [g] at h3; exact h3.elim
          | ow =>
            simp only [g] at h3
            cases hd : dop xs ds with
            | none => simp only [hd] at h3; exact h3.elim
            | some ys => simp only [hd] at h3; exact own (by decide) xs rfl ys hd h3
          | mu =>
            simp only [g] at h3
            cases hd : dop xs ds with
            | none => simp only [hd] at h3; exact h3.elim
            | some ys => simp only [hd] at h3; exact own (by decide) xs rfl ys hd h3
        | _ => cases f <;> (simp only [g] at h3; exact h3.elim)
    | _ => exact h2.elim
theorem pd_mut {x : Str} (hN : X.N[i]? = some x) (hv : Vis X.env.scope x) (slot : Slot "list" name id) (hty : typeOf (.builtin id) = pure (.type "method_descriptor")) (hm : MtR X id (rMut vop ok)) (hop : ∀ B H xs vs ds es ys, RpL X.K B H xs ds → RpL X.K B H vs es → dop ds es = some ys → ok xs vs ∧ RpL X.K B H (vop xs vs) ys)
    (ha : PDL X W (e :: es) fs) (hd : (x == ("__debug__" : Str)) = false := by decide) (hcd : (x == ("__classdict__" : Str)) = false := by decide)
    (hbase : attributeBase (.Name x p) name X.env (eval (.Name x p) X.env) = eval (.Name x p) X.env := by rfl)
    (hfew : ((backTo cpos (starEach (e :: es) X.env)).all (fun x => !x.1) && (backToKw cpos (keywordEach [] X.env)).all (fun x => x.1.isSome)
      && decide ((e :: es).length + ([] : List Keyword).length + (if ([] : List Keyword).isEmpty then 0 else 1) < 30)) = true := by rfl)
    (hline : (apos.endLine == cpos.line) = true := by rfl) (hs : starEach (e :: es) X.env = (false, eval e X.env) :: starEach es X.env := by rfl) (hplain : (backTo cpos (starEach es X.env)).any (·.1) = false := by rfl) :
    PD X W (.Call (.Attribute (.Name x p) name apos) (e :: es) [] cpos) (eMut i dop fs) :=
  pe_imp (pe_bm PySem.F.plainAttrs_list slot hty hm (pd_var (W := W) (pos := p) hN hv hd hcd) ha hbase hfew hline hs hplain) fun _ _ _ => mut_of hop
theorem pd_mut0 {x : Str} (hN : X.N[i]? = some x) (hv : Vis X.env.scope x) (slot : Slot "list" name id) (hty : typeOf (.builtin id) = pure (.type "method_descriptor")) (hm : MtR X id (rMut vop ok)) (hop : ∀ B H xs vs ds es ys, RpL X.K B H xs ds → RpL X.K B H vs es → dop ds es = some ys → ok xs vs ∧ RpL X.K B H (vop xs vs) ys)
    (hd : (x == ("__debug__" : Str)) = false := by decide) (hcd : (x == ("__classdict__" : Str)) = false := by decide)
    (hbase : attributeBase (.Name x p) name X.env (eval (.Name x p) X.env) = eval (.Name x p) X.env := by rfl) (hline : (apos.endLine == cpos.line) = true := by rfl) :
    PD X W (.Call (.Attribute (.Name x p) name apos) [] [] cpos) (eMut i dop aNil) :=
  pe_imp (pe_bm0 PySem.F.plainAttrs_list slot hty hm (pd_var (W := W) (pos := p) hN hv hd hcd) hbase hline) fun σ H Q h => by
    have h := mut_of (W := W) hop h
    obtain ⟨F, e, R, h⟩ := h
    refine ⟨F, e, R, h.imp fun r F1 e1 H1 p1 h1 v hv => ?_⟩
    obtain ⟨ty, F2, e2, R2, h2⟩ := h1 v hv
    exact ⟨ty, Aft.ret R2 h2 [] .nil⟩
def dApp (xs ds : List D) : Option (List D) := match ds with
  | [y] => if xs.length < sizeLine then some (xs ++ [y]) else none
  | _ => none
theorem mt_app : MtR X "list.append" (rMut (fun xs vs => xs ++ vs) fun xs vs => xs.length < sizeLine ∧ ∃ y, vs = [y]) := fun pins s σ H x vs v us Q I rx rv ⟨l, xs, e1, h1, ⟨h2, y, e2⟩, q⟩ =>
  mt_append pins s σ H x vs v us Q I rx rv ⟨l, xs, y, e1, e2, h1, h2, by rw [e2] at q; exact q⟩
theorem RpL.app {K : Fg} {B : Ad} {H : Hp} : ∀ {vs ws : List V} {ds es : List D}, RpL K B H vs ds → RpL K B H ws es → RpL K B H (vs ++ ws) (ds ++ es)
  | _, _, _, _, .nil, h => h
  | _, _, _, _, .cons a r, h => .cons a (r.app h)
theorem pd_append {x : Str} (hN : X.N[i]? = some x) (hv : Vis X.env.scope x) (ha : PDL X W [e] fs) (hd : (x == ("__debug__" : Str)) = false := by decide) (hcd : (x == ("__classdict__" : Str)) = false := by decide)
    (hbase : attributeBase (.Name x p) "append" X.env (eval (.Name x p) X.env) = eval (.Name x p) X.env := by rfl)
    (hfew : ((backTo cpos (starEach [e] X.env)).all (fun x => !x.1) && (backToKw cpos (keywordEach [] X.env)).all (fun x => x.1.isSome)
      && decide ([e].length + ([] : List Keyword).length + (if ([] : List Keyword).isEmpty then 0 else 1) < 30)) = true := by rfl)
    (hline : (apos.endLine == cpos.line) = true := by rfl) (hs : starEach [e] X.env = (false, eval e X.env) :: starEach [] X.env := by rfl) (hplain : (backTo cpos (starEach [] X.env)).any (·.1) = false := by rfl) :
    PD X W (.Call (.Attribute (.Name x p) "append" apos) [e] [] cpos) (eMut i dApp fs) :=
  pd_mut hN hv PySem.F.slot_list_append PySem.F.type_list_append mt_app (fun B H xs vs ds es ys r1 r2 q => by
    unfold dApp at q
    match es, r2, q with
    | [y], r2, q =>
      simp only at q
      split at q
      · rename_i hz
        cases q
        cases r2 with
        | cons a b =>
          cases b
          exact ⟨⟨by rw [r1.length]; exact hz, _, rfl⟩, r1.app (.cons a .nil)⟩
      · cases q) ha hd hcd hbase hfew hline hs hplain
def dRev (xs ds : List D) : Option (List D) := match ds with
  | [] => some xs.reverse
  | _ => none
theorem RpL.rev {K : Fg} {B : Ad} {H : Hp} : ∀ {vs : List V} {ds : List D}, RpL K B H vs ds → RpL K B H vs.reverse ds.reverse
  | _, _, .nil => .nil
  | _, _, .cons a r => by rw [List.reverse_cons, List.reverse_cons]; exact r.rev.app (.cons a .nil)
theorem mt_rev : MtR X "list.reverse" (rMut (fun xs vs => xs.reverse) fun xs vs => vs = []) := fun pins s σ H x vs v us Q I rx rv ⟨l, xs, e1, h1, e2, q⟩ =>
  mt_reverse pins s σ H x vs v us Q I rx rv ⟨l, xs, e1, e2, h1, q⟩
theorem pd_reverse {x : Str} (hN : X.N[i]? = some x) (hv : Vis X.env.scope x) (hd : (x == ("__debug__" : Str)) = false := by decide) (hcd : (x == ("__classdict__" : Str)) = false := by decide)
    (hbase : attributeBase (.Name x p) "reverse" X.env (eval (.Name x p) X.env) = eval (.Name x p) X.env := by rfl) (hline : (apos.endLine == cpos.line) = true := by rfl) :
    PD X W (.Call (.Attribute (.Name x p) "reverse" apos) [] [] cpos) (eMut i dRev aNil) :=
  pd_mut0 hN hv PySem.F.slot_list_reverse PySem.F.type_list_reverse mt_rev (fun B H xs vs ds es ys r1 r2 q => by
    unfold dRev at q
    match es, r2, q with
    | [], r2, q => cases q; cases r2; exact ⟨rfl, r1.rev⟩) hd hcd hbase hline
end
end Cw

/-! Cw, part J: operations on data. -/
namespace Cw
open PySem L2

section
variable {K : Fg} {B : Ad} {H : Hp} {v : V} {Q : VK}
theorem RpB.tup {ds : List D} (h : RpB K B H v (.tup ds)) : ∃ a vs, v = .ref a ∧ TupAt K B H a vs ∧ RpL K B H vs ds := by
  rcases h with h | ⟨p, _, h⟩
  · exact h.tup_inv
  · exact h.elim
theorem RpB.lst {ds : List D} (h : RpB K B H v (.lst ds)) : ∃ a vs, v = .ref a ∧ H a = some (.lst vs) ∧ RpL K B H vs ds := by
  rcases h with h | ⟨p, rfl, vs, h, r⟩
  · obtain ⟨a, vs, e, t, r⟩ := RpL.sq_lst h
    exact ⟨a, vs, e, t.2, r⟩
  · exact ⟨p, vs, rfl, h, r⟩
theorem RpB.scr {ds : List D} (h : RpB K B H v (.scr ds)) : ∃ a vs, v = .ref a ∧ SqL K H a vs ∧ RpL K B H vs ds := by
  rcases h with h | ⟨p, _, h⟩
  · cases h with
    | scr t r => exact ⟨_, _, rfl, t.sq, r⟩
  · exact h.elim
theorem Res.int {i : Int} (h : Res K B H Q (some (false, .int i))) : Q (.int i) H := h _ H (Same.refl H) (.int i)
theorem Res.bl {i : Bool} (h : Res K B H Q (some (false, .bl i))) : Q (.bl i) H := h _ H (Same.refl H) (.bl i)
theorem Res.str {i : Str} (h : Res K B H Q (some (false, .str i))) : Q (.str i) H := h _ H (Same.refl H) (.str i)
theorem Res.old {d : D} {v : V} (h : Res K B H Q (some (false, d))) (r : Rp K B H v d) : Q v H := h _ H (Same.refl H) r
/-- what is new is in no one's way -/
theorem Res.newT {ds : List D} {vs : List V} (tr : Trk B H) (h : Res K B H Q (some (false, .tup ds))) (r : RpL K B H vs ds) : ∀ p, H p = none → Q (.ref p) (upd H p (.tup vs)) := fun p np => by
  have s := same_upd (o := .tup vs) np
  exact h _ _ s (.tup (.inl ⟨fun z => tr p z np, .inl upd_same⟩) (r.step (fun a o q _ => s a o q) fun a z => .inl z))
theorem Res.newL {ds : List D} {vs : List V} (h : Res K B H Q (some (true, .lst ds))) (r : RpL K B H vs ds) : ∀ p, H p = none → Q (.ref p) (upd H p (.lst vs)) := fun p np => by
  have s := same_upd (o := .lst vs) np
  exact h p _ s np ⟨vs, upd_same, r.step (fun a o q _ => s a o q) fun a z => z.elim .inl fun z => .inr (z ▸ np)⟩
end

/-! ### ints -/
def dSub : D → D → Option (Bool × D)
  | .int i, .int j => some (false, .int (i - j))
  | _, _ => none
def dMod : D → D → Option (Bool × D)
  | .int i, .int j => if 0 < j then some (false, .int (i % j)) else none
  | _, _ => none
def dDiv : D → D → Option (Bool × D)
  | .int i, .int j => if 0 < j ∧ j < 1073741824 then some (false, .int (i / j)) else none
  | _, _ => none
def smallI (i : Int) : Bool := decide (-(2 ^ 64) < i ∧ i < 2 ^ 64)
def dAdd : D → D → Option (Bool × D)
  | .int i, .int j => some (false, .int (i + j))
  | .str i, .str j => if i.length + j.length ≤ sizeLine then some (false, .str (i ++ j)) else none
  | .tup xs, .tup ys => if xs.length + ys.length ≤ sizeLine then some (false, .tup (xs ++ ys)) else none
  | .lst xs, .lst ys => if xs.length + ys.length ≤ sizeLine then some (true, .lst (xs ++ ys)) else none
  | _, _ => none
def dMul : D → D → Option (Bool × D)
  | .int i, .int j => if smallI i || smallI j then some (false, .int (i * j)) else none
  | .lst xs, .int k => if 0 ≤ k ∧ k < 2 ^ 63 ∧ xs.length * k.toNat ≤ sizeLine then some (true, .lst (List.replicate k.toNat xs).flatten) else none
  | _, _ => none
def dAbs : List D → Option (Bool × D)
  | [.int i] => some (false, .int (if i < 0 then -i else i))
  | _ => none
def dInt : List D → Option (Bool × D)
  | [.int i] => some (false, .int i)
  | [.bl k] => some (false, .int (if k then 1 else 0))
  | _ => none
theorem opr_or {X : Cx} {f : Value → Value → Sem Value} {r r' : R2} (h : OpR X f r) (h' : OpR X f r') : OpR X f (fun x y H Q => r x y H Q ∨ r' x y H Q) := fun pins s σ H x y v u Q I rx ry q =>
  q.elim (h pins s σ H x y v u Q I rx ry) (h' pins s σ H x y v u Q I rx ry)
theorem opr_imp {X : Cx} {f : Value → Value → Sem Value} {r r' : R2} (h : OpR X f r) (k : ∀ x y H Q, r' x y H Q → r x y H Q) : OpR X f r' := fun pins s σ H x y v u Q I rx ry q => h pins s σ H x y v u Q I rx ry (k x y H Q q)
theorem callr_imp {X : Cx} {f : Value} {r r' : List V → Hp → VK → Prop} (h : CallR X f r) (k : ∀ x H Q, r' x H Q → r x H Q) : CallR X f r' := fun pins s σ H x v Q I rx q => h pins s σ H x v Q I rx (k x H Q q)
theorem callr_or {X : Cx} {f : Value} {r r' : List V → Hp → VK → Prop} (h : CallR X f r) (h' : CallR X f r') : CallR X f (fun x H Q => r x H Q ∨ r' x H Q) := fun pins s σ H x v Q I rx q => q.elim (h pins s σ H x v Q I rx) (h' pins s σ H x v Q I rx)
theorem ixr_imp {X : Cx} {r r' : R2} (h : IxR X r) (k : ∀ x y H Q, r' x y H Q → r x y H Q) : IxR X r' := fun a b pins s σ H x y v u Q I rx ry q => h a b pins s σ H x y v u Q I rx ry (k x y H Q q)
theorem slr_imp {X : Cx} {r r' : V → Option Int → Option Int → Hp → VK → Prop} (h : SlR X r) (k : ∀ x a b H Q, r' x a b H Q → r x a b H Q) : SlR X r' := fun pins s σ H x v vl vu lo hi sl Q I rx h1 h2 h3 q => h pins s σ H x v vl vu lo hi sl Q I rx h1 h2 h3 (k x lo hi H Q q)
section
variable {X : Cx}
theorem od_sub : OpR X (binaryOp .Sub) (rD2 X.K dSub) := opr_imp op_sub fun x y H Q ⟨B, dx, dy, tr, rx, ry, q⟩ => by
  unfold dSub at q; split at q
  · exact ⟨_, _, rx.int, ry.int, q.int⟩
  · exact q.elim
theorem od_mod : OpR X (binaryOp .Mod) (rD2 X.K dMod) := opr_imp op_mod fun x y H Q ⟨B, dx, dy, tr, rx, ry, q⟩ => by
  unfold dMod at q; split at q
  · split at q
    · rename_i hj
      exact ⟨_, _, rx.int, ry.int, hj, q.int⟩
    · exact q.elim
  · exact q.elim
theorem od_div : OpR X (binaryOp .FloorDiv) (rD2 X.K dDiv) := opr_imp op_fdiv fun x y H Q ⟨B, dx, dy, tr, rx, ry, q⟩ => by
  unfold dDiv at q; split at q
  · split at q
    · rename_i hj
      exact ⟨_, _, rx.int, ry.int, hj, q.int⟩
    · exact q.elim
  · exact q.elim
theorem RpL.nil_iff {K : Fg} {B : Ad} {H : Hp} {vs : List V} {ds : List D} (h : RpL K B H vs ds) : vs = [] ↔ ds = [] := by
  cases h <;> simp
theorem od_add : OpR X (binaryOp .Add) (rD2 X.K dAdd) := opr_imp (opr_or (opr_or op_add op_add_str) (opr_or op_catA op_cat)) fun x y H Q ⟨B, dx, dy, tr, rx, ry, q⟩ => by
  unfold dAdd at q; split at q
  · exact .inl (.inl ⟨_, _, rx.int, ry.int, q.int⟩)
  · split at q
    · rename_i hz
      exact .inl (.inr ⟨_, _, rx.str, ry.str, hz, q.str⟩)
    · exact q.elim
  · rename_i xs ys
    split at q
    · rename_i hz
      obtain ⟨a, vs, rfl, ta, ra⟩ := rx.tup
      obtain ⟨b, ws, rfl, tb, rb⟩ := ry.tup
      refine .inr (.inl ⟨a, b, vs, ws, rfl, rfl, ta.sq, tb.sq, by rw [ra.length, rb.length]; exact hz, fun e => ?_, fun n e => ?_, fun n m => Res.newT tr q (ra.app rb)⟩)
      · have e2 := ra.nil_iff.mp e
        subst e2
        exact q.old (.tup tb rb)
      · have e2 := rb.nil_iff.mp e
        subst e2
        rw [List.append_nil] at q
        exact q.old (.tup ta ra)
    · exact q.elim
  · rename_i xs ys
    split at q
    · rename_i hz
      obtain ⟨a, vs, rfl, ta, ra⟩ := rx.lst
      obtain ⟨b, ws, rfl, tb, rb⟩ := ry.lst
      exact .inr (.inr ⟨a, b, vs, ws, rfl, rfl, ta, tb, by rw [ra.length, rb.length]; exact hz, Res.newL q (ra.app rb)⟩)
    · exact q.elim
  · exact q.elim
theorem RpL.rep {K : Fg} {B : Ad} {H : Hp} {vs : List V} {ds : List D} (h : RpL K B H vs ds) : ∀ n, RpL K B H (List.replicate n vs).flatten (List.replicate n ds).flatten
  | 0 => .nil
  | n + 1 => by rw [List.replicate_succ, List.replicate_succ, List.flatten_cons, List.flatten_cons]; exact h.app (h.rep n)
theorem od_mul : OpR X (binaryOp .Mult) (rD2 X.K dMul) := opr_imp (opr_or op_mul op_rep) fun x y H Q ⟨B, dx, dy, tr, rx, ry, q⟩ => by
  unfold dMul at q; split at q
  · split at q
    · rename_i hj
      rw [Bool.or_eq_true] at hj
      exact .inl ⟨_, _, rx.int, ry.int, hj.imp of_decide_eq_true of_decide_eq_true, q.int⟩
    · exact q.elim
  · split at q
    · rename_i hz
      obtain ⟨a, vs, rfl, ta, ra⟩ := rx.lst
      exact .inr ⟨a, _, vs, rfl, ry.int, ta, by omega, hz.2.1, by rw [ra.length]; exact hz.2.2, Res.newL q (ra.rep _)⟩
    · exact q.elim
  · exact q.elim
theorem cd_abs : CallR X (.builtin "abs") (rDn X.K dAbs) := callr_imp call_abs fun xs H Q ⟨B, ds, tr, rs, q⟩ => by
  unfold dAbs at q; split at q
  · obtain ⟨v, rfl, r⟩ := rs.one
    exact ⟨_, by rw [r.int], q.int⟩
  · exact q.elim
theorem cd_int : CallR X (.type "int") (rDn X.K dInt) := callr_imp call_int1 fun xs H Q ⟨B, ds, tr, rs, q⟩ => by
  unfold dInt at q; split at q
  · obtain ⟨v, rfl, r⟩ := rs.one
    exact .inl ⟨_, by rw [r.int], q.int⟩
  · obtain ⟨v, rfl, r⟩ := rs.one
    exact .inr ⟨_, by rw [r.bl], q.int⟩
  · exact q.elim
/-! comparisons of ints -/
def dCmp (p : Int → Int → Bool) : D → D → Option (Bool × D)
  | .int i, .int j => some (false, .bl (p i j))
  | _, _ => none
theorem od_lt : OpR X (compareOp .Lt) (rD2 X.K (dCmp fun i j => decide (i < j))) := opr_imp op_lt fun x y H Q ⟨B, dx, dy, tr, rx, ry, q⟩ => by
  unfold dCmp at q; split at q
  · exact ⟨_, _, rx.int, ry.int, q.bl⟩
  · exact q.elim
theorem od_le : OpR X (compareOp .LtE) (rD2 X.K (dCmp fun i j => decide (i ≤ j))) := opr_imp op_le fun x y H Q ⟨B, dx, dy, tr, rx, ry, q⟩ => by
  unfold dCmp at q; split at q
  · exact ⟨_, _, rx.int, ry.int, q.bl⟩
  · exact q.elim
theorem od_gt : OpR X (compareOp .Gt) (rD2 X.K (dCmp fun i j => decide (j < i))) := opr_imp op_gt fun x y H Q ⟨B, dx, dy, tr, rx, ry, q⟩ => by
  unfold dCmp at q; split at q
  · exact ⟨_, _, rx.int, ry.int, q.bl⟩
  · exact q.elim
theorem od_ge : OpR X (compareOp .GtE) (rD2 X.K (dCmp fun i j => decide (j ≤ i))) := opr_imp op_ge fun x y H Q ⟨B, dx, dy, tr, rx, ry, q⟩ => by
  unfold dCmp at q; split at q
  · exact ⟨_, _, rx.int, ry.int, q.bl⟩
  · exact q.elim
end

/-! ### == of data -/
mutual
def toP : D → Option PyData
  | .non => some .none
  | .bl b => some (.bool b)
  | .int i => some (.int i)
  | .str x => some (.str x)
  | .tup xs => match toPL xs with
    | some ys => some (.tuple ys)
    | none => none
  | .lst xs => match toPL xs with
    | some ys => some (.list ys)
    | none => none
  | .dic _ => none
  | .ins _ _ => none
  | .raw _ => none
  | .scr _ => none
def toPL : List D → Option (List PyData)
  | [] => some []
  | d :: ds => match toP d, toPL ds with
    | some x, some xs => some (x :: xs)
    | _, _ => none
end
mutual
theorem Rp.dp {K : Fg} {B : Ad} {H : Hp} : ∀ {d : D} {v : V} {x : PyData}, Rp K B H v d → toP d = some x → Dp K H v x
  | .non, _, _, h, q => by cases h; cases q; exact .non
  | .bl b, _, _, h, q => by cases h; cases q; exact .bl b
  | .int i, _, _, h, q => by cases h; cases q; exact .int i
  | .str i, _, _, h, q => by cases h; cases q; exact .str i
  | .tup xs, _, _, h, q => by
    obtain ⟨a, vs, rfl, t, r⟩ := h.tup_inv
    unfold toP at q
    cases w : toPL xs with
    | none => rw [w] at q; cases q
    | some ys => rw [w] at q; cases q; exact .tup t.sq (RpL.dp r w)
  | .lst xs, _, _, h, q => by
    obtain ⟨a, vs, rfl, t, r⟩ := RpL.sq_lst h
    unfold toP at q
    cases w : toPL xs with
    | none => rw [w] at q; cases q
    | some ys => rw [w] at q; cases q; exact .lst t.sq (RpL.dp r w)
  | .dic _, _, _, _, q => by cases q
  | .ins _ _, _, _, _, q => by cases q
  | .raw _, _, _, _, q => by cases q
  | .scr _, _, _, _, q => by cases q
theorem RpL.dp {K : Fg} {B : Ad} {H : Hp} : ∀ {ds : List D} {vs : List V} {xs : List PyData}, RpL K B H vs ds → toPL ds = some xs → DpAll K H vs xs
  | [], _, _, h, q => by cases h; cases q; exact .nil
  | d :: ds, _, _, h, q => by
    cases h with
    | cons a b =>
      unfold toPL at q
      cases w : toP d with
      | none => simp only [w] at q; cases q
      | some x =>
        cases w2 : toPL ds with
        | none => simp only [w, w2] at q; cases q
        | some xs => simp only [w, w2] at q; cases q; exact .cons (Rp.dp a w) (RpL.dp b w2)
end
theorem RpB.dp {K : Fg} {B : Ad} {H : Hp} {d : D} {v : V} {x : PyData} (h : RpB K B H v d) (q : toP d = some x) : Dp K H v x := by
  rcases h with h | ⟨p, rfl, h⟩
  · exact h.dp q
  · cases d with
    | lst ds => exact (OwnAt.rp (B := fun _ => False) (fun z => z) (h.anti fun _ z => z.elim)).dp q
    | dic ds => cases q
    | ins C ds => cases q
    | _ => exact h.elim
def dEqP (neg : Bool) (a b : D) : Option (Bool × D) := match toP a, toP b with
  | some x, some y => if SeqAt.shaped x = true ∧ SeqAt.shaped y = true then some (false, .bl (if neg then !PyData.eqv x y else PyData.eqv x y)) else none
  | _, _ => none
def dEq (neg : Bool) (a b : D) : Option (Bool × D) := match a, b with
  | .int i, .int j => some (false, .bl (if neg then !decide (i = j) else decide (i = j)))
  | .str i, .str j => some (false, .bl (if neg then !decide (i = j) else decide (i = j)))
  | a, b => dEqP neg a b
section
variable {X : Cx}
theorem od_eqP (hu : X.A.units + 64 < cLine) : OpR X (compareOp .Eq) (rD2 X.K (dEqP false)) := opr_imp (op_eqD hu) fun x y H Q ⟨B, dx, dy, tr, rx, ry, q⟩ => by
  unfold dEqP at q
  cases w : toP dx with
  | none => simp only [w] at q; exact q.elim
  | some a =>
    cases w2 : toP dy with
    | none => simp only [w, w2] at q; exact q.elim
    | some b =>
      simp only [w, w2] at q
      split at q
      · rename_i hs
        exact ⟨a, b, rx.dp w, ry.dp w2, hs.1, hs.2, q.bl⟩
      · exact q.elim
theorem od_neP (hu : X.A.units + 64 < cLine) : OpR X (compareOp .NotEq) (rD2 X.K (dEqP true)) := opr_imp (op_neD hu) fun x y H Q ⟨B, dx, dy, tr, rx, ry, q⟩ => by
  unfold dEqP at q
  cases w : toP dx with
  | none => simp only [w] at q; exact q.elim
  | some a =>
    cases w2 : toP dy with
    | none => simp only [w, w2] at q; exact q.elim
    | some b =>
      simp only [w, w2] at q
      split at q
      · rename_i hs
        exact ⟨a, b, rx.dp w, ry.dp w2, hs.1, hs.2, q.bl⟩
      · exact q.elim
theorem decI {i j : Int} : decide (V.int i = V.int j) = decide (i = j) := by
  rw [Bool.eq_iff_iff, decide_eq_true_eq, decide_eq_true_eq]
  exact ⟨fun h => by cases h; rfl, fun h => by rw [h]⟩
theorem decS {i j : Str} : decide (V.str i = V.str j) = decide (i = j) := by
  rw [Bool.eq_iff_iff, decide_eq_true_eq, decide_eq_true_eq]
  exact ⟨fun h => by cases h; rfl, fun h => by rw [h]⟩
theorem od_eq (hu : X.A.units + 64 < cLine) : OpR X (compareOp .Eq) (rD2 X.K (dEq false)) := opr_imp (opr_or op_eq (od_eqP hu)) fun x y H Q ⟨B, dx, dy, tr, rx, ry, q⟩ => by
  unfold dEq at q
  split at q
  · rw [rx.int, ry.int]
    exact .inl ⟨rfl, by rw [decI]; exact q.bl⟩
  · rw [rx.str, ry.str]
    exact .inl ⟨rfl, by rw [decS]; exact q.bl⟩
  · exact .inr ⟨B, _, _, tr, rx, ry, q⟩
theorem od_ne (hu : X.A.units + 64 < cLine) : OpR X (compareOp .NotEq) (rD2 X.K (dEq true)) := opr_imp (opr_or op_ne (od_neP hu)) fun x y H Q ⟨B, dx, dy, tr, rx, ry, q⟩ => by
  unfold dEq at q
  split at q
  · rw [rx.int, ry.int]
    exact .inl ⟨rfl, by rw [decI]; exact q.bl⟩
  · rw [rx.str, ry.str]
    exact .inl ⟨rfl, by rw [decS]; exact q.bl⟩
  · exact .inr ⟨B, _, _, tr, rx, ry, q⟩
end
end Cw

/-! Cw, part K: more operations on data. -/
namespace Cw
open PySem L2

/-! ### repr -/
mutual
theorem toP_noDict : ∀ {d : D} {x : PyData}, toP d = some x → x.hasDict = false
  | .non, _, h => by cases h; rfl
  | .bl b, _, h => by cases h; rfl
  | .int i, _, h => by cases h; rfl
  | .str i, _, h => by cases h; rfl
  | .tup xs, _, h => by
    unfold toP at h
    cases w : toPL xs with
    | none => rw [w] at h; cases h
    | some ys => rw [w] at h; cases h; exact toPL_noDict w
  | .lst xs, _, h => by
    unfold toP at h
    cases w : toPL xs with
    | none => rw [w] at h; cases h
    | some ys => rw [w] at h; cases h; exact toPL_noDict w
  | .dic _, _, h => by cases h
  | .ins _ _, _, h => by cases h
  | .raw _, _, h => by cases h
  | .scr _, _, h => by cases h
theorem toPL_noDict : ∀ {d : List D} {x : List PyData}, toPL d = some x → PyData.hasDictAll x = false
  | [], _, h => by cases h; rfl
  | d :: ds, _, h => by
    unfold toPL at h
    cases w : toP d with
    | none => simp only [w] at h; cases h
    | some x =>
      cases w2 : toPL ds with
      | none => simp only [w, w2] at h; cases h
      | some xs =>
        simp only [w, w2] at h; cases h
        show (x.hasDict || PyData.hasDictAll xs) = false
        rw [toP_noDict w, toPL_noDict w2]; rfl
end
def dRepr : List D → Option (Bool × D)
  | [d] => match toP d with
    | some x => if x.showable = true ∧ x.depth ≤ 64 ∧ x.shown.length ≤ sizeLine then some (false, .str x.shown) else none
    | none => none
  | _ => none
section
variable {X : Cx}
theorem cd_repr (hgd : X.A.guards = some []) (hu : X.A.units + 66 < cLine) : CallR X (.builtin "repr") (rDn X.K dRepr) := by
  rintro pins s σ H xs us Q I r ⟨B, ds, tr, rs, q⟩
  unfold dRepr at q
  split at q
  · rename_i d
    obtain ⟨v, rfl, rv⟩ := rs.one
    cases w : toP d with
    | none => rw [w] at q; exact q.elim
    | some x =>
      rw [w] at q
      simp only at q
      split at q
      · rename_i hz
        have dp := rv.dp w
        have q := q.str
        cases r with
        | cons ru rr =>
          cases rr
          rename_i u
          obtain ⟨as, rd⟩ := Dp.reads I x v u dp ru
          have nd := toP_noDict w
          cases dp with
          | non => cases ru; exact PySem.P.repr_of_none ⟨.str _, H, I.tok _, ⟨_, rfl⟩, q⟩
          | bl b => cases ru; exact PySem.P.repr_of_bool ⟨.str _, H, I.tok _, ⟨_, rfl⟩, q⟩
          | int i =>
            obtain ⟨t, rfl⟩ := ru
            exact PySem.P.repr_of_int (of_decide_eq_true hz.1) ⟨.str _, H, I.tok _, ⟨_, rfl⟩, q⟩
          | str i =>
            obtain ⟨t, rfl⟩ := ru
            exact PySem.P.repr_of_str ⟨.str _, H, I.tok _, ⟨_, rfl⟩, q⟩ hz.2.2
          | lst h1 h2 =>
            cases ru
            exact PySem.repr_of_reads' rd hz.1 (PyData.noDict_hsm nd) hgd (by omega) (fun _ _ e => e) (fun h' u tk hk => ⟨.str _, H, I.kept hk, ⟨_, rfl⟩, q⟩) hz.2.2
          | tup h1 h2 =>
            cases ru
            exact PySem.repr_of_reads' rd hz.1 (PyData.noDict_hsm nd) hgd (by omega) (fun _ _ e => e) (fun h' u tk hk => ⟨.str _, H, I.kept hk, ⟨_, rfl⟩, q⟩) hz.2.2
      · exact q.elim
  · exact q.elim
end

/-! ### flat things: in, not in -/
def fV : D → Option V
  | .non => some .non
  | .bl b => some (.bl b)
  | .int i => some (.int i)
  | .str x => some (.str x)
  | _ => none
def fVL : List D → Option (List V)
  | [] => some []
  | d :: ds => match fV d, fVL ds with
    | some v, some vs => some (v :: vs)
    | _, _ => none
theorem Rp.fv {K : Fg} {B : Ad} {H : Hp} {v u : V} {d : D} (h : Rp K B H v d) (q : fV d = some u) : v = u ∧ flatV v = true := by
  cases d <;> first | (cases q; done) | (cases q; cases h; exact ⟨rfl, rfl⟩)
theorem RpB.fv {K : Fg} {B : Ad} {H : Hp} {v u : V} {d : D} (h : RpB K B H v d) (q : fV d = some u) : v = u ∧ flatV v = true := by
  rcases h with h | ⟨p, _, h⟩
  · exact h.fv q
  · cases d <;> first | (cases q; done) | exact h.elim
theorem RpL.fv {K : Fg} {B : Ad} {H : Hp} : ∀ {vs : List V} {ds : List D} {us : List V}, RpL K B H vs ds → fVL ds = some us → vs = us ∧ vs.all flatV = true
  | _, [], _, .nil, q => by cases q; exact ⟨rfl, rfl⟩
  | _, d :: ds, _, .cons a r, q => by
    unfold fVL at q
    cases w : fV d with
    | none => simp only [w] at q; cases q
    | some u =>
      cases w2 : fVL ds with
      | none => simp only [w, w2] at q; cases q
      | some us =>
        simp only [w, w2] at q; cases q
        obtain ⟨e1, f1⟩ := a.fv w
        obtain ⟨e2, f2⟩ := r.fv w2
        exact ⟨by rw [e1, e2], by simp only [List.all_cons, f1, f2, Bool.and_self]⟩
def dIn (neg : Bool) (x y : D) : Option (Bool × D) := match y with
  | .lst ys => (match fV x, fVL ys with
    | some v, some vs => some (false, .bl (if neg then !inV v vs else inV v vs))
    | _, _ => none)
  | .tup ys => (match fV x, fVL ys with
    | some v, some vs => some (false, .bl (if neg then !inV v vs else inV v vs))
    | _, _ => none)
  | _ => none
section
variable {X : Cx}
theorem in_of {neg : Bool} {x y : V} {H : Hp} {Q : VK} (h : rD2 X.K (dIn neg) x y H Q) : rIn X.K neg x y H Q := by
  obtain ⟨B, dx, dy, tr, rx, ry, q⟩ := h
  unfold dIn at q
  split at q
  · rename_i ys
    obtain ⟨a, vs, rfl, hl, rl⟩ := ry.lst
    split at q
    · rename_i v us w w2
      obtain ⟨rfl, f1⟩ := rx.fv w
      obtain ⟨rfl, f2⟩ := rl.fv w2
      exact ⟨a, vs, rfl, .inl (SqL.of hl), f1, f2, q.bl⟩
    · exact q.elim
  · rename_i ys
    obtain ⟨a, vs, rfl, hl, rl⟩ := ry.tup
    split at q
    · rename_i v us w w2
      obtain ⟨rfl, f1⟩ := rx.fv w
      obtain ⟨rfl, f2⟩ := rl.fv w2
      exact ⟨a, vs, rfl, .inr hl.sq, f1, f2, q.bl⟩
    · exact q.elim
  · exact q.elim
theorem od_in : OpR X (compareOp .In) (rD2 X.K (dIn false)) := opr_imp op_in_seq fun x y H Q h => in_of h
theorem od_notin : OpR X (compareOp .NotIn) (rD2 X.K (dIn true)) := opr_imp op_notIn_seq fun x y H Q h => in_of h
/-! is None -/
def dIsN (neg : Bool) : D → Option (Bool × D)
  | .non => some (false, .bl (!neg))
  | .raw _ => none
  | _ => some (false, .bl neg)
theorem isN_of {K : Fg} {B : Ad} {H : Hp} {v : V} {d : D} {b : Bool} (r : RpB K B H v d) (q : dIsN false d = some (false, .bl b)) : decide (v = .non) = b := by
  cases d with
  | non => cases q; rw [r.non]; rfl
  | raw v => cases q
  | bl b => cases q; rw [r.bl]; rfl
  | int b => cases q; rw [r.int]; rfl
  | str b => cases q; rw [r.str]; rfl
  | tup ds => cases q; obtain ⟨a, vs, rfl, _⟩ := r.tup; rfl
  | lst ds => cases q; obtain ⟨a, vs, rfl, _⟩ := r.lst; rfl
  | scr ds => cases q; obtain ⟨a, vs, rfl, _⟩ := r.scr; rfl
  | ins C ds => cases q; obtain ⟨a, dx, fs, rfl, _⟩ := r.ins; rfl
  | dic ds =>
    cases q
    rcases r with r | ⟨p, rfl, _⟩
    · cases r <;> rfl
    · rfl
theorem dIsN_some {neg : Bool} {d : D} {x : Bool × D} (h : dIsN neg d = some x) : ∃ b, x = (false, .bl (if neg then !b else b)) ∧ dIsN false d = some (false, .bl b) := by
  cases d <;> first | (cases h; done) | (cases h; cases neg <;> exact ⟨_, rfl, rfl⟩)
variable {W : Wx} {a : Expr} {f : M RV} {pos pos' : Pos} {j : Nat}
theorem pd_isN (ha : PD X W a f) : PD X W (.Compare a [.Is] [.Constant .none j pos'] pos) (eOp1 (dIsN false) f) :=
  pe_imp (pe_cmp (pc_isN ha) rfl) fun σ H Q h => by
    obtain ⟨F, e, R, h⟩ := op1_of h
    refine ⟨F, e, R, h.imp fun r F1 e1 H1 p1 h1 v hv => ?_⟩
    obtain ⟨B, dx, tr, rx, q⟩ := h1 v hv
    cases w : dIsN false dx with
    | none => rw [w] at q; exact q.elim
    | some y =>
      obtain ⟨b, rfl, w2⟩ := dIsN_some w
      rw [w] at q
      rw [isN_of rx w2]
      exact q.bl
theorem pd_isNotN (ha : PD X W a f) : PD X W (.Compare a [.IsNot] [.Constant .none j pos'] pos) (eOp1 (dIsN true) f) :=
  pe_imp (pe_cmp (pc_notN ha) rfl) fun σ H Q h => by
    obtain ⟨F, e, R, h⟩ := op1_of h
    refine ⟨F, e, R, h.imp fun r F1 e1 H1 p1 h1 v hv => ?_⟩
    obtain ⟨B, dx, tr, rx, q⟩ := h1 v hv
    cases w : dIsN true dx with
    | none => rw [w] at q; exact q.elim
    | some y =>
      obtain ⟨b, rfl, w2⟩ := dIsN_some w
      rw [w] at q
      rw [isN_of rx w2]
      exact q.bl
end

/-! ### items, slices, lengths -/
def dIx : D → D → Option (Bool × D)
  | .lst xs, .int i => (match atI xs i with
    | some d => some (false, d)
    | none => none)
  | .tup xs, .int i => (match atI xs i with
    | some d => some (false, d)
    | none => none)
  | _, _ => none
theorem RpL.atI {K : Fg} {B : Ad} {H : Hp} {vs : List V} {ds : List D} {i : Int} {d : D} (h : RpL K B H vs ds) (q : L2.atI ds i = some d) : ∃ v, L2.atI vs i = some v ∧ Rp K B H v d := by
  unfold L2.atI at q ⊢
  rw [h.length]
  cases w : ixN ds.length i with
  | none => rw [w] at q; cases q
  | some j =>
    rw [w] at q
    exact h.get q
section
variable {X : Cx}
theorem id_ix : IxR X (rD2 X.K dIx) := ixr_imp (IxR.or ix_list ix_tup) fun x y H Q ⟨B, dx, dy, tr, rx, ry, q⟩ => by
  unfold dIx at q; split at q
  · obtain ⟨a, vs, rfl, hl, rl⟩ := rx.lst
    split at q
    · rename_i d w
      obtain ⟨v, e, rv⟩ := rl.atI w
      exact .inl ⟨a, vs, _, v, rfl, ry.int, SqL.of hl, e, q.old rv⟩
    · exact q.elim
  · obtain ⟨a, vs, rfl, hl, rl⟩ := rx.tup
    split at q
    · rename_i d w
      obtain ⟨v, e, rv⟩ := rl.atI w
      exact .inr ⟨a, vs, _, v, rfl, ry.int, hl.sq, e, q.old rv⟩
    · exact q.elim
  · exact q.elim
def dLen : List D → Option (Bool × D)
  | [.lst xs] => some (false, .int xs.length)
  | [.tup xs] => some (false, .int xs.length)
  | _ => none
theorem cd_len : CallR X (.builtin "len") (rDn X.K dLen) := callr_imp call_len_seq fun xs H Q ⟨B, ds, tr, rs, q⟩ => by
  unfold dLen at q; split at q
  · obtain ⟨v, rfl, r⟩ := rs.one
    obtain ⟨a, vs, rfl, hl, rl⟩ := r.lst
    exact ⟨a, vs, rfl, .inl (SqL.of hl), by rw [rl.length]; exact q.int⟩
  · obtain ⟨v, rfl, r⟩ := rs.one
    obtain ⟨a, vs, rfl, hl, rl⟩ := r.tup
    exact ⟨a, vs, rfl, .inr hl.sq, by rw [rl.length]; exact q.int⟩
  · exact q.elim
def dList : List D → Option (Bool × D)
  | [.lst xs] => some (true, .lst xs)
  | [.tup xs] => some (true, .lst xs)
  | _ => none
theorem cd_list : CallR X (.type "list") (rDn X.K dList) := callr_imp call_list_of fun xs H Q ⟨B, ds, tr, rs, q⟩ => by
  unfold dList at q; split at q
  · obtain ⟨v, rfl, r⟩ := rs.one
    obtain ⟨a, vs, rfl, hl, rl⟩ := r.lst
    exact ⟨a, vs, rfl, .inl (SqL.of hl), Res.newL q rl⟩
  · obtain ⟨v, rfl, r⟩ := rs.one
    obtain ⟨a, vs, rfl, hl, rl⟩ := r.tup
    exact ⟨a, vs, rfl, .inr hl.sq, Res.newL q rl⟩
  · exact q.elim
def dTuple : List D → Option (Bool × D)
  | [.lst xs] => some (false, .tup xs)
  | [.tup xs] => some (false, .tup xs)
  | _ => none
theorem cd_tuple : CallR X (.type "tuple") (rDn X.K dTuple) := callr_imp call_tuple_of fun xs H Q ⟨B, ds, tr, rs, q⟩ => by
  unfold dTuple at q; split at q
  · obtain ⟨v, rfl, r⟩ := rs.one
    obtain ⟨a, vs, rfl, hl, rl⟩ := r.lst
    exact ⟨a, vs, rfl, .inl ⟨SqL.of hl, Res.newT tr q rl⟩⟩
  · obtain ⟨v, rfl, r⟩ := rs.one
    obtain ⟨a, vs, rfl, hl, rl⟩ := r.tup
    exact ⟨a, vs, rfl, .inr ⟨hl.sq, q.old (.tup hl rl)⟩⟩
  · exact q.elim
/-! all, any, max, sum -/
def blL : List D → Option (List Bool)
  | [] => some []
  | .bl b :: ds => match blL ds with
    | some bs => some (b :: bs)
    | none => none
  | _ => none
def intL : List D → Option (List Int)
  | [] => some []
  | .int b :: ds => match intL ds with
    | some bs => some (b :: bs)
    | none => none
  | _ => none
theorem RpL.bls {K : Fg} {B : Ad} {H : Hp} : ∀ {vs : List V} {ds : List D} {bs : List Bool}, RpL K B H vs ds → blL ds = some bs → vs = bs.map V.bl
  | _, [], _, .nil, q => by cases q; rfl
  | _, .bl b :: ds, _, .cons a r, q => by
    unfold blL at q
    cases w : blL ds with
    | none => rw [w] at q; cases q
    | some bs => rw [w] at q; cases q; cases a; rw [r.bls w]; rfl
  | _, .non :: _, _, _, q => by cases q
  | _, .int _ :: _, _, _, q => by cases q
  | _, .str _ :: _, _, _, q => by cases q
  | _, .tup _ :: _, _, _, q => by cases q
  | _, .lst _ :: _, _, _, q => by cases q
  | _, .dic _ :: _, _, _, q => by cases q
  | _, .ins _ _ :: _, _, _, q => by cases q
  | _, .raw _ :: _, _, _, q => by cases q
  | _, .scr _ :: _, _, _, q => by cases q
theorem RpL.ints {K : Fg} {B : Ad} {H : Hp} : ∀ {vs : List V} {ds : List D} {bs : List Int}, RpL K B H vs ds → intL ds = some bs → vs = bs.map V.int
  | _, [], _, .nil, q => by cases q; rfl
  | _, .int b :: ds, _, .cons a r, q => by
    unfold intL at q
    cases w : intL ds with
    | none => rw [w] at q; cases q
    | some bs => rw [w] at q; cases q; cases a; rw [r.ints w]; rfl
  | _, .non :: _, _, _, q => by cases q
  | _, .bl _ :: _, _, _, q => by cases q
  | _, .str _ :: _, _, _, q => by cases q
  | _, .tup _ :: _, _, _, q => by cases q
  | _, .lst _ :: _, _, _, q => by cases q
  | _, .dic _ :: _, _, _, q => by cases q
  | _, .ins _ _ :: _, _, _, q => by cases q
  | _, .raw _ :: _, _, _, q => by cases q
  | _, .scr _ :: _, _, _, q => by cases q
def dAll : List D → Option (Bool × D)
  | [.lst xs] => (match blL xs with
    | some bs => some (false, .bl (bs.all id))
    | none => none)
  | _ => none
def dAny : List D → Option (Bool × D)
  | [.lst xs] => (match blL xs with
    | some bs => some (false, .bl (bs.any id))
    | none => none)
  | _ => none
theorem cd_all (hc : X.calm = true) : CallR X (.builtin "all") (rDn X.K dAll) := callr_imp (cr_all hc) fun xs H Q ⟨B, ds, tr, rs, q⟩ => by
  unfold dAll at q; split at q
  · obtain ⟨v, rfl, r⟩ := rs.one
    obtain ⟨a, vs, rfl, hl, rl⟩ := r.lst
    split at q
    · rename_i bs w
      exact ⟨a, bs, rfl, by rw [← rl.bls w]; exact SqL.of hl, q.bl⟩
    · exact q.elim
  · exact q.elim
theorem cd_any (hc : X.calm = true) : CallR X (.builtin "any") (rDn X.K dAny) := callr_imp (cr_any hc) fun xs H Q ⟨B, ds, tr, rs, q⟩ => by
  unfold dAny at q; split at q
  · obtain ⟨v, rfl, r⟩ := rs.one
    obtain ⟨a, vs, rfl, hl, rl⟩ := r.lst
    split at q
    · rename_i bs w
      exact ⟨a, bs, rfl, by rw [← rl.bls w]; exact SqL.of hl, q.bl⟩
    · exact q.elim
  · exact q.elim
def maxI : List Int → Int
  | [] => 0
  | [a] => a
  | a :: b :: r => max a (maxI (b :: r))
theorem maxI_eq {m : Int} : ∀ {ns : List Int}, m ∈ ns → (∀ y, y ∈ ns → y ≤ m) → m = maxI ns
  | [a], h, _ => by simpa [maxI] using h
  | a :: b :: r, h, k => by
    have hm : ∀ {l : List Int}, l ≠ [] → maxI l ∈ l := by
      intro l
      induction l with
      | nil => intro z; exact absurd rfl z
      | cons x l ih =>
        intro _
        cases l with
        | nil => simp [maxI]
        | cons y l =>
          have := ih (by simp)
          unfold maxI
          rw [Int.max_def]
          split
          · exact List.mem_cons_of_mem _ this
          · exact List.mem_cons_self ..
    have hle : ∀ {l : List Int} {y : Int}, y ∈ l → y ≤ maxI l := by
      intro l
      induction l with
      | nil => intro y z; cases z
      | cons x l ih =>
        intro y z
        cases l with
        | nil => simp at z; simp [maxI, z]
        | cons u l =>
          unfold maxI
          rcases List.mem_cons.mp z with z | z
          · rw [z]; exact Int.le_max_left ..
          · exact Int.le_trans (ih z) (Int.le_max_right ..)
    exact Int.le_antisymm (hle h) (k _ (hm (by simp)))
def dMax : List D → Option (Bool × D)
  | [.lst xs] => (match intL xs with
    | some (a :: r) => some (false, .int (maxI (a :: r)))
    | _ => none)
  | _ => none
theorem cd_max (hc : X.calm = true) : CallR X (.builtin "max") (rDn X.K dMax) := callr_imp (cr_max hc) fun xs H Q ⟨B, ds, tr, rs, q⟩ => by
  unfold dMax at q; split at q
  · obtain ⟨v, rfl, r⟩ := rs.one
    obtain ⟨a, vs, rfl, hl, rl⟩ := r.lst
    split at q
    · rename_i b bs w
      exact ⟨a, b :: bs, rfl, by rw [← rl.ints w]; exact SqL.of hl, by simp, fun m h1 h2 => by rw [maxI_eq h1 h2]; exact q.int⟩
    · exact q.elim
  · exact q.elim
def dSum : List D → Option (Bool × D)
  | [.lst xs] => (match intL xs with
    | some ns => some (false, .int ns.sum)
    | _ => none)
  | _ => none
theorem cd_sum (hc : X.calm = true) : CallR X (.builtin "sum") (rDn X.K dSum) := callr_imp (cr_sum hc) fun xs H Q ⟨B, ds, tr, rs, q⟩ => by
  unfold dSum at q; split at q
  · obtain ⟨v, rfl, r⟩ := rs.one
    obtain ⟨a, vs, rfl, hl, rl⟩ := r.lst
    split at q
    · rename_i bs w
      exact ⟨a, bs, rfl, by rw [← rl.ints w]; exact SqL.of hl, q.int⟩
    · exact q.elim
  · exact q.elim
end
end Cw

/-! Cw, part L: slices, ranges, isinstance, sorted(set(..)). -/
namespace Cw
open PySem L2

/-! ### slices -/
def cutG {α : Type} (xs : List α) (lo hi : Option Int) : List α := (xs.drop (HT.sIx xs.length 0 lo)).take (HT.sIx xs.length xs.length hi - HT.sIx xs.length 0 lo)
def dSl (d : D) (lo hi : Option Int) : Option (Bool × D) := match d with
  | .lst xs => some (true, .lst (cutG xs lo hi))
  | .scr xs => some (true, .lst (cutG xs lo hi))
  | .tup xs => some (false, .tup (cutG xs lo hi))
  | _ => none
def rDs (K : Fg) : V → Option Int → Option Int → Hp → VK → Prop := fun x lo hi H Q => ∃ B d, Trk B H ∧ RpB K B H x d ∧ Res K B H Q (dSl d lo hi)
theorem RpL.take {K : Fg} {B : Ad} {H : Hp} : ∀ {vs : List V} {ds : List D} (n : Nat), RpL K B H vs ds → RpL K B H (vs.take n) (ds.take n)
  | _, _, 0, _ => .nil
  | _, _, _ + 1, .nil => .nil
  | _, _, n + 1, .cons a r => .cons a (r.take n)
theorem RpL.drop {K : Fg} {B : Ad} {H : Hp} : ∀ {vs : List V} {ds : List D} (n : Nat), RpL K B H vs ds → RpL K B H (vs.drop n) (ds.drop n)
  | _, _, 0, h => h
  | _, _, _ + 1, .nil => .nil
  | _, _, n + 1, .cons a r => r.drop n
theorem RpL.cut {K : Fg} {B : Ad} {H : Hp} {vs : List V} {ds : List D} {lo hi : Option Int} (h : RpL K B H vs ds) : RpL K B H (cutV vs lo hi) (cutG ds lo hi) := by
  unfold cutV cutG
  rw [h.length]
  exact (h.drop _).take _
section
variable {X : Cx}
theorem sd_sl : SlR X (rDs X.K) := slr_imp (SlR.or sl_list sl_tupA) fun x lo hi H Q ⟨B, d, tr, rx, q⟩ => by
  unfold dSl at q; split at q
  · obtain ⟨a, vs, rfl, hl, rl⟩ := rx.lst
    exact .inl ⟨a, vs, rfl, SqL.of hl, Res.newL q rl.cut⟩
  · obtain ⟨a, vs, rfl, hl, rl⟩ := rx.scr
    exact .inl ⟨a, vs, rfl, hl, Res.newL q rl.cut⟩
  · rename_i xs
    obtain ⟨a, vs, rfl, hl, rl⟩ := rx.tup
    refine .inr ⟨a, vs, rfl, hl.sq, fun e => ?_, fun _ => Res.newT tr q rl.cut⟩
    have e2 : cutG xs lo hi = xs := by
      unfold cutG
      rw [← rl.length, e.1, e.2]
      simp only [List.drop_zero, Nat.sub_zero]
      rw [rl.length]
      exact List.take_length
    rw [e2] at q
    exact q.old (.tup hl rl)
  · exact q.elim
variable {W : Wx} {a l u : Expr} {f g h : M RV} {pos p2 : Pos} {lo hi : Option Expr}
def tO (W : Wx) (K : Fg) (f : M (Option Int)) : TO := fun σ H Q => ∃ F e, Rel K F σ H e ∧ Aft W K F σ H e (fun o F' e' H' => Q o H') (f e)
abbrev PDO (X : Cx) (W : Wx) (e : Option Expr) (f : M (Option Int)) : Prop := PO X e (tO W X.K f)
theorem po_imp {X : Cx} {e : Option Expr} {t u : TO} (h : PO X e t) (k : ∀ σ H Q, u σ H Q → t σ H Q) : PO X e u := ⟨fun pins s σ H Q I q => h.run pins s σ H Q I (k σ H Q q)⟩
def oNone : M (Option Int) := M.ret none
def oSome (f : M RV) : M (Option Int) := M.bind f fun r => M.bind (M.get r) fun d => match d with
  | .int i => M.ret (some i)
  | _ => M.bad
theorem pdo_none : PDO X W none oNone := po_imp po_none fun σ H Q ⟨F, e, R, h⟩ => h F H (.refl R)
theorem pdo_some (ha : PD X W a f) : PDO X W (some a) (oSome f) := po_imp (po_some ha) fun σ H Q ⟨F, e, R, h⟩ => ⟨F, e, R, h.bind.imp fun r F1 e1 H1 p1 h1 v hv => by
  obtain ⟨d, ld, rd, h2⟩ := get_of p1.rel hv h1
  cases d with
  | int i => exact ⟨i, rd.int, h2 F1 H1 (.refl p1.rel)⟩
  | _ => exact h2.elim⟩
def eSl (f : M RV) (lo hi : M (Option Int)) : M RV := M.bind f fun r => M.bind lo fun l => M.bind hi fun u => M.bind (M.get r) fun d => M.res (dSl d l u)
theorem pd_slice {fl fu : M (Option Int)} (ha : PD X W a f) (hl : PDO X W lo fl) (hu : PDO X W hi fu) : PD X W (.Subscript a (.Slice lo hi none p2) pos) (eSl f fl fu) :=
  pe_imp (pe_slice sd_sl ha hl hu) fun σ H Q ⟨F, e, R, h⟩ => ⟨F, e, R, h.bind.imp fun r F1 e1 H1 p1 h1 v hv => ⟨F1, e1, p1.rel, h1.bind.imp fun l F2 e2 H2 p2 h2 => ⟨F2, e2, p2.rel, h2.bind.imp fun u F3 e3 H3 p3 h3 => by
    obtain ⟨d, ld, rd, h4⟩ := get_of p3.rel ((hv.post p1.rel p2).post p2.rel p3) h3
    exact ⟨_, d, p3.rel.trk, rd, Res.of p3.rel (fun a z => p1.stp.back a (p2.stp.back a (p3.stp.back a z))) h4⟩⟩⟩⟩
end

/-! ### list(range(..)), tuple(range(..)) -/
def rg1 (f : M RV) : M (Int × Int) := M.bind f fun r => M.bind (M.get r) fun d => match d with
  | .int n => M.ret (0, n)
  | _ => M.bad
def rg2 (f g : M RV) : M (Int × Int) := M.bind f fun r => M.bind g fun s => M.bind (M.get r) fun d => M.bind (M.get s) fun d' => match d, d' with
  | .int i, .int j => M.ret (i, j)
  | _, _ => M.bad
noncomputable def rgOk (a b : Int) : Bool := @decide (-(2 ^ 62) ≤ a ∧ a < 2 ^ 62 ∧ -(2 ^ 62) ≤ b ∧ b < 2 ^ 62 ∧ (b - a).toNat ≤ 2 ^ 24) (Classical.propDecidable _)
theorem rgOk_iff {a b : Int} : rgOk a b = true ↔ (-(2 ^ 62) ≤ a ∧ a < 2 ^ 62 ∧ -(2 ^ 62) ≤ b ∧ b < 2 ^ 62 ∧ (b - a).toNat ≤ 2 ^ 24) := @decide_eq_true_iff _ (Classical.propDecidable _)
noncomputable def eLRg (f : M (Int × Int)) : M RV := M.bind f fun x => M.res (if rgOk x.1 x.2 = true then some (true, .lst (rangeD x.1 (x.2 - x.1).toNat)) else none)
noncomputable def eTRg (f : M (Int × Int)) : M RV := M.bind f fun x => M.res (if rgOk x.1 x.2 = true then some (false, .tup (rangeD x.1 (x.2 - x.1).toNat)) else none)
theorem rp_ints {K : Fg} {B : Ad} {H : Hp} {α : Type} (g : α → Int) : ∀ l : List α, RpL K B H (l.map fun x => V.int (g x)) (l.map fun x => D.int (g x))
  | [] => .nil
  | x :: l => .cons (.int _) (rp_ints g l)
section
variable {X : Cx} {W : Wx} {a b : Expr} {f g : M RV} {pos p p2 pos2 : Pos}
def tR (W : Wx) (K : Fg) (f : M (Int × Int)) : St → Hp → (Int → Int → Hp → Prop) → Prop := fun σ H Q => ∃ F e, Rel K F σ H e ∧ Aft W K F σ H e (fun x F' e' H' => Q x.1 x.2 H') (f e)
theorem prg_imp {e : Expr} {t u : St → Hp → (Int → Int → Hp → Prop) → Prop} (h : PRg X e t) (k : ∀ σ H Q, u σ H Q → t σ H Q) : PRg X e u := fun pins s σ H Q I q => h pins s σ H Q I (k σ H Q q)
theorem pdr_1 (hg : Gl X "range") (hm : X.mg "range" = none) (ha : PD X W a f) (na : starEach [a] X.env = (false, eval a X.env) :: starEach [] X.env := by rfl) : PRg X (.Call (.Name "range" p) [a] [] pos) (tR W X.K (rg1 f)) :=
  prg_imp (prg_1 hg hm ha na) fun σ H Q ⟨F, e, R, h⟩ => ⟨F, e, R, h.bind.imp fun r F1 e1 H1 p1 h1 v hv => by
    obtain ⟨d, ld, rd, h2⟩ := get_of p1.rel hv h1
    cases d with
    | int i => exact ⟨i, rd.int, h2 F1 H1 (.refl p1.rel)⟩
    | _ => exact h2.elim⟩
theorem pdr_2 (hg : Gl X "range") (hm : X.mg "range" = none) (ha : PD X W a f) (hb : PD X W b g) (na : starEach [a, b] X.env = (false, eval a X.env) :: starEach [b] X.env := by rfl)
    (nb : starEach [b] X.env = (false, eval b X.env) :: starEach [] X.env := by rfl) (hp : (backTo pos (starEach [b] X.env)).any (·.1) = false := by rfl) : PRg X (.Call (.Name "range" p) [a, b] [] pos) (tR W X.K (rg2 f g)) :=
  prg_imp (prg_2 hg hm ha hb na nb hp) fun σ H Q ⟨F, e, R, h⟩ => ⟨F, e, R, h.bind.imp fun r F1 e1 H1 p1 h1 v hv => ⟨F1, e1, p1.rel, h1.bind.imp fun s F2 e2 H2 p2 h2 w hw => by
    obtain ⟨d, ld, rd, h3⟩ := get_of p2.rel (hv.post p1.rel p2) h2
    obtain ⟨d', ld', rd', h4⟩ := get_of p2.rel hw h3
    cases d with
    | int i =>
      cases d' with
      | int j => exact ⟨i, j, rd.int, rd'.int, h4 F2 H2 (.refl p2.rel)⟩
      | _ => exact h4.elim
    | _ => exact h4.elim⟩⟩
variable {e : Expr} {fr : M (Int × Int)}
theorem pd_listRg (hc : X.calm = true) (hg : Gl X "list") (hm : X.mg "list" = none) (he : PRg X e (tR W X.K fr)) (na : starEach [e] X.env = (false, eval e X.env) :: starEach [] X.env := by rfl) : PD X W (.Call (.Name "list" p) [e] [] pos) (eLRg fr) :=
  pe_imp (pe_listRg hc hg hm he na) fun σ H Q ⟨F, e, R, h⟩ => ⟨F, e, R, h.bind.imp fun x F1 e1 H1 p1 h1 => by
    have h1 := Res.of p1.rel p1.stp.back h1
    split at h1
    · rename_i hz
      have hz := rgOk_iff.mp hz
      exact ⟨hz, Res.newL h1 (by unfold rgV rangeD; exact rp_ints _ _)⟩
    · exact h1.elim⟩
theorem pd_tupRg (hc : X.calm = true) (hg : Gl X "tuple") (hm : X.mg "tuple" = none) (he : PRg X e (tR W X.K fr)) (na : starEach [e] X.env = (false, eval e X.env) :: starEach [] X.env := by rfl) : PD X W (.Call (.Name "tuple" p) [e] [] pos) (eTRg fr) :=
  pe_imp (pe_tupRg hc hg hm he na) fun σ H Q ⟨F, e, R, h⟩ => ⟨F, e, R, h.bind.imp fun x F1 e1 H1 p1 h1 => by
    have h1 := Res.of p1.rel p1.stp.back h1
    split at h1
    · rename_i hz
      have hz := rgOk_iff.mp hz
      exact ⟨hz, Res.newT p1.rel.trk h1 (by unfold rgV rangeD; exact rp_ints _ _)⟩
    · exact h1.elim⟩
end

/-! ### isinstance -/
/-- the type of plain data -/
def tyS : D → Option String
  | .non => some "NoneType"
  | .bl _ => some "bool"
  | .int _ => some "int"
  | .str _ => some "str"
  | .tup _ => some "tuple"
  | .lst _ => some "list"
  | .dic ((.int _, _) :: _) => some "dict"
  | .dic ((.str _, _) :: _) => some "dict"
  | _ => none
/-- what is known of the program's classes Cs -/
structure ClsI (K : Fg) (C : Addr) : Prop where
  cl : Cls K C
  ha : PySem.W.findIn K (.ref C) "__class__" = some (some (.builtin "object.__class__"))
  hn : PySem.W.specialIn K (.builtin "object.__class__") "__get__" = some (some (.builtin "getset_descriptor.__get__"))
  htk : PySem.W.takesIn K (.builtin "object.__class__") = some true
  hm : PySem.W.mroIn K C (.type "object") = some true
theorem tyX_of {K : Fg} {B : Ad} {H : Hp} {v : V} {d : D} {t : String} (h : RpB K B H v d) (q : tyS d = some t) : TyX K H v (.type t) := by
  cases d with
  | non => cases q; rw [h.non]; exact .base .non
  | bl b => cases q; rw [h.bl]; exact .base (.bl b)
  | int b => cases q; rw [h.int]; exact .base (.int b)
  | str b => cases q; rw [h.str]; exact .base (.str b)
  | tup ds =>
    cases q
    obtain ⟨a, vs, rfl, t, _⟩ := h.tup
    rcases t with ⟨_, t | ⟨o, t⟩⟩ | ⟨o, its, n, h1, h2, _⟩
    · exact .base (.tup t)
    · exact .fTuple t
    · exact .kTuple h1 h2
  | lst ds =>
    cases q
    obtain ⟨a, vs, rfl, t, _⟩ := h.lst
    exact .base (.lst t)
  | dic ds =>
    have key : ∀ (k : D) (x : D) (r : List (D × D)), (∀ xs, k ≠ .tup xs) → ds = (k, x) :: r → TyX K H v (.type "dict") := fun k x r nt e => by
      subst e
      rcases h with h | ⟨p, rfl, ⟨kvs, h, _⟩ | ⟨kvs, h, _⟩⟩
      · cases h with
        | dK nb h r =>
          rcases h with h | ⟨o, h⟩
          · exact .base (.dK h)
          · exact .fDict h
        | dT nb h r =>
          rename_i kvs
          cases kvs with
          | nil => cases r
          | cons y ys =>
            cases r
            exact absurd rfl (nt _)
      · exact .base (.dK h)
      · exact .base (.dT h)
    match ds, q, key with
    | (.int i, x) :: r, q, key => cases q; exact key (.int i) x r (fun _ z => nomatch z) rfl
    | (.str i, x) :: r, q, key => cases q; exact key (.str i) x r (fun _ z => nomatch z) rfl
    | [], q, _ => cases q
    | (.non, _) :: _, q, _ => cases q
    | (.bl _, _) :: _, q, _ => cases q
    | (.tup _, _) :: _, q, _ => cases q
    | (.lst _, _) :: _, q, _ => cases q
    | (.dic _, _) :: _, q, _ => cases q
    | (.ins _ _, _) :: _, q, _ => cases q
    | (.raw _, _) :: _, q, _ => cases q
    | (.scr _, _) :: _, q, _ => cases q
  | _ => cases q
/-- what isinstance answers for the classes Cs of the program -/
def tysB : List String := ["NoneType", "bool", "int", "str", "tuple", "list", "dict"]
structure IsiK (K : Fg) (Cs : List Addr) : Prop where
  cl : ∀ C, C ∈ Cs → ClsI K C
  out : ∀ C, C ∈ Cs → ∀ T, T ∈ tysB → PySem.W.kitOne K (.ref C) (.type T) = some false
  inn : ∀ C, C ∈ Cs → ∀ T, T ∈ tysB → PySem.W.kitOne K (.type T) (.ref C) = some false
  two : ∀ C, C ∈ Cs → ∀ C', C' ∈ Cs → C' ≠ C → PySem.W.kitOne K (.ref C') (.ref C) = some false
def isiTy (Cs : List Addr) (d : D) (T : String) : Option Bool := match d with
  | .ins C _ => if C ∈ Cs ∧ T ∈ tysB then some false else none
  | d => match tyS d with
    | some t => kitB t T
    | none => none
def isiCl (Cs : List Addr) (d : D) (C : Addr) : Option Bool := match d with
  | .ins C' _ => if C' ∈ Cs ∧ C ∈ Cs then some (decide (C' = C)) else none
  | d => match tyS d with
    | some _ => if C ∈ Cs then some false else none
    | none => none
theorem tyS_in {d : D} {t : String} (h : tyS d = some t) : t ∈ tysB := by
  unfold tyS at h
  split at h <;> first | (cases h; done) | (cases h; simp [tysB])
def tyVal : D → Option Value
  | .ins C _ => some (.ref C)
  | d => (tyS d).map .type
/-- a value's type, and what isinstance says of one class -/
theorem isi_ty {K : Fg} {B : Ad} {H : Hp} {v : V} {d : D} {Cs : List Addr} {T : String} {b : Bool} (ik : IsiK K Cs) (h : RpB K B H v d) (q : isiTy Cs d T = some b) : ∃ t, tyVal d = some t ∧ TyX K H v t ∧ PySem.W.kitOne K t (.type T) = some b := by
  unfold isiTy at q
  split at q
  · split at q
    · rename_i hc
      cases q
      obtain ⟨a, dx, fs, rfl, ha, _⟩ := h.ins
      have c := ik.cl _ hc.1
      exact ⟨_, rfl, .base (.ins ha c.cl c.ha c.hn c.htk c.hm), ik.out _ hc.1 _ hc.2⟩
    · cases q
  · rename_i n
    split at q
    · rename_i w
      refine ⟨_, ?_, tyX_of h w, kit_ty q⟩
      unfold tyVal
      split
      · exact absurd rfl (n _ _)
      · rw [w]; rfl
    · cases q
theorem isi_cl {K : Fg} {B : Ad} {H : Hp} {v : V} {d : D} {Cs : List Addr} {C : Addr} {b : Bool} (ik : IsiK K Cs) (h : RpB K B H v d) (q : isiCl Cs d C = some b) : ∃ t, TyX K H v t ∧ PySem.W.kitOne K t (.ref C) = some b := by
  have gen : ∀ t, tyS d = some t → C ∈ Cs → ∃ t, TyX K H v t ∧ PySem.W.kitOne K t (.ref C) = some false := fun t w hc => ⟨_, tyX_of h w, ik.inn _ hc _ (tyS_in w)⟩
  unfold isiCl at q
  split at q
  · rename_i C' ds
    split at q
    · rename_i hc
      cases q
      obtain ⟨a, dx, fs, rfl, ha, _⟩ := h.ins
      have c := ik.cl _ hc.1
      refine ⟨_, .base (.ins ha c.cl c.ha c.hn c.htk c.hm), ?_⟩
      by_cases e : C' = C
      · subst e
        unfold PySem.W.kitOne
        simp
      · rw [decide_eq_false e]
        exact ik.two _ hc.2 _ hc.1 e
    · cases q
  · split at q
    · rename_i w
      split at q
      · rename_i hc
        cases q
        exact gen _ w hc
      · cases q
    · cases q
def dIsi (Cs : List Addr) : List D → Option (Bool × D)
  | [d, .raw (.ty T)] => (match isiTy Cs d T with
    | some b => some (false, .bl b)
    | none => none)
  | [d, .raw (.ref C)] => (match isiCl Cs d C with
    | some b => some (false, .bl b)
    | none => none)
  | _ => none
theorem RpB.raw {K : Fg} {B : Ad} {H : Hp} {v w : V} (h : RpB K B H v (.raw w)) : v = w := by
  rcases h with h | ⟨p, _, h⟩
  · cases h; rfl
  · exact h.elim
section
variable {X : Cx} {W : Wx} {Cs : List Addr}
theorem cd_isi (ik : IsiK X.K Cs) : CallR X (.builtin "isinstance") (rDn X.K (dIsi Cs)) := callr_imp call_isi fun xs H Q ⟨B, ds, tr, rs, q⟩ => by
  unfold dIsi at q; split at q
  · obtain ⟨v, w, rfl, rv, rw'⟩ := rs.two
    cases rw'.raw
    split at q
    · rename_i b hb
      obtain ⟨t, _, h1, h2⟩ := isi_ty ik rv hb
      exact ⟨v, _, t, _, b, rfl, .ty _, h1, h2, q.bl⟩
    · exact q.elim
  · obtain ⟨v, w, rfl, rv, rw'⟩ := rs.two
    cases rw'.raw
    split at q
    · rename_i b hb
      obtain ⟨t, h1, h2⟩ := isi_cl ik rv hb
      exact ⟨v, _, t, _, b, rfl, .own _, h1, h2, q.bl⟩
    · exact q.elim
  · exact q.elim
/-- isinstance(e, (T1, T2)) -/
def dIsi2 (Cs : List Addr) (T1 T2 : String) (d : D) : Option (Bool × D) := match isiTy Cs d T1, isiTy Cs d T2 with
  | some b, some c => some (false, .bl (b || c))
  | _, _ => none
theorem pd_isi2 {e : Expr} {f : M RV} {x1 x2 : Str} {T1 T2 : String} {p p1 p2 p3 pos : Pos} {k : Nat} (ik : IsiK X.K Cs) (he : PD X W e f) (hg : Gl X "isinstance") (hm : X.mg "isinstance" = none) (g1 : Gl X x1) (m1 : X.mg x1 = none) (v1 : bootBuiltins x1 = some (.type T1)) (g2 : Gl X x2) (m2 : X.mg x2 = none) (v2 : bootBuiltins x2 = some (.type T2))
    (n1 : x1 ≠ "__name__" := by decide) (d1 : (x1 == ("__debug__" : Str)) = false := by decide) (n2 : x2 ≠ "__name__" := by decide) (d2 : (x2 == ("__debug__" : Str)) = false := by decide)
    (s1 : starEach [.Name x1 p1, .Name x2 p2] X.env = (false, eval (.Name x1 p1) X.env) :: starEach [.Name x2 p2] X.env := by rfl) (s2 : starEach [.Name x2 p2] X.env = (false, eval (.Name x2 p2) X.env) :: starEach [] X.env := by rfl)
    (s3 : starEach [e, .Tuple [.Name x1 p1, .Name x2 p2] k p3] X.env = (false, eval e X.env) :: starEach [.Tuple [.Name x1 p1, .Name x2 p2] k p3] X.env := by rfl)
    (s4 : starEach [.Tuple [.Name x1 p1, .Name x2 p2] k p3] X.env = (false, eval (.Tuple [.Name x1 p1, .Name x2 p2] k p3) X.env) :: starEach [] X.env := by rfl) (hpl : (backTo pos (starEach [.Tuple [.Name x1 p1, .Name x2 p2] k p3] X.env)).any (·.1) = false := by rfl) :
    PD X W (.Call (.Name "isinstance" p) [e, .Tuple [.Name x1 p1, .Name x2 p2] k p3] [] pos) (eOp1 (dIsi2 Cs T1 T2) f) :=
  pe_imp (pe_callB call_isiT hg hm (by decide +kernel) (pa_cons he (pa_cons (pe_tup (pa_cons (pe_bltn (v := .ty T1) g1 m1 v1 rfl n1 d1) (pa_cons (pe_bltn (v := .ty T2) g2 m2 v2 rfl n2 d2) pa_nil s2) s1)) pa_nil s4) s3) (by decide) (by decide) s3 hpl) fun σ H Q h => by
    obtain ⟨F, e, R, h⟩ := op1_of h
    refine ⟨F, e, R, h.imp fun r F1 e1 H1 p1 h1 v hv => ?_⟩
    obtain ⟨B, dx, tr, rx, q⟩ := h1 v hv
    refine ⟨by show 2 ≤ sizeLine; decide, fun tp np => ?_⟩
    have sm := same_upd (o := .tup [V.ty T1, V.ty T2]) np
    have rx' : RpB X.K B (upd H1 tp (.tup [V.ty T1, V.ty T2])) v dx := by
      rcases rx with rx | ⟨p, rfl, o⟩
      · exact .inl (rx.step (fun a o q _ => sm a o q) fun a z => .inl z)
      · refine .inr ⟨p, rfl, o.step (fun a o q _ => sm a o q) (fun a z => .inl z) ?_⟩
        cases w : H1 p with
        | none => exact absurd w o.some
        | some ob => exact sm p ob w
    unfold dIsi2 at q
    cases w1 : isiTy Cs dx T1 with
    | none => simp only [w1] at q; exact q.elim
    | some b =>
      cases w2 : isiTy Cs dx T2 with
      | none => simp only [w1, w2] at q; exact q.elim
      | some c =>
        simp only [w1, w2] at q
        obtain ⟨t, t1, h1, h2⟩ := isi_ty ik rx' w1
        obtain ⟨t', t2, h3, h4⟩ := isi_ty ik rx' w2
        have et : t = t' := Option.some.inj (t1.symm.trans t2)
        subst et
        refine ⟨v, tp, [.ty T1, .ty T2], t, [.type T1, .type T2], b || c, rfl, upd_same, .cons (.ty _) (.cons (.ty _) .nil), h1, ?_, q _ _ sm (.bl _)⟩
        unfold PySem.W.kitAny
        rw [h2]
        cases b with
        | true => rfl
        | false =>
          unfold PySem.W.kitAny
          simp only [h4]
          cases c <;> rfl
end
end Cw

/-! Cw, part M: sorted(set(..)); instances made; fields, items and lists changed; two names at once. -/
namespace Cw
open PySem L2

/-! ### sorted(set(t)), t a tuple of ints -/
def insU (a : Int) : List Int → List Int
  | [] => [a]
  | b :: r => if a < b then a :: b :: r else if a = b then b :: r else b :: insU a r
def sortU : List Int → List Int
  | [] => []
  | a :: r => insU a (sortU r)
theorem mem_insU {a x : Int} : ∀ {l : List Int}, x ∈ insU a l ↔ x = a ∨ x ∈ l
  | [] => by simp [insU]
  | b :: r => by
    unfold insU
    split
    · simp
    · split
      · rename_i h; subst h; simp
      · simp only [List.mem_cons, mem_insU (l := r)]
        constructor
        · rintro (h | h | h)
          · exact .inr (.inl h)
          · exact .inl h
          · exact .inr (.inr h)
        · rintro (h | h | h)
          · exact .inr (.inl h)
          · exact .inl h
          · exact .inr (.inr h)
theorem mem_sortU {x : Int} : ∀ {l : List Int}, x ∈ sortU l ↔ x ∈ l
  | [] => by simp [sortU]
  | a :: r => by unfold sortU; rw [mem_insU, mem_sortU, List.mem_cons]
theorem asc_insU {a : Int} : ∀ {l : List Int}, l.Pairwise (· < ·) → (insU a l).Pairwise (· < ·)
  | [], _ => by simp [insU]
  | b :: r, h => by
    obtain ⟨h1, h2⟩ := List.pairwise_cons.mp h
    unfold insU
    split
    · rename_i hab
      refine List.pairwise_cons.mpr ⟨fun y hy => ?_, h⟩
      rcases List.mem_cons.mp hy with e | e
      · rw [e]; exact hab
      · exact Int.lt_trans hab (h1 y e)
    · split
      · exact h
      · rename_i n1 n2
        refine List.pairwise_cons.mpr ⟨fun y hy => ?_, asc_insU h2⟩
        rcases mem_insU.mp hy with e | e
        · rw [e]; omega
        · exact h1 y e
theorem asc_sortU : ∀ l : List Int, (sortU l).Pairwise (· < ·)
  | [] => .nil
  | a :: r => asc_insU (asc_sortU r)
/-- ascending lists with the same members are one -/
theorem asc_one : ∀ {l m : List Int}, l.Pairwise (· < ·) → m.Pairwise (· < ·) → (∀ x, x ∈ l ↔ x ∈ m) → l = m
  | [], [], _, _, _ => rfl
  | [], b :: r, _, _, h => by have := (h b).mpr (List.mem_cons_self ..); cases this
  | a :: r, [], _, _, h => by have := (h a).mp (List.mem_cons_self ..); cases this
  | a :: r, b :: s, h1, h2, h => by
    obtain ⟨p1, p2⟩ := List.pairwise_cons.mp h1
    obtain ⟨q1, q2⟩ := List.pairwise_cons.mp h2
    have e : a = b := by
      rcases List.mem_cons.mp ((h a).mp (List.mem_cons_self ..)) with e | e
      · exact e
      · rcases List.mem_cons.mp ((h b).mpr (List.mem_cons_self ..)) with e' | e'
        · exact e'.symm
        · have := q1 a e
          have := p1 b e'
          omega
    subst e
    congr 1
    refine asc_one p2 q2 fun x => ?_
    have hx := h x
    simp only [List.mem_cons] at hx
    constructor
    · intro z
      rcases hx.mp (.inr z) with e | e
      · have := p1 x z
        omega
      · exact e
    · intro z
      rcases hx.mpr (.inr z) with e | e
      · have := q1 x z
        omega
      · exact e
def dSortSet : D → Option (Bool × D)
  | .tup xs => (match intL xs with
    | some ns => if ns.length < 64 then some (true, .lst ((sortU ns).map .int)) else none
    | none => none)
  | _ => none
section
variable {X : Cx}
def rSetTI (K : Fg) (w : World) : List V → Hp → VK → Prop := fun xs H Q => ∃ (a : Addr) (ns : List Int), xs = [.ref a] ∧ SqT K H a (ns.map V.int) ∧ ns.length < 64 ∧ ∀ p c, H p = none → c < 64 → Q (.ref p) (upd H p (SetO w p (fun j => decide (j ∈ ns)) c))
theorem cr_setTI (hc : X.calm = true) : CallR X (.type "set") (rSetTI X.K X.w) := by
  rintro pins s σ H xs us Q I r ⟨a, ns, rfl, sq, hz, q⟩
  obtain ⟨its, rv, it, _⟩ := I.tuple sq
  cases r with
  | cons ru rr =>
    cases rr
    cases ru
    refine call_set_tupI ns (I.ok.hd hc) it (by simpa using rv.ints) (by have : scanBound = 4096 := rfl; omega) fun h' tk c R hc hk => ?_
    exact ⟨.ref _, _, I.laid (t' := tk) hk (Nat.le_refl _) (setO_new R), rfl, q _ c (I.hok.fresh (Nat.le_refl _)) (by omega)⟩
variable {W : Wx} {a : Expr} {f : M RV} {p p2 pos pos2 : Pos}
theorem pd_sortSet (hc : X.calm = true) (hg : Gl X "sorted") (hm : X.mg "sorted" = none) (hg2 : Gl X "set") (hm2 : X.mg "set" = none) (ha : PD X W a f)
    (s1 : starEach [a] X.env = (false, eval a X.env) :: starEach [] X.env := by rfl) (s2 : starEach [.Call (.Name "set" p2) [a] [] pos2] X.env = (false, eval (.Call (.Name "set" p2) [a] [] pos2) X.env) :: starEach [] X.env := by rfl) :
    PD X W (.Call (.Name "sorted" p) [.Call (.Name "set" p2) [a] [] pos2] [] pos) (eOp1 dSortSet f) :=
  pe_imp (pe_callB (cr_sortedSet hc) hg hm (by decide +kernel) (pa_cons (pe_callTy (cr_setTI hc) hg2 hm2 (by decide +kernel) (pa_cons ha pa_nil s1) (by decide) (by decide) s1 rfl) pa_nil s2) (by decide) (by decide) s2 rfl) fun σ H Q h => by
    obtain ⟨F, e, R, h⟩ := op1_of h
    refine ⟨F, e, R, h.imp fun r F1 e1 H1 p1 h1 v hv => ?_⟩
    obtain ⟨B, dx, tr, rx, q⟩ := h1 v hv
    unfold dSortSet at q
    split at q
    · rename_i xs
      obtain ⟨b, vs, rfl, t, rl⟩ := rx.tup
      split at q
      · rename_i ns w
        split at q
        · rename_i hz
          refine ⟨b, ns, rfl, by rw [← rl.ints w]; exact t.sq, hz, fun sp c nsp hc => ?_⟩
          have sm := same_upd (o := SetO X.w sp (fun j => decide (j ∈ ns)) c) nsp
          refine ⟨sp, _, c, rfl, upd_same, hc, fun ms p2 asc mem _ np => ?_⟩
          have em : ms = sortU ns := asc_one asc (asc_sortU ns) fun x => by
            rw [mem, mem_sortU]
            exact decide_eq_true_iff
          have np1 : H1 p2 = none := sm.free np
          have sm2 := same_upd (o := .lst (ms.map V.int)) np
          refine q p2 _ (sm.trans sm2) np1 ⟨_, upd_same, ?_⟩
          rw [em]
          exact rp_ints id (sortU ns)
        · exact q.elim
      · exact q.elim
    · exact q.elim
end

/-! ### an instance is made -/
def makeM (C : Addr) (modes : List Bool) (G : Fn) (rs : List RV) : M RV := fun e =>
  if (muI modes rs).Nodup then (match gather modes rs e with
    | none => .bad
    | some ds => match G (.ins C [] :: ds) with
      | .ok (false, .non) (m0 :: ms) => (match scatter (muI modes rs) ms e with
        | some e' => .ok (.fr m0) e'
        | none => .bad)
      | _ => .bad) else .bad
def eMake (C : Addr) (modes : List Bool) (G : Fn) (fs : M (List RV)) : M RV := M.bind fs (makeM C modes G)
section
variable {K : Fg} {F : Fx} {σ : St} {H : Hp} {e : En} {x : Addr}
theorem getE_app {s : Option (Fl × D)} : ∀ {e : En} {i : Nat} {y : Fl × D}, getE (e ++ [s]) i = some y → getE e i = some y ∨ (i = e.length ∧ s = some y)
  | [], 0, y, h => .inr ⟨rfl, h⟩
  | [], i + 1, y, h => by cases h
  | z :: e, 0, y, h => .inl h
  | z :: e, i + 1, y, h => (getE_app (e := e) (i := i) h).imp id fun h => ⟨congrArg (· + 1) h.1, h.2⟩
theorem getE_app_l {s : Option (Fl × D)} : ∀ {e : En} {i : Nat}, i < e.length → getE (e ++ [s]) i = getE e i
  | z :: e, 0, h => rfl
  | z :: e, i + 1, h => getE_app_l (e := e) (i := i) (by simpa using h)
theorem getE_app_r {s : Option (Fl × D)} : ∀ {e : En}, getE (e ++ [s]) e.length = s
  | [] => rfl
  | z :: e => getE_app_r (e := e)
theorem getS_app_l {s : Option V} : ∀ {e : St} {i : Nat}, i < e.length → getS (e ++ [s]) i = getS e i
  | z :: e, 0, h => rfl
  | z :: e, i + 1, h => getS_app_l (e := e) (i := i) (by simpa using h)
theorem getS_app_r {s : Option V} : ∀ {e : St}, getS (e ++ [s]) e.length = s
  | [] => rfl
  | z :: e => getS_app_r (e := e)
theorem own_app {d : D} (hl : e.length = σ.length) (a : Addr) : Own (σ ++ [some (.ref x)]) (e ++ [some (.ow, d)]) a ↔ Own σ e a ∨ a = x := by
  constructor
  · rintro ⟨i, f, d', q, n, s⟩
    rcases getE_app q with q | ⟨q, z⟩
    · rw [getS_app_l (hl ▸ getE_lt q)] at s
      exact .inl ⟨i, f, d', q, n, s⟩
    · subst q
      rw [hl, getS_app_r] at s
      cases s
      exact .inr rfl
  · rintro (⟨i, f, d', q, n, s⟩ | rfl)
    · have hi := getE_lt q
      exact ⟨i, f, d', by rw [getE_app_l hi]; exact q, n, by rw [getS_app_l (hl ▸ hi)]; exact s⟩
    · exact ⟨e.length, .ow, d, getE_app_r, by decide, by rw [hl]; exact getS_app_r⟩
/-- a new object as one slot more -/
theorem Rel.push {d : D} (R : Rel K (F.plus x) σ H e) (nx : ¬ F.bx x) (o : OwnAt K (Bd (F.plus x) σ e) H x d) : Rel K F (σ ++ [some (.ref x)]) H (e ++ [some (.ow, d)]) := by
  have ow := own_app (x := x) (d := d) R.len
  have bd : ∀ a, Bd F (σ ++ [some (.ref x)]) (e ++ [some (.ow, d)]) a → Bd (F.plus x) σ e a := fun a z => by
    rcases z with z | z
    · exact .inl (.inl z)
    · rcases (ow a).mp z with z | z
      · exact .inr z
      · exact .inl (.inr z)
  have sl : ∀ {i y}, getE e i = some y → getS (σ ++ [some (.ref x)]) i = getS σ i := fun q => getS_app_l (R.len ▸ getE_lt q)
  have nxo : ¬ Own σ e x := (R.ext x (.inr rfl)).1
  refine ⟨by simp [R.len], fun i d' q => ?_, fun i f d' q n => ?_, fun i j f g d1 d2 p q1 n1 q2 n2 s1 s2 => ?_, fun a z => ⟨fun w => ?_, (R.ext a (.inl z)).2⟩, fun q hq => ?_⟩
  · rcases getE_app q with q | ⟨_, z⟩
    · obtain ⟨v, a, b⟩ := R.val i d' q
      exact ⟨v, by rw [sl q]; exact a, b.anti bd⟩
    · cases z
  · rcases getE_app q with q | ⟨hi, z⟩
    · obtain ⟨v, a, b⟩ := R.own i f d' q n
      exact ⟨v, by rw [sl q]; exact a, b.anti bd⟩
    · cases z
      subst hi
      exact ⟨x, by rw [R.len]; exact getS_app_r, o.anti bd⟩
  · rcases getE_app q1 with q1 | ⟨hi, z1⟩
    · rw [sl q1] at s1
      rcases getE_app q2 with q2 | ⟨hj, z2⟩
      · rw [sl q2] at s2
        exact R.dist i j f g d1 d2 p q1 n1 q2 n2 s1 s2
      · subst hj
        rw [R.len, getS_app_r] at s2
        cases s2
        exact absurd ⟨i, f, d1, q1, n1, s1⟩ nxo
    · subst hi
      rw [R.len, getS_app_r] at s1
      cases s1
      rcases getE_app q2 with q2 | ⟨hj, z2⟩
      · rw [sl q2] at s2
        exact absurd ⟨j, g, d2, q2, n2, s2⟩ nxo
      · exact hj.symm
  · rcases (ow a).mp w with w | w
    · exact (R.ext a (.inl z)).1 w
    · exact nx (w ▸ z)
  · obtain ⟨a, d', b⟩ := R.pin q hq
    exact ⟨by rw [sl b]; exact a, d', by rw [getE_app_l (getE_lt b)]; exact b⟩
theorem Rel.pop {d : D} (hl : e.length = σ.length) (R : Rel K F (σ ++ [some (.ref x)]) H (e ++ [some (.ow, d)])) : Rel K (F.plus x) σ H e ∧ OwnAt K (Bd (F.plus x) σ e) H x d := by
  have ow := own_app (x := x) (d := d) hl
  have bd : ∀ a, Bd (F.plus x) σ e a → Bd F (σ ++ [some (.ref x)]) (e ++ [some (.ow, d)]) a := fun a z => by
    rcases z with (z | z) | z
    · exact .inl z
    · exact .inr ((ow a).mpr (.inr z))
    · exact .inr ((ow a).mpr (.inl z))
  have sl : ∀ {i y}, getE e i = some y → getE (e ++ [some (.ow, d)]) i = some y ∧ getS (σ ++ [some (.ref x)]) i = getS σ i := fun q => ⟨by rw [getE_app_l (getE_lt q)]; exact q, getS_app_l (hl ▸ getE_lt q)⟩
  obtain ⟨p, s, o⟩ := R.own e.length .ow d getE_app_r (by decide)
  rw [hl, getS_app_r] at s
  cases s
  refine ⟨⟨hl, fun i d' q => ?_, fun i f d' q n => ?_, fun i j f g d1 d2 p q1 n1 q2 n2 s1 s2 => ?_, fun a z => ?_, fun q hq => ?_⟩, o.anti bd⟩
  · obtain ⟨v, a, b⟩ := R.val i d' (sl q).1
    exact ⟨v, by rw [← (sl q).2]; exact a, b.anti bd⟩
  · obtain ⟨v, a, b⟩ := R.own i f d' (sl q).1 n
    exact ⟨v, by rw [← (sl q).2]; exact a, b.anti bd⟩
  · exact R.dist i j f g d1 d2 p (sl q1).1 n1 (sl q2).1 n2 (by rw [(sl q1).2]; exact s1) (by rw [(sl q2).2]; exact s2)
  · rcases z with z | z
    · obtain ⟨h1, h2⟩ := R.ext a z
      exact ⟨fun w => h1 ((ow a).mpr (.inl w)), h2⟩
    · rw [z]
      refine ⟨fun ⟨i, f, d', q, n, s⟩ => ?_, o.some⟩
      have := R.dist i e.length f .ow d' d x (sl q).1 n getE_app_r (by decide) (by rw [(sl q).2]; exact s) (by rw [hl]; exact getS_app_r)
      have := getE_lt q
      omega
  · obtain ⟨a, d', b⟩ := R.pin q hq
    rcases getE_app b with b | ⟨hi, z⟩
    · exact ⟨by rw [← (sl b).2]; exact a, d', b⟩
    · cases z
theorem scatter_app {s : Option (Fl × D)} : ∀ {is : List Nat} {ds : List D} {e e2 : En}, scatter is ds e = some e2 → scatter is ds (e ++ [s]) = some (e2 ++ [s])
  | [], [], e, e2, h => by cases h; rfl
  | i :: is, d :: ds, e, e2, h => by
    unfold scatter at h ⊢
    cases w : getE e i with
    | none => simp only [w] at h; cases h
    | some y =>
      obtain ⟨f, d0⟩ := y
      simp only [w] at h
      have hi := getE_lt w
      rw [getE_app_l hi, w]
      simp only
      rw [List.set_append_left _ _ hi]
      exact scatter_app h
  | [], _ :: _, _, _, h => by cases h
  | _ :: _, [], _, _, h => by cases h
theorem gather_app {s : Option (Fl × D)} : ∀ {ms : List Bool} {rs : List RV} {ds : List D}, gather ms rs e = some ds → gather ms rs (e ++ [s]) = some ds
  | [], [], ds, h => h
  | false :: ms, .sh d :: rs, ds, h => by
    unfold gather at h ⊢
    cases w : gather ms rs e with
    | none => rw [w] at h; cases h
    | some dr => rw [w] at h; rw [gather_app w]; exact h
  | true :: ms, .sl i :: rs, ds, h => by
    unfold gather at h ⊢
    cases g : getE e i with
    | none => simp only [g] at h; cases h
    | some y =>
      obtain ⟨f, d⟩ := y
      rw [getE_app_l (getE_lt g), g]
      cases w : gather ms rs e with
      | none => cases f <;> simp only [g, w] at h <;> cases h
      | some dr => cases f <;> simp only [g, w] at h <;> first | (cases h; done) | (rw [gather_app w]; exact h)
  | [], _ :: _, ds, h => by cases h
  | false :: _, [], ds, h => by cases h
  | true :: _, [], ds, h => by cases h
  | false :: _, .fr _ :: _, ds, h => by cases h
  | false :: _, .sl _ :: _, ds, h => by cases h
  | true :: _, .sh _ :: _, ds, h => by cases h
  | true :: _, .fr _ :: _, ds, h => by cases h
theorem muI_lt : ∀ {ms : List Bool} {rs : List RV} {ds : List D}, gather ms rs e = some ds → ∀ i, i ∈ muI ms rs → i < e.length
  | [], [], ds, h, i, hi => by cases hi
  | false :: ms, .sh d :: rs, ds, h, i, hi => by
    unfold gather at h
    cases w : gather ms rs e with
    | none => rw [w] at h; cases h
    | some dr => exact muI_lt w i hi
  | true :: ms, .sl j :: rs, ds, h, i, hi => by
    unfold gather at h
    cases g : getE e j with
    | none => simp only [g] at h; cases h
    | some y =>
      obtain ⟨f, d⟩ := y
      cases w : gather ms rs e with
      | none => cases f <;> simp only [g, w] at h <;> cases h
      | some dr =>
        rcases List.mem_cons.mp hi with z | z
        · rw [z]; exact getE_lt g
        · exact muI_lt w i z
  | [], _ :: _, ds, h, i, hi => by cases h
  | false :: _, [], ds, h, i, hi => by cases h
  | true :: _, [], ds, h, i, hi => by cases h
  | false :: _, .fr _ :: _, ds, h, i, hi => by cases h
  | false :: _, .sl _ :: _, ds, h, i, hi => by cases h
  | true :: _, .sh _ :: _, ds, h, i, hi => by cases h
  | true :: _, .fr _ :: _, ds, h, i, hi => by cases h
theorem HeldL.app {H0 : Hp} {s : V} {d : D} (hl : e.length = σ.length) (R : Rel K (F.plus x) σ H e) (k : ∀ a, Bd F (σ ++ [some (.ref x)]) (e ++ [some (.ow, d)]) a → Bd (F.plus x) σ e a) : ∀ {vs : List V} {rs : List RV} {ms : List Bool} {ds : List D}, gather ms rs e = some ds → HeldL K (F.plus x) σ H0 H e vs rs → HeldL K F (σ ++ [some (.ref x)]) H H (e ++ [some (.ow, d)]) vs rs
  | [], [], ms, ds, g, h => trivial
  | v :: vs, .sh d' :: rs, ms, ds, g, h => by
    refine ⟨Rp.anti h.1 k, ?_⟩
    match ms, g with
    | false :: ms, g =>
      unfold gather at g
      cases w : gather ms rs e with
      | none => rw [w] at g; cases g
      | some dr => exact HeldL.app (s := s) hl R k w h.2
  | v :: vs, .sl i :: rs, ms, ds, g, h => by
    match ms, g with
    | true :: ms, g =>
      unfold gather at g
      cases q : getE e i with
      | none => simp only [q] at g; cases g
      | some y =>
        obtain ⟨f, d0⟩ := y
        refine ⟨show getS (σ ++ [some (.ref x)]) i = some v by rw [getS_app_l (hl ▸ getE_lt q)]; exact h.1, ?_⟩
        cases w : gather ms rs e with
        | none => cases f <;> simp only [q, w] at g <;> cases g
        | some dr => exact HeldL.app (s := s) hl R k w h.2
  | v :: vs, .fr d' :: rs, ms, ds, g, h => by
    match ms, g with
    | false :: ms, g => cases g
    | true :: ms, g => cases g
    | [], g => cases g
  | [], _ :: _, _, _, _, h => h.elim
  | _ :: _, [], _, _, _, h => h.elim
end
section
variable {X : Cx} {W : Wx} {x : Str} {p pos : Pos} {e : Expr} {es : List Expr} {fs : M (List RV)} {CX : CXT} {k : Nat} {f C : Addr} {fd : FuncData} {ps : List Str} {modes : List Bool} {G : Fn}
theorem make_of {K : Fg} {σ : St} {H : Hp} {Q : VK} {E : XK} (h : tE W K (eMake C modes G fs) σ H Q) : tMake C (spD K (true :: modes) G) [] E (tA W K fs) σ H Q := by
  obtain ⟨F, e, R, h⟩ := h
  refine ⟨F, e, R, h.bind.imp fun rs F1 e1 H1 p1 h1 vs hv x dx nx ndx hne => ?_⟩
  rw [List.append_nil]
  unfold makeM at h1
  by_cases nd : (muI modes rs).Nodup
  · rw [if_pos nd] at h1
    cases hg : gather modes rs e1 with
    | none => simp only [hg] at h1; exact h1.elim
    | some ds =>
      simp only [hg] at h1
      have main : ∀ m0 ms e2, G (.ins C [] :: ds) = .ok (false, .non) (m0 :: ms) → scatter (muI modes rs) ms e1 = some e2 → Aft W K F1 σ H1 e1 (fun r F' e' H' => ∀ v, Held K F' σ H H' e' v r → Q v H') (.ok (.fr m0) e2) →
          spD K (true :: modes) G (.ref x :: vs) (upd (upd H1 dx (.own x)) x (.ins C dx [])) (fun v H2 => v = .non ∧ Q (.ref x) H2) E := fun m0 ms e2 hG hs h1 => by
        have s1 := same_upd (o := .own x) ndx
        have nx1 : upd H1 dx (.own x) x = none := by rw [upd_ne (Ne.symm hne)]; exact nx
        have sm : Same H1 (upd (upd H1 dx (.own x)) x (.ins C dx [])) := s1.trans (same_upd nx1)
        have R1 := p1.rel.plus sm nx (by rw [upd_same]; exact fun z => nomatch z)
        have nbx : ¬ F1.bx x := fun z => (p1.rel.ext x z).2 nx
        have o1 : OwnAt K (Bd (F1.plus x) σ e1) (upd (upd H1 dx (.own x)) x (.ins C dx [])) x (.ins C []) := ⟨dx, [], upd_same, .nil⟩
        have R2 := R1.push nbx o1
        have hl := p1.rel.len
        have ow := own_app (x := x) (d := .ins C []) hl
        have pp : Post K F1 σ H1 e1 (F1.plus x) σ (upd (upd H1 dx (.own x)) x (.ins C dx [])) e1 := ⟨R1, .same sm, fun _ z => .inl z, ⟨rfl, fun a z => .inl z, fun a z => z.elim .inl fun z => .inr (z ▸ nx)⟩⟩
        have kk : ∀ a, Bd F1 (σ ++ [some (.ref x)]) (e1 ++ [some (.ow, .ins C [])]) a → Bd (F1.plus x) σ e1 a := fun a z => by
          rcases z with z | z
          · exact .inl (.inl z)
          · rcases (ow a).mp z with z | z
            · exact .inr z
            · exact .inl (.inr z)
        have hv2 := HeldL.app (s := .non) (d := .ins C []) hl R1 kk hg (hv.post p1.rel pp)
        refine call_sp (F := F1) (σ := σ ++ [some (.ref x)]) (e := (e1 ++ [some (Fl.ow, D.ins C [])] : En)) (H0 := upd (upd H1 dx (.own x)) x (.ins C dx [])) (e2 := (e2 ++ [some (Fl.ow, m0)] : En)) (rs := .sl e1.length :: rs) (ds := .ins C [] :: ds) (ms := m0 :: ms) (r := (false, .non)) R2 ⟨?_, hv2⟩ ?_ ?_ hG ?_ fun v H' F' po hh => ?_
        · show getS (σ ++ [some (.ref x)]) e1.length = some (.ref x)
          rw [hl]; exact getS_app_r
        · exact List.nodup_cons.mpr ⟨fun z => absurd (muI_lt hg _ z) (Nat.lt_irrefl _), nd⟩
        · show (match getE ((e1 ++ [some (Fl.ow, D.ins C [])]) : En) e1.length with
            | some (.sh, _) => none
            | some (_, d) => (match gather modes rs ((e1 ++ [some (Fl.ow, D.ins C [])]) : En) with
              | some ds => some (d :: ds)
              | none => none)
            | none => none) = some (.ins C [] :: ds)
          rw [getE_app_r, gather_app hg]
        · show (match getE ((e1 ++ [some (Fl.ow, D.ins C [])]) : En) e1.length with
            | some (f, _) => scatter (muI modes rs) ms (((e1 ++ [some (Fl.ow, D.ins C [])]) : En).set e1.length (some (f, m0)))
            | none => none) = some (e2 ++ [some (.ow, m0)])
          rw [getE_app_r]
          simp only
          rw [List.set_append_right _ _ (Nat.le_refl _), Nat.sub_self]
          exact scatter_app hs
        · have ev : v = .non := by cases hh; rfl
          refine ⟨ev, ?_⟩
          have hl2 : e2.length = σ.length := by rw [(scatter_spec nd hs).1]; exact hl
          obtain ⟨R3, o3⟩ := po.rel.pop hl2
          have ow2 := own_app (x := x) (d := m0) hl2
          have bk : ∀ a, upd (upd H1 dx (.own x)) x (.ins C dx []) a = none → H1 a = none := fun a q => sm.free q
          refine h1 (F'.plus x) H' ⟨R3, ⟨fun a o q n => po.stp.keep a o (sm a o q) fun z => ?_, fun a q => bk a (po.stp.back a q)⟩, fun a z => ?_, ⟨po.le.pn, fun a z => .inl (po.le.up a z), fun a z => ?_⟩⟩ _ ⟨x, rfl, p1.stp.back x nx, .inr rfl, o3⟩
          · rcases (ow a).mp z with z | z
            · exact n z
            · rw [z, nx] at q; cases q
          · rcases po.ow a ((ow2 a).mpr (.inl z)) with z | z
            · rcases (ow a).mp z with z | z
              · exact .inl z
              · exact .inr (z ▸ nx)
            · exact .inr (bk a z)
          · rcases z with z | z
            · exact (po.le.dn a z).imp id (bk a)
            · exact .inr (z ▸ nx)
      cases hG : G (.ins C [] :: ds) with
      | bad => simp only [hG] at h1; exact h1.elim
      | exc x ms => simp only [hG] at h1; exact h1.elim
      | ok r ms =>
        simp only [hG] at h1
        obtain ⟨b, d⟩ := r
        cases b with
        | true => exact h1.elim
        | false =>
          cases d with
          | non =>
            cases ms with
            | nil => exact h1.elim
            | cons m0 ms =>
              simp only at h1
              cases hs : scatter (muI modes rs) ms e1 with
              | none => simp only [hs] at h1; exact h1.elim
              | some e2 =>
                simp only [hs] at h1
                exact main m0 ms e2 hG hs h1
          | _ => exact h1.elim
  · rw [if_neg nd] at h1; exact h1.elim
theorem pd_make (Mc : Mk X.K C f) (Fo : FnG X.prog X.w X.K X.mg X.base CX k f fd ps (spD X.K (true :: modes) G)) (hr : Room (k + 1) X.A) (hgd : X.A.guards = some []) (hg : Gl X x) (hm : X.mg x = some (.ref C)) (hb : Binds X.K fd ps []) (hx : Passes CX X E0) (ha : PDA X W (e :: es) fs)
    (hdb : (x == ("__debug__" : Str)) = false := by decide) (he : starEach (e :: es) X.env = (false, eval e X.env) :: starEach es X.env := by rfl) (hpl : (backTo pos (starEach es X.env)).any (·.1) = false := by rfl) :
    PD X W (.Call (.Name x p) (e :: es) [] pos) (eMake C modes G fs) :=
  pe_imp (peg_make Mc Fo hr hgd hg hm hb .nil hx ha hdb he hpl) fun _ _ _ => make_of
end

/-! ### self.f = e -/
def putD (n : Str) (d : D) : List (Str × D) → List (Str × D)
  | [] => [(n, d)]
  | (m, x) :: r => if m = n then (m, d) :: r else (m, x) :: putD n d r
theorem RpF.put {K : Fg} {B : Ad} {H : Hp} {n : Str} {v : V} {d : D} (r : Rp K B H v d) : ∀ {vs : List (Str × V)} {ds : List (Str × D)}, RpF K B H vs ds → RpF K B H (putF n v vs) (putD n d ds)
  | _, _, .nil => .cons r .nil
  | _, _, .cons (n := m) a t => by
    unfold putF putD
    split
    · exact .cons r t
    · exact .cons a (RpF.put r t)
def sFldS (C : Addr) (i : Nat) (n : Str) (g : M RV) : S := M.then (M.bind g M.esc) fun d => fun e => match getE e i with
  | some (.sh, _) => .bad
  | some (f, .ins C' ds) => if C' = C ∧ ds.length < 1000 then .nx (e.set i (some (f, .ins C' (putD n d ds)))) else .bad
  | _ => .bad
section
variable {X : Cx} {W : Wx} {x n : Str} {p pos pos' : Pos} {v : Expr} {g : M RV} {C : Addr} {i : Nat}
theorem pds_fldS (hN : X.N[i]? = some x) (hv : Vis X.env.scope x) (hc : Cls X.K C) (hn : NoAttr X.K C n) (he : PD X W v g) (hs : swapsWith v (some (.Attribute (.Name x p) n pos')) pos.line X.env = pure false := by rfl)
    (hd : (x == ("__debug__" : Str)) = false := by decide) (hcd : (x == ("__classdict__" : Str)) = false := by decide) : PDS X W (.Assign [.Attribute (.Name x p) n pos'] v pos) (sFldS C i n g) :=
  ps_imp (ps_fld (pe_var hN hv hd hcd) he hs) fun Dn σ H ⟨F, e, R, h⟩ => ⟨F, e, R, esc_of R (k := fun d F1 e1 H1 => Rel X.K F1 σ H1 e1 ∧ SAft W X.K F1 σ H1 e1 Dn ((fun e => match getE e i with
      | some (.sh, _) => SR.bad
      | some (f, .ins C' ds) => if C' = C ∧ ds.length < 1000 then .nx (e.set i (some (f, .ins C' (putD n d ds)))) else .bad
      | _ => .bad) e1)) (fun d F1 e1 H1 y ⟨R1, h1⟩ ry => by
    cases w : getE e1 i with
    | none => simp only [w] at h1; exact h1.elim
    | some z =>
      obtain ⟨f, d0⟩ := z
      have own : f ≠ .sh → ∀ C' ds, d0 = .ins C' ds → (SAft W X.K F1 σ H1 e1 Dn (if C' = C ∧ ds.length < 1000 then .nx (e1.set i (some (f, .ins C' (putD n d ds)))) else .bad)) → tVar i σ H1 fun x H2 => ∃ a C dx fs, x = .ref a ∧ H2 a = some (.ins C dx fs) ∧ Cls X.K C ∧ NoAttr X.K C n ∧ fs.length < 1000 ∧ Dn.nx σ (upd H2 a (.ins C dx (putF n y fs))) 
         := fun nf C' ds ed h9 => by
        subst ed
        obtain ⟨q, s, dx, fs, ha, rf⟩ := R1.own i f _ w nf
        split at h9
        · rename_i hC
          obtain ⟨rfl, hz⟩ := hC
          have bq : Bd F1 σ e1 q := .inr ⟨i, f, _, w, nf, s⟩
          obtain ⟨po, _⟩ := R1.mut (o := .ins C' dx (putF n y fs)) (d' := .ins C' (putD n d ds)) w nf s ⟨dx, _, upd_same, (RpF.put ry rf).step (step_upd bq) fun a z => .inl z⟩
          exact ⟨.ref q, getS_to s, q, C', dx, fs, rfl, ha, hc, hn, by rw [rf.length]; exact hz, h9 F1 σ _ po⟩
        · exact h9.elim
      cases d0 with
      | ins C' ds =>
        cases f with
        | sh => simp only [w] at h1; exact h1.elim
        | ow => simp only [w] at h1; exact own (by decide) C' ds rfl h1
        | mu => simp only [w] at h1; exact own (by decide) C' ds rfl h1
      | _ => cases f <;> (simp only [w] at h1; exact h1.elim)) (h.then.imp fun d F1 e1 H1 p1 h1 => ⟨p1.rel, h1⟩)⟩
end
end Cw

/-! Cw, part N: items of owned lists stored; two names at once; instances compared. -/
namespace Cw
open PySem L2

theorem RpL.setAt {K : Fg} {B : Ad} {H : Hp} {v : V} {d : D} (r : Rp K B H v d) : ∀ {vs : List V} {ds : List D} (i : Nat), RpL K B H vs ds → RpL K B H (vs.set i v) (ds.set i d)
  | _, _, _, .nil => .nil
  | _, _, 0, .cons _ t => .cons r t
  | _, _, i + 1, .cons a t => .cons a (RpL.setAt r i t)
/-- slot i's own list takes d at k -/
def putIx (i : Nat) (k d : D) : S := fun e => match getE e i, k with
  | some (.sh, _), _ => .bad
  | some (f, .lst xs), .int k => (match ixN xs.length k with
    | some j => .nx (e.set i (some (f, .lst (xs.set j d))))
    | none => .bad)
  | _, _ => .bad
section
variable {W : Wx} {K : Fg} {F : Fx} {σ : St} {H : Hp} {e : En} {Dn : Ends}
theorem putIx_of {i : Nat} {kd d : D} {kv y v : V} (R : Rel K F σ H e) (hv : getS σ i = some v) (rk : RpB K (Bd F σ e) H kv kd) (rp : Rp K (Bd F σ e) H y d) (h : SAft W K F σ H e Dn (putIx i kd d e)) : rSetL v kv y H fun H3 => Dn.nx σ H3 := by
  unfold putIx at h
  cases w : getE e i with
  | none => simp only [w] at h; exact h.elim
  | some z =>
    obtain ⟨f, d0⟩ := z
    have own : f ≠ .sh → ∀ xs k, d0 = .lst xs → kd = .int k → SAft W K F σ H e Dn (match ixN xs.length k with
        | some j => .nx (e.set i (some (f, .lst (xs.set j d))))
        | none => .bad) → rSetL v kv y H fun H3 => Dn.nx σ H3 := fun nf xs k ed ek h9 => by
      subst ed ek
      obtain ⟨q, s, vs, ha, rl⟩ := R.own i f _ w nf
      have e1 := hv.symm.trans s
      cases e1
      cases hj : ixN xs.length k with
      | none => rw [hj] at h9; exact h9.elim
      | some j =>
        rw [hj] at h9
        have bq : Bd F σ e q := .inr ⟨i, f, _, w, nf, s⟩
        obtain ⟨po, _⟩ := R.mut (o := .lst (vs.set j y)) (d' := .lst (xs.set j d)) w nf s ⟨_, upd_same, (RpL.setAt rp j rl).step (step_upd bq) fun a z => .inl z⟩
        exact ⟨q, vs, k, j, rfl, rk.int, ha, by rw [rl.length]; exact hj, h9 F σ _ po⟩
    cases d0 with
    | lst xs =>
      cases kd with
      | int k =>
        cases f with
        | sh => simp only [w] at h; exact h.elim
        | ow => simp only [w] at h; exact own (by decide) xs k rfl rfl h
        | mu => simp only [w] at h; exact own (by decide) xs k rfl rfl h
      | _ => cases f <;> (simp only [w] at h; exact h.elim)
    | _ => cases f <;> cases kd <;> (simp only [w] at h; exact h.elim)
end
/-- x[k] = e -/
def sSetIx (i : Nat) (fk fv : M RV) : S := M.then (M.bind fv M.esc) fun d => M.then (eVar i) fun _ => M.then fk fun r => M.then (M.get r) fun k => putIx i k d
section
variable {X : Cx} {W : Wx} {x : Str} {p pos tpos : Pos} {v ix : Expr} {fk fv : M RV} {i : Nat} {f : M RV}
theorem pds_setIx (hN : X.N[i]? = some x) (hv : Vis X.env.scope x) (hk : PD X W ix fk) (he : PD X W v fv) (hs : swapsWithSole [.Subscript (.Name x p) ix tpos] v pos.line X.env = pure false := by rfl) (hw : swappedStores [.Subscript (.Name x p) ix tpos] v X.env = pure none := by rfl)
    (hg : PG X (.Subscript (.Name x p) ix tpos) (gSub (tVar i) (tE W X.K fk) rSetL)) : PDS X W (.Assign [.Subscript (.Name x p) ix tpos] v pos) (sSetIx i fk fv) :=
  ps_imp (ps_asg he hg hs hw) fun Dn σ H ⟨F, e, R, h⟩ => ⟨F, e, R, esc_of R (k := fun d F1 e1 H1 => Rel X.K F1 σ H1 e1 ∧ SAft W X.K F1 σ H1 e1 Dn ((M.then (eVar i) fun _ => M.then fk fun r => M.then (M.get r) fun k => putIx i k d) e1)) (fun d F1 e1 H1 y ⟨R1, h1⟩ ry => by
    have hb := h1.then
    unfold eVar at hb
    cases w : getE e1 i with
    | none => simp only [w] at hb; exact hb.elim
    | some z =>
      simp only [w] at hb
      have h2 := hb F1 H1 (.refl R1)
      have hv : ∃ v, getS σ i = some v := by
        obtain ⟨fl, d0⟩ := z
        by_cases hf : fl = .sh
        · subst hf
          obtain ⟨v, a, _⟩ := R1.val i d0 w
          exact ⟨v, a⟩
        · obtain ⟨q, a, _⟩ := R1.own i fl d0 w hf
          exact ⟨_, a⟩
      obtain ⟨v, hv⟩ := hv
      refine ⟨v, getS_to hv, F1, e1, R1, h2.then.imp fun r F2 e2 H2 p2 h3 kv hkv => ?_⟩
      unfold M.then M.get at h3
      cases w2 : look e2 r with
      | none => simp only [w2] at h3; exact h3.elim
      | some kd =>
        simp only [w2] at h3
        exact putIx_of p2.rel hv (hkv.look p2.rel w2) (Rp.post ry p2) h3) (h.then.imp fun d F1 e1 H1 p1 h1 => ⟨p1.rel, h1⟩)⟩
/-! x[k] += e, of ints -/
def sAugIx (i : Nat) (fk fv : M RV) : S := M.then (eVar i) fun _ => M.then fk fun r => M.then (M.get r) fun kd => fun e => match getE e i, kd with
  | some (_, .lst xs), .int k => if 0 ≤ k ∧ k < 2 ^ 63 then (match xs[k.toNat]? with
    | some (.int a) => M.then fv (fun s => M.then (M.get s) fun y => match y with
      | .int b => putIx i (.int k) (.int (a + b))
      | _ => fun _ => .bad) e
    | _ => .bad) else .bad
  | _, _ => .bad
def rGetN (K : Fg) : V → V → Hp → VK → Prop := fun o i H Q => ∃ p xs k v, o = .ref p ∧ i = .int k ∧ SqL K H p xs ∧ 0 ≤ k ∧ k < 2 ^ 63 ∧ xs[k.toNat]? = some v ∧ Q v H
theorem get_listN : PGet X (rGetN X.K) := by
  rintro pins s σ H o i ov iv Q I ro ri ⟨p, xs, k, v, rfl, rfl, hs, h0, h1, ha, q⟩
  cases ro
  obtain ⟨t, rfl⟩ := ri
  obtain ⟨its, rv, pl, hz⟩ := I.list hs
  obtain ⟨u, hu, ru⟩ := rv.get ha
  exact wpAny_getItem_list pl.isList h0 h1 (by simpa using hu) ⟨v, H, I, ru, q⟩
theorem pds_augIx (hN : X.N[i]? = some x) (hv : Vis X.env.scope x) (hk : PD X W ix fk) (he : PD X W v fv) (hd : (x == ("__debug__" : Str)) = false := by decide) (hcd : (x == ("__classdict__" : Str)) = false := by decide)
    (ha : ∀ ov iv new, augStore ix ov iv new = (do holding [new, ov, iv] (setItem ov iv new); release [new, ov, iv] []; pure .next) := by intros; rfl) : PDS X W (.AugAssign (.Subscript (.Name x p) ix tpos) .Add v pos) (sAugIx i fk fv) :=
  ps_imp (ps_augS (pe_var hN hv hd hcd) hk get_listN he ip_add set_list ha) fun Dn σ H ⟨F, e, R, h⟩ => by
    have hb := h.then
    unfold eVar at hb
    cases w : getE e i with
    | none => simp only [w] at hb; exact hb.elim
    | some z =>
      simp only [w] at hb
      have h2 := hb F H (.refl R)
      have hv : ∃ v, getS σ i = some v := by
        obtain ⟨fl, d0⟩ := z
        by_cases hf : fl = .sh
        · subst hf
          obtain ⟨v, a, _⟩ := R.val i d0 w
          exact ⟨v, a⟩
        · obtain ⟨q, a, _⟩ := R.own i fl d0 w hf
          exact ⟨_, a⟩
      obtain ⟨v, hv⟩ := hv
      refine ⟨v, getS_to hv, F, e, R, h2.then.imp fun r F2 e2 H2 p2 h3 kv hkv => ?_⟩
      unfold M.then M.get at h3
      cases w2 : look e2 r with
      | none => simp only [w2] at h3; exact h3.elim
      | some kd =>
        simp only [w2] at h3
        have rk := hkv.look p2.rel w2
        split at h3
        · rename_i fl xs k gi
          split at h3
          · rename_i hz
            cases wx : xs[k.toNat]? with
            | none => simp only [wx] at h3; exact h3.elim
            | some x0 =>
              cases x0 with
              | int a =>
                simp only [wx] at h3
                have rl : RpB X.K (Bd F2 σ e2) H2 v (.lst xs) := Held.look (H0 := H) (r := .sl i) p2.rel (show Held X.K F2 σ H H2 e2 v (.sl i) from hv) (by simp only [look, gi])
                obtain ⟨q, vs, rfl, hq, rvs⟩ := rl.lst
                obtain ⟨xv, hx, rx⟩ := rvs.get wx
                cases rx
                refine ⟨q, vs, k, _, rfl, rk.int, SqL.of hq, hz.1, hz.2, hx, F2, e2, p2.rel, h3.then.imp fun s F3 e3 H3 p3 h4 yv hy => ?_⟩
                cases w3 : look e3 s with
                | none => simp only [w3] at h4; exact h4.elim
                | some yd =>
                  simp only [w3] at h4
                  have ry := hy.look p3.rel w3
                  cases yd with
                  | int b =>
                    rw [ry.int]
                    refine ⟨a, b, rfl, rfl, putIx_of p3.rel hv (.inl ?_) (.int _) h4⟩
                    rw [rk.int]; exact .int k
                  | _ => exact h4.elim
              | _ => simp only [wx] at h3; exact h3.elim
          · exact h3.elim
        · exact h3.elim
/-! x += e, of ints -/
def sAug (i : Nat) (f : M RV) : S := fun e => match getE e i with
  | some (.sh, .int a) => M.then f (fun s => M.then (M.get s) fun y => match y with
    | .int b => M.then (put i (.sh (.int (a + b)))) fun _ => .nx
    | _ => fun _ => .bad) e
  | _ => .bad
theorem pds_aug (hN : X.N.Nodup) (hi : X.N[i]? = some x) (hx : Loc X.env.scope x) (he : PD X W v f) (hf : X.fn x = true ∨ X.env.scope.names.lookup x = some .local := by first | exact .inl rfl | exact .inr rfl | assumption) :
    PDS X W (.AugAssign (.Name x p) .Add v pos) (sAug i f) :=
  ps_imp (ps_aug hN hi hx he ip_add hf) fun Dn σ H ⟨F, e, R, h⟩ => by
    unfold sAug at h
    split at h
    · rename_i a w
      obtain ⟨v0, s0, r0⟩ := R.val i _ w
      cases r0
      refine ⟨_, getS_to s0, F, e, R, h.then.imp fun s F1 e1 H1 p1 h1 yv hy => ?_⟩
      unfold M.then M.get at h1
      cases w3 : look e1 s with
      | none => simp only [w3] at h1; exact h1.elim
      | some yd =>
        simp only [w3] at h1
        have ry := hy.look p1.rel w3
        cases yd with
        | int b =>
          rw [ry.int]
          refine ⟨a, b, rfl, rfl, ?_⟩
          simp only at h1
          cases w4 : put i (.sh (.int (a + b))) e1 with
          | bad => simp only [w4] at h1; exact h1.elim
          | exc x e2 => exact absurd w4 put_noexc
          | ok u e2 =>
            simp only [w4] at h1
            have po := put_of (v := .int (a + b)) p1.rel (.refl p1.rel) (show Held X.K F1 σ H1 H1 e1 (.int (a + b)) (.sh (.int (a + b))) from .int _) w4
            exact h1 F1 _ H1 po
        | _ => exact h1.elim
    · exact h.elim
end

/-! ### two, three names at once -/
/-- what a slot holds is shared, the rest stays -/
def M.nrm : RV → M RV
  | .sl i => M.bind (M.esc (.sl i)) fun d => M.ret (.sh d)
  | r => M.ret r
def noSl : RV → Prop
  | .sl _ => False
  | _ => True
section
variable {W : Wx} {K : Fg} {F F' : Fx} {σ : St} {H H0 : Hp} {e e1 : En} {Dn : Ends}
theorem nrm_of {f : M RV} {Q : V → Hp → Prop} {k : RV → Fx → En → Hp → Prop} (R : Rel K F σ H e) (hk : ∀ r F' e' H' v, noSl r → Post K F σ H e F' σ H' e' → k r F' e' H' → Held K F' σ H H' e' v r → Q v H') (h : Aft W K F σ H e k (M.bind f M.nrm e)) :
    Aft W K F σ H e (fun r F' e' H' => ∀ v, Held K F' σ H H' e' v r → Q v H') (f e) := by
  unfold M.bind at h
  cases q : f e with
  | bad => rw [q] at h; exact h
  | exc x e1 => rw [q] at h; exact h
  | ok r e1 =>
    rw [q] at h
    have h : Aft W K F σ H e k (M.nrm r e1) := h
    intro F1 H1 p v hv
    cases r with
    | sh d => exact hk (.sh d) F1 e1 H1 v trivial p (h F1 H1 p) hv
    | fr d => exact hk (.fr d) F1 e1 H1 v trivial p (h F1 H1 p) hv
    | sl i =>
      unfold M.nrm M.bind at h
      simp only at h
      cases w : M.esc (.sl i) e1 with
      | bad => simp only [w] at h; exact h.elim
      | exc x e2 =>
        exfalso
        unfold M.esc at w
        simp only at w
        cases z : getE e1 i with
        | none => simp only [z] at w; cases w
        | some y => obtain ⟨fl, d⟩ := y; cases fl <;> simp only [z] at w <;> cases w
      | ok d e2 =>
        simp only [w] at h
        obtain ⟨p2, rp⟩ := p.esc R hv w
        exact hk (.sh d) F e2 H1 v trivial p2 (h F H1 p2) rp
/-- a slot takes what is held -/
theorem putX {i : Nat} {r : RV} {v : V} (R : Rel K F' σ H e) (h : Held K F' σ H0 H e v r) (nr : noSl r) (q : put i r e = .ok () e1) :
    ∃ F'', F''.pn = F'.pn ∧ (∀ a, F''.bx a → F'.bx a) ∧ (∀ a, F'.bx a → F''.bx a ∨ ((∃ d, r = .fr d) ∧ v = .ref a)) ∧ Rel K F'' (σ.set i (some v)) H e1 ∧ (∀ a, Bd F'' (σ.set i (some v)) e1 a → Bd F' σ e a) ∧ ∀ a, Own (σ.set i (some v)) e1 a → Own σ e a ∨ ((∃ d, r = .fr d) ∧ v = .ref a) := by
  unfold put at q
  cases r with
  | sl j => exact nr.elim
  | sh d =>
    simp only at q
    split at q
    · cases q
    · rename_i nm
      cases q
      obtain ⟨r1, r2⟩ := R.setSh h (isMu_ne nm)
      exact ⟨F', rfl, fun _ z => z, fun _ z => .inl z, r1, fun a z => z.elim .inl fun z => .inr (r2 a z), fun a z => .inl (r2 a z)⟩
  | fr d =>
    simp only at q
    split at q
    · cases q
    · rename_i nm
      cases q
      obtain ⟨p, rfl, n, f, o⟩ := h
      obtain ⟨r1, r2⟩ := R.setOw (F := ⟨fun a => F'.bx a ∧ a ≠ p, F'.pn⟩) (i := i) f (fun a z => z.1) rfl (fun z => z.2 rfl) o (isMu_ne nm)
      refine ⟨⟨fun a => F'.bx a ∧ a ≠ p, F'.pn⟩, rfl, fun a z => z.1, fun a z => ?_, r1, fun a z => ?_, fun a z => (r2 a z).imp id fun z => ⟨⟨d, rfl⟩, by rw [z]⟩⟩
      · by_cases ha : a = p
        · exact .inr ⟨⟨d, rfl⟩, by rw [ha]⟩
        · exact .inl ⟨z, ha⟩
      · rcases z with z | z
        · exact .inl z.1
        · rcases r2 a z with z | z
          · exact .inr z
          · exact .inl (z ▸ f)
theorem Held.move {F'' : Fx} {σ1 : St} {r s : RV} {v w : V} (h : Held K F' σ H0 H e w s) (ns : noSl s) (hb : ∀ a, Bd F'' σ1 e1 a → Bd F' σ e a) (hx : ∀ a, F'.bx a → F''.bx a ∨ ((∃ d, r = .fr d) ∧ v = .ref a)) (ne : ∀ d d' a, r = .fr d → s = .fr d' → v = .ref a → w ≠ .ref a) : Held K F'' σ1 H0 H e1 w s := by
  cases s with
  | sl j => exact ns.elim
  | sh d => exact Rp.anti h hb
  | fr d =>
    obtain ⟨p, rfl, n, f, o⟩ := h
    refine ⟨p, rfl, n, ?_, o.anti hb⟩
    rcases hx p f with z | ⟨⟨d', hr⟩, hv⟩
    · exact z
    · exact absurd rfl (ne d' d p hr rfl hv)
end
def sPar2 (i j : Nat) (f g : M RV) : S := M.then (M.bind f M.nrm) fun r => M.then (M.bind g M.nrm) fun s => M.then (put i r) fun _ => M.then (put j s) fun _ => .nx
section
variable {X : Cx} {W : Wx} {x y z : Str} {a b c : Expr} {f g h : M RV} {i j l : Nat} {px py pz pt pos : Pos} {kt k2 : Nat} {pt2 : Pos}
theorem held_fr {K : Fg} {F : Fx} {σ : St} {H0 H : Hp} {e : En} {v : V} {r : RV} {d : D} {q : Addr} (h : Held K F σ H0 H e v r) (er : r = .fr d) (ev : v = .ref q) : H0 q = none ∧ H q ≠ none := by
  subst er
  obtain ⟨p, e1, n, _, o⟩ := h
  rw [ev] at e1; cases e1
  exact ⟨n, o.some⟩
theorem then_eq {K : Fg} {F F1 : Fx} {σ : St} {H H1 : Hp} {e e1 : En} {Dn : Ends} {α : Type} {f : M α} {g : α → S} (p : Post K F σ H e F1 σ H1 e1) (h : SAft W K F σ H e Dn (M.then f g e1)) : Aft W K F1 σ H1 e1 (fun a F2 e2 H2 => SAft W K F σ H e Dn (g a e2)) (f e1) := by
  unfold M.then at h
  cases q : f e1 with
  | bad => rw [q] at h; exact h
  | exc x e2 => rw [q] at h; exact fun cls d F' H' p' hx => h cls d F' σ H' (p.trans p') hx
  | ok a e2 => rw [q] at h; exact fun F2 H2 p2 => h
/-- the slots take the values, one after another -/
structure PutR (K : Fg) (F : Fx) (σ : St) (H : Hp) (e : En) (F1 : Fx) (σ1 : St) (H1 : Hp) (e1 : En) : Prop where
  rel : Rel K F1 σ1 H1 e1
  stp : Stp (Own σ e) H H1
  keep : ∀ a, F.bx a → F1.bx a
  pn : F1.pn = F.pn
  ow : ∀ a, Own σ1 e1 a → Own σ e a ∨ H a = none
theorem PutR.post {K : Fg} {F F1 : Fx} {σ σ1 : St} {H H1 : Hp} {e e1 : En} (h : PutR K F σ H e F1 σ1 H1 e1) : Post K F σ H e F σ1 H1 e1 := ⟨h.rel.anti h.keep h.pn.symm, h.stp, h.ow, .refl⟩
theorem PutR.of {K : Fg} {F F1 : Fx} {σ : St} {H H1 : Hp} {e e1 : En} (p : Post K F σ H e F1 σ H1 e1) : PutR K F σ H e F1 σ H1 e1 := ⟨p.rel, p.stp, p.le.up, p.le.pn, p.ow⟩
theorem PutR.put {K : Fg} {F F1 : Fx} {σ σ1 : St} {H H0 H1 : Hp} {e e1 e2 : En} {i : Nat} {r : RV} {v : V} (R : Rel K F σ H e) (p : PutR K F σ H e F1 σ1 H1 e1) (bk : ∀ a, H0 a = none → H a = none) (hv : Held K F1 σ1 H0 H1 e1 v r) (nr : noSl r) (w : put i r e1 = .ok () e2) :
    ∃ F2, PutR K F σ H e F2 (σ1.set i (some v)) H1 e2 ∧ ∀ {H9 s u}, Held K F1 σ1 H9 H1 e1 u s → noSl s → (∀ d d' a, r = .fr d → s = .fr d' → v = .ref a → u ≠ .ref a) → Held K F2 (σ1.set i (some v)) H9 H1 e2 u s := by
  obtain ⟨F2, pn, dn, up, R2, bd, ow⟩ := putX p.rel hv nr w
  refine ⟨F2, ⟨R2, p.stp, fun a z => ?_, pn.trans p.pn, fun a z => ?_⟩, fun h ns ne => h.move ns bd up ne⟩
  · rcases up a (p.keep a z) with z' | ⟨⟨d, er⟩, ev⟩
    · exact z'
    · exact absurd (bk a (held_fr hv er ev).1) (R.ext a z).2
  · rcases ow a z with z | ⟨⟨d, er⟩, ev⟩
    · exact p.ow a z
    · exact .inr (bk a (held_fr hv er ev).1)
theorem put_then {K : Fg} {F : Fx} {σ : St} {H : Hp} {e e1 : En} {Dn : Ends} {r : RV} {k : S} (h : SAft W K F σ H e Dn (M.then (put i r) (fun _ => k) e1)) : ∃ e2, put i r e1 = .ok () e2 ∧ SAft W K F σ H e Dn (k e2) := by
  unfold M.then at h
  cases w : put i r e1 with
  | bad => rw [w] at h; exact h.elim
  | exc x e3 => exact absurd w put_noexc
  | ok u e2 => rw [w] at h; exact ⟨e2, rfl, h⟩
theorem pds_par2 (hc : X.calm = true) (hN : X.N.Nodup) (hi : X.N[i]? = some x) (hj : X.N[j]? = some y) (hij : i ≠ j) (hx : X.env.scope.names.lookup x = some .local) (hy : X.env.scope.names.lookup y = some .local) (ha : PD X W a f) (hb : PD X W b g)
    (hw : swappedStores [.Tuple [.Name x px, .Name y py] kt pt] (.Tuple [a, b] k2 pt2) X.env = pure (some [x, y]))
    (hs : swapsWithSole [.Tuple [.Name x px, .Name y py] kt pt] (.Tuple [a, b] k2 pt2) pos.line X.env = pure false := by rfl)
    (s1 : starEach [a, b] X.env = (false, eval a X.env) :: starEach [b] X.env := by rfl) (s2 : starEach [b] X.env = (false, eval b X.env) :: starEach [] X.env := by rfl) :
    PDS X W (.Assign [.Tuple [.Name x px, .Name y py] kt pt] (.Tuple [a, b] k2 pt2) pos) (sPar2 i j f g) :=
  ps_imp (ps_par hc hN hi hj hij hx hy (pa_cons ha (pa_cons hb pa_nil s2) s1) hw hs) fun Dn σ H ⟨F, e, R, h⟩ => ⟨F, e, R, nrm_of R (k := fun r F1 e1 H1 => SAft W X.K F σ H e Dn ((M.then (M.bind g M.nrm) fun s => M.then (put i r) fun _ => M.then (put j s) fun _ => .nx) e1))
    (fun r F1 e1 H1 v nr p1 h1 hv => ⟨F1, e1, p1.rel, nrm_of p1.rel (k := fun s F2 e2 H2 => SAft W X.K F σ H e Dn ((M.then (put i r) fun _ => M.then (put j s) fun _ => .nx) e2)) (fun s F2 e2 H2 w ns p2 h2 hw => by
      refine ⟨v, w, rfl, ?_⟩
      obtain ⟨e3, w1, h3⟩ := put_then h2
      obtain ⟨e4, w2, h4⟩ := put_then h3
      obtain ⟨F3, P3, mv⟩ := PutR.put R (.of (p1.trans p2)) (fun _ z => z) (hv.post p1.rel p2) nr w1
      obtain ⟨F4, P4, _⟩ := PutR.put R P3 p1.stp.back (mv hw ns (fun d d' q er es ev ew => (held_fr hv er ev).2 (held_fr hw es ew).1)) ns w2
      exact h4 F _ H2 P4.post) (then_eq p1 h1)⟩)
    (then_eq (.refl R) h)⟩
def sPar3 (i j l : Nat) (f g h : M RV) : S := M.then (M.bind f M.nrm) fun r => M.then (M.bind g M.nrm) fun s => M.then (M.bind h M.nrm) fun u => M.then (put i r) fun _ => M.then (put j s) fun _ => M.then (put l u) fun _ => .nx
theorem pds_par3 (hc : X.calm = true) (hN : X.N.Nodup) (hi : X.N[i]? = some x) (hj : X.N[j]? = some y) (hl : X.N[l]? = some z) (hij : i ≠ j) (hil : i ≠ l) (hjl : j ≠ l) (hx : X.env.scope.names.lookup x = some .local) (hy : X.env.scope.names.lookup y = some .local) (hz : X.env.scope.names.lookup z = some .local) (ha : PD X W a f) (hb : PD X W b g) (hcc : PD X W c h)
    (hw : swappedStores [.Tuple [.Name x px, .Name y py, .Name z pz] kt pt] (.Tuple [a, b, c] k2 pt2) X.env = pure (some [x, y, z]))
    (hs : swapsWithSole [.Tuple [.Name x px, .Name y py, .Name z pz] kt pt] (.Tuple [a, b, c] k2 pt2) pos.line X.env = pure false := by rfl)
    (s1 : starEach [a, b, c] X.env = (false, eval a X.env) :: starEach [b, c] X.env := by rfl) (s2 : starEach [b, c] X.env = (false, eval b X.env) :: starEach [c] X.env := by rfl) (s3 : starEach [c] X.env = (false, eval c X.env) :: starEach [] X.env := by rfl) :
    PDS X W (.Assign [.Tuple [.Name x px, .Name y py, .Name z pz] kt pt] (.Tuple [a, b, c] k2 pt2) pos) (sPar3 i j l f g h) :=
  ps_imp (ps_par3 hc hN hi hj hl hij hil hjl hx hy hz (pa_cons ha (pa_cons hb (pa_cons hcc pa_nil s3) s2) s1) hw hs) fun Dn σ H ⟨F, e, R, h'⟩ => ⟨F, e, R, nrm_of R (k := fun r F1 e1 H1 => SAft W X.K F σ H e Dn ((M.then (M.bind g M.nrm) fun s => M.then (M.bind h M.nrm) fun u => M.then (put i r) fun _ => M.then (put j s) fun _ => M.then (put l u) fun _ => .nx) e1))
    (fun r F1 e1 H1 v nr p1 h1 hv => ⟨F1, e1, p1.rel, nrm_of p1.rel (k := fun s F2 e2 H2 => SAft W X.K F σ H e Dn ((M.then (M.bind h M.nrm) fun u => M.then (put i r) fun _ => M.then (put j s) fun _ => M.then (put l u) fun _ => .nx) e2)) (fun s F2 e2 H2 w ns p2 h2 hw => ⟨F2, e2, p2.rel, nrm_of p2.rel (k := fun t F3 e3 H3 => SAft W X.K F σ H e Dn ((M.then (put i r) fun _ => M.then (put j s) fun _ => M.then (put l t) fun _ => .nx) e3)) (fun t F3 e3 H3 u nt p3 h3 hu => by
      refine ⟨v, w, u, rfl, ?_⟩
      obtain ⟨e4, w1, h4⟩ := put_then h3
      obtain ⟨e5, w2, h5⟩ := put_then h4
      obtain ⟨e6, w3, h6⟩ := put_then h5
      obtain ⟨F4, P4, mv4⟩ := PutR.put R (.of ((p1.trans p2).trans p3)) (fun _ z => z) ((hv.post p1.rel p2).post p2.rel p3) nr w1
      obtain ⟨F5, P5, mv5⟩ := PutR.put R P4 p1.stp.back (mv4 (hw.post p2.rel p3) ns (fun d d' q er es ev ew => (held_fr hv er ev).2 (held_fr hw es ew).1)) ns w2
      obtain ⟨F6, P6, _⟩ := PutR.put R P5 (fun a z => p1.stp.back a (p2.stp.back a z)) (mv5 (mv4 hu nt (fun d d' q er es ev ew => (held_fr hv er ev).2 (p2.stp.back q (held_fr hu es ew).1))) nt (fun d d' q er es ev ew => (held_fr hw er ev).2 (held_fr hu es ew).1)) nt w3
      exact h6 F _ H3 P6.post) (then_eq (p1.trans p2) h2)⟩) (then_eq p1 h1)⟩)
    (then_eq (.refl R) h')⟩
end
end Cw

/-! Cw, part O: enumerate of a tuple. -/
namespace Cw
open PySem L2

/-- the tuple at a, each item in a new pair -/
def ItE (K : Fg) (a : Addr) : It where
  go := fun i H => ∃ (xs : List V) (x : V), SqT K H a xs ∧ xs[i]? = some x
  yld := fun i H v H' => ∃ T x, v = .ref T ∧ H T = none ∧ H' = upd H T (.tup [.int (i : Nat), x]) ∧ ∀ xs, SqT K H a xs → xs[i]? = some x
  stop := fun i H => ∃ xs : List V, SqT K H a xs ∧ xs.length = i
/-- how far the two iterators are -/
def EnAt (a e it : Addr) (i : Nat) (h : Heap) : Prop := (∃ old, IsEnum h e it ((i : Nat) : Int) old) ∧ h.IsTupleIter it a i ∧ e ≠ it ∧ a ≠ it ∧ e ≠ a
theorem turnE {P : Program} {w : World} {K : Fg} {elts : List Expr} {kk : Nat} {tpos : Pos} (a e it : Addr) : Turn P w K (.Tuple elts kk tpos) (ItE K a) [e, it] e (EnAt a e it) := by
  constructor
  case mem => simp
  case obj =>
    rintro i h ⟨⟨old, he⟩, ⟨o, ho, hc, hd⟩, _⟩ b hb
    rcases List.mem_cons.mp hb with z | z
    · subst z
      exact ⟨_, he, fun v q => nomatch q⟩
    · have z : b = it := by simpa using z
      exact ⟨o, by rw [z]; exact ho, fun v q => by rw [hd] at q; cases q⟩
  case keep =>
    rintro i h h' ⟨⟨old, he⟩, hi, r⟩ k
    exact ⟨⟨old, k e (by simp) _ he⟩, hi.at (fun o q => k it (by simp) o q), r⟩
  case self =>
    rintro A i s Q E ⟨⟨old, he⟩, _⟩ h
    exact wpAny_pyIter_enum he h
  case item =>
    intro X hP hw hK hc i pins s σ H E I hf st hg
    subst hP hw hK
    obtain ⟨⟨old, he⟩, hit, n1, n2, n3⟩ := st
    obtain ⟨xs, x, hq, hx⟩ := hg
    obtain ⟨its, rv, tp, hz⟩ := I.tuple hq
    obtain ⟨u, hu, ru⟩ := rv.get hx
    have el : e < s.heap.objs.size := Heap.lt_size he
    have il : it < s.heap.objs.size := let ⟨_, q, _⟩ := hit; Heap.lt_size q
    have hlt : i < its.toArray.size := by
      rw [List.size_toArray]
      exact (List.getElem?_eq_some_iff.mp hu).1
    have Dr := Draws.tuple (prog := X.prog) (w := X.w) (A := X.A.in1) (I.ok.hd hc) it a n2 its.toArray
    refine wpAny_pyNext_enum_itemD Dr he ⟨hit, tp⟩ hlt n1 (by simp only [List.mem_cons, List.not_mem_nil, or_false, not_or]; exact ⟨n1, n3⟩) ?_
    intro y h' tk hy ho st' hT hsz hk
    have ey : y = u := by
      have hu' : its.toArray[i]? = some u := by simpa using hu
      rw [hu'] at hy
      exact (Option.some.inj hy).symm
    subst ey
    refine ⟨_, rfl, ?_⟩
    refine wpAny_letOwnedTupleGo_enum (s := { s with heap := h', toks := tk + 1 }) ho ?_
    intro h'' he' sb
    have hT2 : h''.get? s.heap.objs.size = some { cls := .type "tuple", data := .seq #[.int i tk, y] } := (sb.2 _ (Nat.ne_of_gt el)).trans hT
    have new : ObjOk X.prog X.w (upd H s.heap.objs.size (.tup [.int (i : Nat), x])) h'' s.heap.objs.size (.tup [.int (i : Nat), x]) := by
      refine ⟨by show 2 ≤ sizeLine; decide, [.int i tk, y], ?_, ⟨_, hT2, rfl, _, rfl⟩⟩
      exact .cons ⟨_, rfl⟩ (.cons ru .nil)
    have J := I.turnedNew (ch := [e, it]) (h' := h'') (t' := tk + 1) (ob := .tup [.int (i : Nat), x]) (fun b o hb q => by
      have h1 : b ≠ e := fun z => hb (by simp [z])
      have h2 : b ≠ it := fun z => hb (by simp [z])
      exact (sb.2 b h1).trans (hk b o h1 h2 q)) hf (Nat.le_refl _) new
    refine ⟨.ref s.heap.objs.size, _, J, rfl, ⟨_, x, rfl, I.hok.fresh (Nat.le_refl _), rfl, fun ys hy => by rw [I.tuple_inj hy hq]; exact hx⟩, ⟨⟨y, ?_⟩, ?_, n1, n2, n3⟩, fun b hb => ?_⟩
    · rw [show ((i + 1 : Nat) : Int) = (i : Int) + 1 by omega]
      exact he'
    · exact st'.1.at (fun o q => (sb.2 it (Ne.symm n1)).trans q)
    · have hb' : b < s.heap.objs.size := by
        rcases List.mem_cons.mp hb with z | z
        · rw [z]; exact el
        · have z : b = it := by simpa using z
          rw [z]; exact il
      rw [upd_ne (Nat.ne_of_lt hb')]
      exact (hf b hb).1
  case done =>
    intro X hP hw hK hc i pins s σ H E I hf st hg
    subst hP hw hK
    obtain ⟨⟨old, he⟩, hit, n1, n2, n3⟩ := st
    obtain ⟨xs, hq, hx⟩ := hg
    obtain ⟨its, rv, tp, hz⟩ := I.tuple hq
    obtain ⟨f0, f1, f2, f3, f4, f5⟩ := hf it (by simp)
    have Dr := Draws.tuple (prog := X.prog) (w := X.w) (A := X.A.in1) (I.ok.hd hc) it a n2 its.toArray
    have en : its.toArray.size = i := by rw [List.size_toArray, ← rv.length]; exact hx
    refine wpAny_pyNext_enum_endD Dr he ⟨by rw [en]; exact hit, tp⟩ ?_
    intro h' eb
    exact ⟨rfl, I.turned (t' := s.toks) (fun b o hb q => eb b o hb q) f0 f1 f3 f4 f5⟩
theorem enum_new1 {v : Value} {o : Obj} {Hx : Heap → Prop} (B : Begins v o Hx) : Meets (Builtin.«enumerate.__new__» ⟨[.type "enumerate", v], []⟩) (fun _ R s => Hx s.heap ∧
    R (.ok (.ret (.ref (s.heap.push o).objs.size))) { s with heap := (s.heap.push o).push { cls := .type "enumerate", data := .fields #[.none, .bool false, .ref s.heap.objs.size, rawInt 0, .none, .none] } }) := by
  apply Meets.of_wp
  rintro prog w A R ⟨hp, g, d, tk, os⟩ ⟨h1, h⟩
  have hsub := sub_enumerate
  have begin1 : ∀ {A' : Around} {E : Value → Shared → Prop} {Q : Value → Shared → Prop}, Q (.ref hp.objs.size) ⟨hp.push o, g, d, tk, os⟩ → wpAny (model prog w) A' (pyIter v) Q E ⟨hp, g, d, tk, os⟩ :=
    fun q => B.iter prog w _ _ ⟨hp, g, d, tk, os⟩ _ h1 q
  wp_walk using begin1
  refine wpAny_stack_any fun st => wpAny_pure ?_
  split
  · rename_i c _ _ _ _ _
    cases (c == Value.type "enumerate") <;> (wp_walk using begin1; exact ⟨_, rfl, h⟩)
  · wp_walk using begin1
    exact ⟨_, rfl, h⟩
/-- an iterator of enumerate(t) -/
theorem call_enum_tup {prog : Program} {w : World} {A : Around} {E : Value → Shared → Prop} {s : Shared} {t : Addr} {items : Array Value} {Q : Value → Shared → Prop} (ht : s.heap.IsTuple t items)
    (h : ∀ h', IsEnum h' (s.heap.objs.size + 1) s.heap.objs.size 0 .none → h'.IsTupleIter s.heap.objs.size t 0 → (∀ b o, s.heap.get? b = some o → h'.get? b = some o) → Q (.ref (s.heap.objs.size + 1)) { s with heap := h' }) :
    wpAny (model prog w) A (call (.type "enumerate") [.ref t]) Q E s := by
  refine callType_new F.called_enumerate (by decide) (F.typeCall_enumerate_1 _) (F.newCall_enumerate_1 _) (fun obj => F.args_object_init_2 obj _) F.entry_enumerate_new (enum_new1 (begins_tuple t items)) ⟨ht, ?_⟩
  have sz : (s.heap.push { cls := .type "tuple_iterator", data := .fields #[.ref t, .int 0 0] }).objs.size = s.heap.objs.size + 1 := Heap.size_push ..
  have he := Heap.get?_push_size (s.heap.push { cls := .type "tuple_iterator", data := .fields #[.ref t, .int 0 0] }) (o := { cls := .type "enumerate", data := .fields #[.none, .bool false, .ref s.heap.objs.size, rawInt 0, .none, .none] }) rfl
  rw [sz] at he
  show _ ∧ _
  rw [sz]
  refine ⟨⟨_, he, rfl⟩, h _ he ⟨_, Heap.get?_push_of_some _ (Heap.get?_push_size _ rfl), rfl, rfl⟩ ?_⟩
  exact fun b o x => Heap.get?_push_of_some _ (Heap.get?_push_of_some _ x)
def iEnT (K : Fg) (ta : TA) : TI := fun σ H R => ta σ H fun vs H1 => ∃ a xs, vs = [.ref a] ∧ SqT K H1 a xs ∧ R (ItE K a) H1
theorem pi_enT {X : Cx} {e : Expr} {ta : TA} {p pos tpos : Pos} {elts : List Expr} {kk : Nat} (hg : Gl X "enumerate") (hm : X.mg "enumerate" = none) (ha : PA X [e] ta) (hs : starEach [e] X.env = [(false, eval e X.env)] := by rfl) :
    PI X (.Tuple elts kk tpos) (.Call (.Name "enumerate" p) [e] [] pos) (iEnT X.K ta) := by
  constructor
  intro pins s σ H R I h
  refine PyProof.Rows.Call_ (ld_blt I hg hm PyProof.Rows.boot_enumerate (PyProof.Rows.callWith_type1 (thn (ha.run pos pins s σ H _ I h) ?_) hs rfl))
  rintro us s1 ⟨vs, H1, I1, r1, a, xs, rfl, hq, q⟩
  rw [Vals.ref1 r1]
  obtain ⟨its, rv, tp, hz⟩ := I1.tuple hq
  have al : a < s1.heap.objs.size := let ⟨_, q, _⟩ := tp; Heap.lt_size q
  refine call_enum_tup tp fun h' he hit hk => wpAny_pyIter_enum he ?_
  have I2 : Inv X pins σ H1 { s1 with heap := h' } := I1.kept (t' := s1.toks) hk
  refine ⟨s1.heap.objs.size + 1, [s1.heap.objs.size + 1, s1.heap.objs.size], _, _, H1, rfl, I2, turnE a (s1.heap.objs.size + 1) s1.heap.objs.size, ⟨⟨.none, he⟩, hit, Nat.succ_ne_self _, Nat.ne_of_lt al, Nat.ne_of_gt (Nat.lt_succ_of_lt al)⟩, fun b hb => ?_, q⟩
  have hle : s1.heap.objs.size ≤ b := by
    rcases List.mem_cons.mp hb with z | z
    · rw [z]; exact Nat.le_succ _
    · have z : b = s1.heap.objs.size := by simpa using z
      rw [z]; exact Nat.le_refl _
  exact I1.fpOk hle (I1.hok.fresh hle)
/-! ### enumerate of data -/
def enumD (ds : List D) : List D := (List.range ds.length).map fun (k : Nat) => D.tup [.int (k : Int), ds.getD k .non]
theorem enumD_get {ds : List D} {i : Nat} {d : D} (h : (enumD ds)[i]? = some d) : ∃ x, ds[i]? = some x ∧ d = .tup [.int (i : Int), x] := by
  unfold enumD at h
  rw [List.getElem?_map] at h
  cases w : (List.range ds.length)[i]? with
  | none => rw [w] at h; cases h
  | some k =>
    have hi := (List.getElem?_eq_some_iff.mp w).1
    rw [List.length_range] at hi
    rw [List.getElem?_range hi] at w
    cases w
    rw [List.getElem?_range hi] at h
    cases h
    exact ⟨ds[i], List.getElem?_eq_getElem hi, by simp [List.getD_eq_getElem?_getD, hi]⟩
theorem enumD_length {ds : List D} : (enumD ds).length = ds.length := by
  unfold enumD; rw [List.length_map, List.length_range]
theorem itOk_enumL {K : Fg} {B : Ad} {H : Hp} {a : Addr} {vs : List V} {ds : List D} (h : LstAt K B H a vs) (r : RpL K B H vs ds) : ItOk K (Ite K a) B H (enumD ds) := by
  refine ⟨fun B H => LstAt K B H a vs ∧ RpL K B H vs ds, ⟨h, r⟩, fun B H B' H' ⟨h, r⟩ h1 h2 => ⟨h.step h1 h2, r.step h1 h2⟩, ?_⟩
  rintro B H ⟨h, r⟩ tr
  refine ⟨fun i d q => ?_, ⟨vs, h.sq, by rw [enumD_length, r.length]; exact Nat.le_refl _⟩⟩
  obtain ⟨x, hx, rfl⟩ := enumD_get q
  obtain ⟨v, hv, rv⟩ := r.get hx
  refine ⟨⟨vs, v, h.sq, hv⟩, ?_⟩
  rintro _ H' ⟨T, y, rfl, nT, rfl, hy⟩
  have e := hv.symm.trans (hy vs h.sq)
  cases e
  have sm := same_upd (o := .tup [V.int (i : Nat), v]) nT
  exact ⟨sm, .tup (.inl ⟨fun z => tr T z nT, .inl upd_same⟩) (.cons (.int _) (.cons (rv.step (fun a o q _ => sm a o q) fun a z => .inl z) .nil))⟩
theorem itOk_enumT {K : Fg} {B : Ad} {H : Hp} {a : Addr} {vs : List V} {ds : List D} (h : TupAt K B H a vs) (r : RpL K B H vs ds) : ItOk K (ItE K a) B H (enumD ds) := by
  refine ⟨fun B H => TupAt K B H a vs ∧ RpL K B H vs ds, ⟨h, r⟩, fun B H B' H' ⟨h, r⟩ h1 h2 => ⟨h.step h1 h2, r.step h1 h2⟩, ?_⟩
  rintro B H ⟨h, r⟩ tr
  refine ⟨fun i d q => ?_, ⟨vs, h.sq, by rw [enumD_length, r.length]⟩⟩
  obtain ⟨x, hx, rfl⟩ := enumD_get q
  obtain ⟨v, hv, rv⟩ := r.get hx
  refine ⟨⟨vs, v, h.sq, hv⟩, ?_⟩
  rintro _ H' ⟨T, y, rfl, nT, rfl, hy⟩
  have e := hv.symm.trans (hy vs h.sq)
  cases e
  have sm := same_upd (o := .tup [V.int (i : Nat), v]) nT
  exact ⟨sm, .tup (.inl ⟨fun z => tr T z nT, .inl upd_same⟩) (.cons (.int _) (.cons (rv.step (fun a o q _ => sm a o q) fun a z => .inl z) .nil))⟩
/-- enumerate of a list or of a tuple that is shared -/
def iEnum (f : M RV) : M (List D) := M.bind (iSeq f) fun ds => M.ret (enumD ds)
section
variable {X : Cx} {W : Wx} {tg l : Expr} {f : M RV} {p pos tpos : Pos} {elts : List Expr} {kk : Nat}
theorem pdi_enum (hg : Gl X "enumerate") (hm : X.mg "enumerate" = none) (hl : PD X W l f) (hs : starEach [l] X.env = [(false, eval l X.env)] := by rfl) : PDI X W (.Tuple elts kk tpos) (.Call (.Name "enumerate" p) [l] [] pos) (iEnum f) :=
  pi_imp (pi_or (pi_enum hg hm (pa_cons hl pa_nil hs) hs) (pi_enT hg hm (pa_cons hl pa_nil hs) hs)) fun σ H Q ⟨F, e, R, h⟩ => by
    have hb := h.bind.bind
    cases w : M.bind f M.esc e with
    | bad => rw [w] at hb; exact hb.elim
    | exc x e1 => exact .inl ⟨F, e, R, esc_of R (k := fun _ _ _ _ => False) (fun _ _ _ _ _ z _ => z.elim) (by rw [w] at hb ⊢; exact hb)⟩
    | ok d e1 =>
      cases d with
      | lst ds =>
        refine .inl ⟨F, e, R, esc_of R (k := fun d F1 e1 H1 => d = .lst ds ∧ Rel X.K F1 σ H1 e1 ∧ ∀ J, ItOk X.K J (Bd F1 σ e1) H1 (enumD ds) → Q J H1) (fun d F1 e1 H1 v ⟨ed, R1, k⟩ rp => ?_) ?_⟩
        · subst ed
          obtain ⟨a, vs, rfl, t, r⟩ := RpL.sq_lst rp
          exact ⟨a, vs, rfl, t.sq, k _ (itOk_enumL t r)⟩
        · rw [w] at hb ⊢
          exact fun F1 H1 p1 => ⟨rfl, p1.rel, hb F1 H1 p1 F1 H1 (.refl p1.rel) F1 H1 (.refl p1.rel)⟩
      | tup ds =>
        refine .inr ⟨F, e, R, esc_of R (k := fun d F1 e1 H1 => d = .tup ds ∧ Rel X.K F1 σ H1 e1 ∧ ∀ J, ItOk X.K J (Bd F1 σ e1) H1 (enumD ds) → Q J H1) (fun d F1 e1 H1 v ⟨ed, R1, k⟩ rp => ?_) ?_⟩
        · subst ed
          obtain ⟨a, vs, rfl, t, r⟩ := rp.tup_inv
          exact ⟨a, vs, rfl, t.sq, k _ (itOk_enumT t r)⟩
        · rw [w] at hb ⊢
          exact fun F1 H1 p1 => ⟨rfl, p1.rel, hb F1 H1 p1 F1 H1 (.refl p1.rel) F1 H1 (.refl p1.rel)⟩
      | _ => exact .inl ⟨F, e, R, esc_of R (k := fun _ _ _ _ => False) (fun _ _ _ _ _ z _ => z.elim) (by rw [w] at hb ⊢; exact fun F1 H1 p1 => hb F1 H1 p1)⟩
end
end Cw

/-! Cw, part P: an assignment to any target, the last words -/
namespace Cw
open PySem L2
def sAsg (f : M RV) (a : G) : S := M.then (M.bind f M.esc) fun d => fun e => match a d e with
  | none => .bad
  | some e' => .nx e'
section
variable {X : Cx} {W : Wx} {tg v : Expr} {f : M RV} {a : G} {ts : List Nat} {pos : Pos}
theorem pds_asg (he : PD X W v f) (hg : PDG X tg ts a) (hs : swapsWithSole [tg] v pos.line X.env = pure false := by rfl) (hw : swappedStores [tg] v X.env = pure none := by rfl)
    (h1 : (assignEach [tg] X.env).map (·.2) = [assign tg X.env] := by rfl) : PDS X W (.Assign [tg] v pos) (sAsg f a) :=
  ps_imp (ps_asg he hg hs hw h1) fun Dn σ H ⟨F, e, R, h⟩ => ⟨F, e, R, esc_of R (k := fun d F1 e1 H1 => Rel X.K F1 σ H1 e1 ∧ SAft W X.K F1 σ H1 e1 Dn (match a d e1 with | none => .bad | some e' => .nx e')) (fun d F1 e1 H1 y ⟨R1, h1⟩ ry => by
    cases w : a d e1 with
    | none => rw [w] at h1; exact h1.elim
    | some e2 =>
      rw [w] at h1
      exact ⟨F1, e1, d, e2, R1, ry, w, fun F' σ' H' p _ => h1 F' σ' H' p⟩) (h.then.imp fun d F1 e1 H1 p1 h1 => ⟨p1.rel, h1⟩)⟩
end
end Cw

/-! Cw, part Q: == by __eq__ -/
namespace Cw
open PySem L2
structure EqI (K : Fg) (C f : Addr) : Prop where
  hs : PySem.W.findIn K (.ref C) "__eq__" = some (some (.ref f))
  hf : PySem.W.isFn K (.ref f) = true
def dEqI (C : Addr) (G : Fn) (x y : D) : Option (Bool × D) := match x, y with
  | .ins C1 fs, .ins C2 gs => if C1 = C ∧ C2 = C then (match G [.ins C1 fs, .ins C2 gs] with
    | .ok (false, .bl b) [] => some (false, .bl b)
    | _ => none) else none
  | x, y => dEq false x y
abbrev B0 : Ad := fun _ => False
theorem RpB.ins0 {K : Fg} {B : Ad} {H : Hp} {v : V} {C : Addr} {ds : List (Str × D)} (h : RpB K B H v (.ins C ds)) : ∃ p dx fs, v = .ref p ∧ H p = some (.ins C dx fs) ∧ Rp K B0 H v (.ins C ds) := by
  rcases h with h | ⟨p, rfl, h⟩
  · have h0 := h.anti (B' := B0) fun _ z => z.elim
    cases h with
    | ins nb q r => exact ⟨_, _, _, rfl, q, h0⟩
  · have h0 : Rp K B0 H (.ref p) (.ins C ds) := OwnAt.rp (fun z => z) (h.anti (B' := B0) fun _ z => z.elim)
    obtain ⟨dx, fs, q, r⟩ := h
    exact ⟨p, dx, fs, rfl, q, h0⟩
section
variable {X : Cx} {C f : Addr} {fd : FuncData} {ps : List Str} {k : Nat} {G : Fn}
theorem od_eqI (ei : EqI X.K C f) (F : FnG X.prog X.w X.K X.mg X.base CX0 k f fd ps (spD X.K [false, false] G)) (hb : Binds X.K fd ps []) (hr : Room k X.A) (hgd : X.A.guards = some []) : OpR X (compareOp .Eq) (rD2 X.K (dEqI C G)) := by
  intro pins s σ H x y v u Q I rx ry hq
  obtain ⟨B, dx, dy, tr, rpx, rpy, q⟩ := hq
  have gen : dEqI C G dx dy = dEq false dx dy → wpAny (model X.prog X.w) X.A (compareOp .Eq v u) (EP X pins σ Q) X.xe s := fun e => od_eq hr.units pins s σ H x y v u Q I rx ry ⟨B, dx, dy, tr, rpx, rpy, by rw [← e]; exact q⟩
  by_cases hi : ∃ C1 fs C2 gs, dx = .ins C1 fs ∧ dy = .ins C2 gs
  · obtain ⟨C1, fs, C2, gs, rfl, rfl⟩ := hi
    unfold dEqI at q
    simp only at q
    split at q
    · rename_i hC
      obtain ⟨rfl, rfl⟩ := hC
      obtain ⟨a, dxa, fa, rfl, ha, ra⟩ := rpx.ins0
      obtain ⟨b, dxb, fb, rfl, hb', rb⟩ := rpy.ins0
      cases rx
      cases ry
      obtain ⟨mA, J, _⟩ := ins_get I.hok ha
      obtain ⟨mB, J', _⟩ := ins_get I.hok hb'
      obtain ⟨od, J, _⟩ := J.look
      obtain ⟨od', J', _⟩ := J'.look
      obtain ⟨m, hF⟩ := I.fr
      show wpAny (model X.prog X.w) X.A (richCompare .Eq (.ref a) (.ref b)) (EP X pins σ Q) X.xe s
      refine PySem.W.cmp_K (op := .Eq) (tb := .ref C2) hr.units0 hF I.ok.mod.kin J J'.type (by simp [PySem.W.notFirst]) ei.hs ei.hf ?_
      cases w : G [.ins C2 fs, .ins C2 gs] with
      | bad => rw [w] at q; exact q.elim
      | exc x ms => rw [w] at q; exact q.elim
      | ok r ms =>
        rw [w] at q
        split at q
        · rename_i r' b' ew
          cases ew
          have hsp : spD X.K [false, false] G [.ref a, .ref b] H (fun v H' => v = .bl b' ∧ Same H H') E0 := by
            refine ⟨B0, [.ins C2 fs, .ins C2 gs], ⟨ra, rb, trivial⟩, List.nodup_nil, fun _ z => z.elim, ?_⟩
            rw [w]
            intro v H' st rv _
            cases rv
            exact ⟨rfl, fun a o q => st.keep a o q (fun z => nomatch z)⟩
          have r2 : Vals [V.ref a, V.ref b] [Value.ref a, Value.ref b] := .cons rfl (.cons rfl .nil)
          have := runG (us := [.ref a, .ref b]) (vs := [.ref a, .ref b]) (xs := []) (ws := []) F hr hgd hb .nil pass0 I r2 hsp
          refine wpAny_mono this (fun r s' z => ?_) fun _ _ x => x
          obtain ⟨z, H', I', rz, ez, ex⟩ := z
          subst ez
          cases rz
          exact ⟨.bl b', H', I', rfl, q _ _ ex (.bl b')⟩
        · exact q.elim
    · exact q.elim
  · refine gen ?_
    unfold dEqI
    split
    · exact absurd ⟨_, _, _, _, rfl, rfl⟩ hi
    · rfl
end
end Cw

/-! Cw, part R: comprehensions with the slots told -/
namespace Cw
open PySem L2
theorem units66 {k : Nat} {A : Around} (r : Room k A) : A.units + 66 < cLine := by have := r.un; omega
section
variable {X : Cx} {W : Wx}
theorem pd_lcV {elt tg iter : Expr} {ifs : List Expr} {scope : Scope} {own : List (Str × Nat)} {vs : List Nat} {pos : Pos} {f : M (List D)} {a : G} {ts : List Nat} {tt : M Bool} {te : M RV} (hc : X.calm = true) (hN : X.N.Nodup) (hi : PDI X W tg iter f) (ok : BlkOk X.N X.env.scope scope own) (hv : own.map (·.2) = vs)
    (hg : ∀ (s : Shared) (H : Hp) (C : Addr) (cl : List (Str × Addr)) (fp : List Addr), PDG (X.blk s H scope (compEnvC scope cl C X.env) fp) tg ts a) (ht : ∀ (s : Shared) (H : Hp) (C : Addr) (cl : List (Str × Addr)) (fp : List Addr), PDTs (X.blk s H scope (compEnvC scope cl C X.env) fp) Wno ifs tt)
    (he : ∀ (s : Shared) (H : Hp) (C : Addr) (cl : List (Str × Addr)) (fp : List Addr), PD (X.blk s H scope (compEnvC scope cl C X.env) fp) Wno elt te) (hts : ∀ i, i ∈ ts → i ∈ vs) (hs : ∀ x, foldedSetIterable iter X.env x = pure x := by intro _; rfl) :
    PD X W (.ListComp elt [⟨tg, iter, ifs, 0⟩] scope pos) (eLc vs f a tt te) := by
  subst hv
  exact pd_lc hc hN hi ok hg ht he hts hs
theorem pds_setLcV {i : Nat} {y : Str} {py : Pos} {elt tg iter : Expr} {ifs : List Expr} {scope : Scope} {own : List (Str × Nat)} {vs : List Nat} {pos spos : Pos} {f : M (List D)} {a : G} {ts : List Nat} {tt : M Bool} {te : M RV} (hc : X.calm = true) (hN : X.N.Nodup) (hy : X.N[i]? = some y) (hyl : X.env.scope.names.lookup y = some .local)
    (hsw : swapsWith (.ListComp elt [⟨tg, iter, ifs, 0⟩] scope pos) (some (.Name y py)) spos.line X.env = pure true) (hi : PDI X W tg iter f) (ok : BlkOk X.N X.env.scope scope own) (hv : own.map (·.2) = vs)
    (hg : ∀ (s : Shared) (H : Hp) (C : Addr) (cl : List (Str × Addr)) (fp : List Addr), PDG (X.blk s H scope (compEnvC scope cl C X.env) fp) tg ts a) (ht : ∀ (s : Shared) (H : Hp) (C : Addr) (cl : List (Str × Addr)) (fp : List Addr), PDTs (X.blk s H scope (compEnvC scope cl C X.env) fp) Wno ifs tt)
    (he : ∀ (s : Shared) (H : Hp) (C : Addr) (cl : List (Str × Addr)) (fp : List Addr), PD (X.blk s H scope (compEnvC scope cl C X.env) fp) Wno elt te) (hts : ∀ i, i ∈ ts → i ∈ vs) (hs : ∀ x, foldedSetIterable iter X.env x = pure x := by intro _; rfl) :
    PDS X W (.Assign [.Name y py] (.ListComp elt [⟨tg, iter, ifs, 0⟩] scope pos) spos) (sSet i (eLc vs f a tt te)) := by
  subst hv
  exact pds_setLc hc hN hy hyl hsw hi ok hg ht he hts hs
end
end Cw

/-! Cw, part S: from a def of the text to the law -/
namespace Cw
open PySem L2 PySem.Spec PyProof.Rows
/-- the law's call, for a def that is walked with no guards around it -/
theorem lawG {P : Program} {w : World} {K : Fg} {mg mb : Str → Option Value} {k : Nat} {fa sc : Addr} {fd : FuncData} {x : Str} {G : Fn} {t : Shared} {us : List Value} {ns : List Int}
    (kin : K.In t.heap) (gns : t.heap.Ns mainGlobals mg) (bns : t.heap.Ns builtinsNs mb) (bbt : ∀ y : Str, y ≠ "__name__" → mb y = bootBuiltins y) (nol : t.heap.NoLimit) (gen : t.gens = #[])
    (at_ : t.heap.get? sc = some { cls := .type "list", data := .seq us.toArray }) (hints : IntsAre us ns) (len : ns.length ≤ sizeLine) (rm : Room k callerA)
    (Fo : ∀ bs : Heap, K.In bs → bs.Ns mainGlobals mg → FnG P w K mg bs CX0 k fa fd [x] (spD K [false] G)) (bd : ∀ (s : Shared) (u : Value), BindsTo s fd ⟨[u], []⟩ [(x, u)])
    (yes : G [.scr (ns.map D.int)] = .ok (false, .bl true) []) :
    codeAny (model P w) callerA (.call (.ref fa) ⟨[.ref sc], []⟩) (fun r t' => r = .ok (.ret (.bool true)) ∧ OldK t.heap t'.heap ∧ t'.os = t.os ∧ AllBare t'.gens) t := by
  have vals := vals_ints hints
  have rps : ∀ {B : Ad} {H : Hp} (l : List Int), RpL K B H (l.map V.int) (l.map D.int) := fun {B H} l => by
    induction l with
    | nil => exact .nil
    | cons i r ih => exact .cons (.int i) ih
  have main : ∀ Hs : Hp, Only Hs → SqL K Hs sc (ns.map V.int) → HOk P w Hs t.heap → (∀ c, Hs c ≠ none → c = sc) → (Hs sc ≠ none → K.lookup sc = none) →
      codeAny (model P w) callerA (.call (.ref fa) ⟨[.ref sc], []⟩) (fun r t' => r = .ok (.ret (.bool true)) ∧ OldK t.heap t'.heap ∧ t'.os = t.os ∧ AllBare t'.gens) t := by
    intro Hs only sq hok one frag
    have hid : ∀ {c : Addr} {ob : Obj}, t.heap.get? c = some ob → Hs c = none → (hidT t.heap Hs).get? c = some ob := fun g n => hidT_get g n
    have off : ∀ {c : Addr} {ob : Obj} {en : Array DictEntry} {ep : Nat}, t.heap.get? c = some ob → ob.data = .dict en ep → Hs c = none := by
      intro c ob en ep g dd
      cases hc : Hs c with
      | none => rfl
      | some z =>
        obtain rfl := one c (by rw [hc]; exact fun y => nomatch y)
        rw [at_] at g
        cases g
        cases dd
    have spaces : ∀ {c : Addr} {m : Str → Option Value}, t.heap.Ns c m → (hidT t.heap Hs).Ns c m := by
      rintro c m ⟨ob, en, ep, g, dd, rest⟩
      exact ⟨ob, en, ep, hid g (off g dd), dd, rest⟩
    have kin' : K.In (hidT t.heap Hs) := by
      intro c ob g
      refine hid (kin c ob g) ?_
      cases hc : Hs c with
      | none => rfl
      | some z =>
        obtain rfl := one c (by rw [hc]; exact fun y => nomatch y)
        rw [frag (by rw [hc]; exact fun y => nomatch y)] at g
        cases g
    have modu : Mod K mg (hidT t.heap Hs) := by
      obtain ⟨mc, l1, l2⟩ := nol
      exact ⟨kin', spaces gns, ⟨mb, spaces bns, bbt⟩, ⟨mc, spaces l1, l2⟩⟩
    have env : Env0 P w K mg (hidT t.heap Hs) callerA [] t Hs := by
      refine ⟨rfl, modu, fun c ob g => of_hidT g, Nat.le_of_eq (hidT_size _ _), trivial, fun c hc => ?_, hok, .of_eq gen⟩
      exact absurd hc (List.not_mem_nil)
    have promise : spD K [false] G [.ref sc] Hs (fun v _ => v = .bl true) E0 := by
      refine ⟨B0, [.scr (ns.map D.int)], ⟨.scr ?_ (rps ns), trivial⟩, List.nodup_nil, fun _ z => z.elim, ?_⟩
      · rcases sq with r | r
        · exact .inl ⟨fun z => z, r⟩
        · exact .inr r
      · rw [yes]
        intro v H' _ rv _
        cases rv
        rfl
    refine codeAny_mono ((Fo _ kin' (spaces gns)).run callerA [] t Hs ⟨[.ref sc], []⟩ [.ref sc] [.ref sc] _ E0 rm rfl env (bd t (.ref sc)) (.cons rfl .nil) promise) ?_
    intro res t' z
    match res, z with
    | .error _, z => exact z.elim
    | .ok (.ret u), z =>
      obtain ⟨v, H', os, bare, un, hok', ru, ev⟩ := z
      cases ev
      cases ru
      refine ⟨rfl, OldK.of_keep fun c ob g => ?_, os, bare⟩
      cases hc : Hs c with
      | none => exact un.keep c ob g hc (fun y => absurd y (List.not_mem_nil)) (by simp)
      | some z =>
        rcases only c with y | ⟨fo, xs, y⟩
        · rw [hc] at y; cases y
        · have after := un.frzs c fo _ y
          have g1 := (hok c _ y).1
          rw [g] at g1
          cases g1
          exact (hok' c _ after).1
  cases own : K.lookup sc with
  | some ob =>
    have g := kin sc ob own
    rw [at_] at g
    cases g
    refine main (fun _ => none) (fun _ => .inl rfl) (.inr ⟨_, us.toArray, _, own, rfl, rfl, rfl, ?_, by simpa using vals⟩) (fun c u y => nomatch y) (fun c y => absurd rfl y) fun y => absurd rfl y
    rw [List.size_toArray, hints.length]
    exact len
  | none =>
    refine main (fun c => if c = sc then some (.frz { cls := .type "list", data := .seq us.toArray } (.lst (ns.map V.int))) else none) (fun c => ?_) (.inl (.inr ⟨_, if_pos rfl⟩)) (fun c u y => ?_) (fun c y => ?_) fun _ => own
    · by_cases e : c = sc
      · exact .inr ⟨_, _, if_pos e⟩
      · exact .inl (if_neg e)
    · by_cases e : c = sc
      · subst e
        have y := (if_pos rfl).symm.trans y
        cases y
        exact ⟨at_, by rw [List.length_map]; exact len, us, _, vals, at_⟩
      · have y := (if_neg e).symm.trans y
        cases y
    · by_cases e : c = sc
      · exact e
      · exact absurd (if_neg e) y
/-- the walk that the row asks for -/
theorem walkG {l : PySem.W.OpenLaw} {n k : Nat} {q : Program} {loose : List Str} {XP : (Str → Option Value) → Heap → Prop} {YP : World → Heap → Prop} {d : DefRec} {K : Params → Fg} {x : Str}
    (most : l.most = some n) (small : n ≤ sizeLine) (dfl : d.params.defaults = []) (rm : Room k callerA) (hY : ∀ (w : World) (h : Heap), YP w h → (K w.params).In h)
    (Fo : ∀ (w : World) (mg : Str → Option Value) (fa : Addr) (h : Heap), (K w.params).In h → h.Ns mainGlobals mg → mg d.name = some (.ref fa) →
      ∃ (fd : FuncData) (G : Fn), (∀ (s : Shared) (u : Value), BindsTo s fd ⟨[u], []⟩ [(x, u)]) ∧ (∀ ns : List Int, ns.length ≤ n → G [.scr (ns.map D.int)] = .ok (false, .bl true) []) ∧
        ∀ bs : Heap, (K w.params).In bs → bs.Ns mainGlobals mg → FnG l.prog w (K w.params) mg bs CX0 k fa fd [x] (spD (K w.params) [false] G)) :
    PySem.W.WalkO q loose XP YP l.row.toRowW d [] (fun f vs => PySem.call f vs) := by
  refine Att.attach_call most dfl fun w s0 t mg mb fa ob pm cd doc sc us ns Gr Y ho hd hcd hmg hobj hints hl hgen => ?_
  obtain ⟨fd, G, bd, yes, hF⟩ := Fo w mg fa _ (hY w _ Y) Gr.T.g hmg
  exact lawG (hY w _ Y) Gr.T.g Gr.T.b Gr.T.builtins Gr.T.nolimit hgen hobj hints (Nat.le_trans hl small) rm hF bd (yes ns hl)
end Cw

/-! Cw, part T: what isinstance asks of a class, from the written part -/
namespace Cw
open PySem L2
structure ClsF (K : Fg) (C : Addr) : Prop where
  ci : ClsI K C
  ty : PySem.W.typeIn K (.ref C) = some (.type "type")
  cc : ∃ r, PySem.W.clsIn K C = some r
  mr : ∀ T, T ∈ tysB → PySem.W.mroIn K C (.type T) = some false
theorem ClsF.out {K : Fg} {C : Addr} (h : ClsF K C) {T : String} (hT : T ∈ tysB) : PySem.W.kitOne K (.ref C) (.type T) = some false := by
  have e : PySem.W.kitMeta T = true := by
    simp only [tysB, List.mem_cons, List.not_mem_nil, or_false] at hT
    rcases hT with rfl | rfl | rfl | rfl | rfl | rfl | rfl <;> decide +kernel
  have n : (Value.ref C == Value.type T) = false := rfl
  unfold PySem.W.kitOne PySem.W.kitCls
  rw [n]
  simp only [Bool.false_eq_true, if_false, e, if_true]
  exact h.mr T hT
theorem ClsF.inn {K : Fg} {C : Addr} (h : ClsF K C) {T : String} (hT : T ∈ tysB) : PySem.W.kitOne K (.type T) (.ref C) = some false := by
  have n : (Value.type T == Value.ref C) = false := rfl
  unfold PySem.W.kitOne PySem.W.kitCls
  rw [n]
  simp only [Bool.false_eq_true, if_false]
  obtain ⟨r, hr⟩ := h.cc
  rw [hr, h.ty]
  have y : ((some r).isSome && (some (Value.type "type") == some (Value.type "type"))) = true := by
    rw [Option.isSome_some, Bool.true_and]; decide +kernel
  rw [y]
  simp only [if_true]
  unfold PySem.W.subIn
  simp only [tysB, List.mem_cons, List.not_mem_nil, or_false] at hT
  rcases hT with rfl | rfl | rfl | rfl | rfl | rfl | rfl <;> rfl
theorem kit_two {K : Fg} {C C' : Addr} (h : ClsF K C) (hm : PySem.W.mroIn K C' (.ref C) = some false) (hne : C' ≠ C) : PySem.W.kitOne K (.ref C') (.ref C) = some false := by
  have n : (Value.ref C' == Value.ref C) = false := by
    rw [beq_eq_false_iff_ne]
    intro z
    cases z
    exact hne rfl
  unfold PySem.W.kitOne PySem.W.kitCls
  rw [n]
  simp only [Bool.false_eq_true, if_false]
  obtain ⟨r, hr⟩ := h.cc
  rw [hr, h.ty]
  have y : ((some r).isSome && (some (Value.type "type") == some (Value.type "type"))) = true := by
    rw [Option.isSome_some, Bool.true_and]; decide +kernel
  rw [y]
  simp only [if_true]
  exact hm
theorem IsiK.none {K : Fg} : IsiK K [] := ⟨fun _ h => absurd h List.not_mem_nil, fun _ h => absurd h List.not_mem_nil, fun _ h => absurd h List.not_mem_nil, fun _ h => absurd h List.not_mem_nil⟩
theorem IsiK.of {K : Fg} {Cs : List Addr} (h : ∀ C, C ∈ Cs → ClsF K C) (h2 : ∀ C, C ∈ Cs → ∀ C', C' ∈ Cs → C' ≠ C → PySem.W.mroIn K C' (.ref C) = some false) : IsiK K Cs :=
  ⟨fun C m => (h C m).ci, fun C m T t => (h C m).out t, fun C m T t => (h C m).inn t, fun C m C' m' n => kit_two (h C m) (h2 C m C' m' n) n⟩
theorem IsiK.one {K : Fg} {C : Addr} (h : ClsF K C) : IsiK K [C] := .of (fun C' m => by rw [List.mem_singleton.mp m]; exact h) fun C1 m1 C2 m2 n => absurd ((List.mem_singleton.mp m2).trans (List.mem_singleton.mp m1).symm) n
end Cw

/-! Cw, part U: words of the mirrors' mathematics -/
namespace Cw
open PySem L2
/-! ### data that == and repr take -/
/-- depth at most k, weight at most n, small integers -/
def Nice (k n : Nat) (d : D) : Prop := ∃ x, toP d = some x ∧ x.canLay0 = true ∧ x.showable = true ∧ x.intsShort 13 = true ∧ x.depth ≤ k ∧ x.weight ≤ n
def NiceL (k n : Nat) (ds : List D) : Prop := ∃ xs, toPL ds = some xs ∧ PyData.canLayAll0 xs = true ∧ PyData.showableAll xs = true ∧ PyData.intsShortAll 13 xs = true ∧ PyData.depthAll xs ≤ k ∧ PyData.weightAll xs ≤ n
theorem Nice.mono {k n k' n' : Nat} {d : D} (h : Nice k n d) (hk : k ≤ k') (hn : n ≤ n') : Nice k' n' d := by
  obtain ⟨x, a, b, c, e, f, g⟩ := h
  exact ⟨x, a, b, c, e, by omega, by omega⟩
theorem NiceL.mono {k n k' n' : Nat} {ds : List D} (h : NiceL k n ds) (hk : k ≤ k') (hn : n ≤ n') : NiceL k' n' ds := by
  obtain ⟨x, a, b, c, e, f, g⟩ := h
  exact ⟨x, a, b, c, e, by omega, by omega⟩
theorem NiceL.nil : NiceL 0 0 [] := ⟨[], by simp [toPL], by simp [PyData.canLayAll0], by simp [PyData.showableAll], by simp [PyData.intsShortAll], by simp [PyData.depthAll], by simp [PyData.weightAll]⟩
theorem NiceL.cons {k n k' n' : Nat} {d : D} {ds : List D} (h : Nice k n d) (t : NiceL k' n' ds) : NiceL (max k k') (n + 1 + n') (d :: ds) := by
  obtain ⟨x, a1, a2, a3, a4, a5, a6⟩ := h
  obtain ⟨xs, b1, b2, b3, b4, b5, b6⟩ := t
  refine ⟨x :: xs, by simp [toPL, a1, b1], by simp [PyData.canLayAll0, a2, b2], by simp [PyData.showableAll, a3, b3], by simp [PyData.intsShortAll, a4, b4], ?_, ?_⟩
  · simp only [PyData.depthAll]; omega
  · simp only [PyData.weightAll]; omega
theorem NiceL.all {k n : Nat} : ∀ {ds : List D}, (∀ d, d ∈ ds → Nice k n d) → NiceL k (ds.length * (n + 1)) ds
  | [], _ => NiceL.nil.mono (Nat.zero_le _) (Nat.zero_le _)
  | d :: ds, h => by
    have := NiceL.cons (h d (by simp)) (NiceL.all (ds := ds) fun d hd => h d (by simp [hd]))
    refine this.mono (by omega) ?_
    simp only [List.length_cons, Nat.add_mul]
    omega
theorem NiceL.tup {k n : Nat} {ds : List D} (h : NiceL k n ds) : Nice (k + 1) n (.tup ds) := by
  obtain ⟨xs, b1, b2, b3, b4, b5, b6⟩ := h
  exact ⟨.tuple xs, by simp [toP, b1], by simpa [PyData.canLay0] using b2, by simpa [PyData.showable] using b3, by simpa [PyData.intsShort] using b4, by simp only [PyData.depth]; omega, by simpa [PyData.weight] using b6⟩
theorem NiceL.lst {k n : Nat} {ds : List D} (h : NiceL k n ds) : Nice (k + 1) n (.lst ds) := by
  obtain ⟨xs, b1, b2, b3, b4, b5, b6⟩ := h
  exact ⟨.list xs, by simp [toP, b1], by simpa [PyData.canLay0] using b2, by simpa [PyData.showable] using b3, by simpa [PyData.intsShort] using b4, by simp only [PyData.depth]; omega, by simpa [PyData.weight] using b6⟩
theorem Nice.bl (b : Bool) : Nice 0 0 (.bl b) := ⟨.bool b, by simp [toP], by simp [PyData.canLay0], by simp [PyData.showable], by simp [PyData.intsShort], by simp [PyData.depth], by simp [PyData.weight]⟩
theorem Nice.non : Nice 0 0 .non := ⟨.none, by simp [toP], by simp [PyData.canLay0], by simp [PyData.showable], by simp [PyData.intsShort], by simp [PyData.depth], by simp [PyData.weight]⟩
theorem log_lt {n : Nat} (h : n < 2 ^ 40) : n.log2 < 40 := by
  by_cases hn : n = 0
  · subst hn; decide
  · exact (Nat.log2_lt hn).mpr h
theorem Nice.int {i : Int} (h : i.natAbs < 2 ^ 39) : Nice 0 41 (.int i) := by
  have h12 : i.natAbs < 10 ^ 12 := Nat.lt_trans h (by decide)
  have hl : i.natAbs.log2 < 40 := log_lt (Nat.lt_trans h (by decide))
  refine ⟨.int i, by simp [toP], by simp [PyData.canLay0], ?_, ?_, by simp [PyData.depth], ?_⟩
  · simp only [PyData.showable, decide_eq_true_eq]; omega
  · simp only [PyData.intsShort, decide_eq_true_eq]; exact PyData.shown_int_le h12
  · simp only [PyData.weight]; split <;> omega
/-- what such data gives to == and to repr -/
theorem dEqP_same {d : D} {x : PyData} (a : toP d = some x) (sh : SeqAt.shaped x = true) (b : x.canLay0 = true) : dEqP false d d = some (false, .bl true) := by
  unfold dEqP
  simp only [a, sh, and_self, if_true, Bool.false_eq_true, if_false, SeqAt.eqv_refl x b]
theorem Nice.eq {k n : Nat} {d : D} (h : Nice k n d) (hk : k ≤ 64) : dEq false d d = some (false, .bl true) := by
  obtain ⟨x, a, b, c, e, f, g⟩ := h
  have sh : SeqAt.shaped x = true := by
    unfold SeqAt.shaped
    simp only [b, Bool.true_and, decide_eq_true_eq]; omega
  have hp := dEqP_same a sh b
  unfold dEq
  split
  · simp
  · simp
  · exact hp
theorem Nice.repr {k n : Nat} {d : D} (h : Nice k n d) (hk : k ≤ 64) (hn : n ≤ 2 ^ 20) : ∃ t, dRepr [d] = some (false, .str t) := by
  obtain ⟨x, a, b, c, e, f, g⟩ := h
  refine ⟨x.shown, ?_⟩
  have hl : x.layable0 = true := by
    unfold PyData.layable0
    simp only [b, Bool.true_and, Bool.and_eq_true, decide_eq_true_eq]
    omega
  have := PyData.shown_fits_of_layable0 (B := 13) (by decide) (by decide) hl e
  unfold dRepr
  simp only [a]
  rw [if_pos ⟨c, by omega, this⟩]
end Cw

/-! Cw, part V: loops of the mirrors -/
namespace Cw
open PySem L2
/-- a comprehension that changes nothing: e is the state in which each turn begins -/
theorem lcL_pure {vs : List Nat} {a : G} {tt : M Bool} {te : M RV} {e : En} (p : D → Bool) (f : D → D) : ∀ {ds : List D},
    (∀ d, d ∈ ds → ∃ e1 e2, a d e = some e1 ∧ tt e1 = .ok (p d) e2 ∧ (p d = false → noMu e2 vs = true ∧ wipeE e2 vs = e) ∧ (p d = true → ∃ e3, M.bind te M.esc e2 = .ok (f d) e3 ∧ noMu e3 vs = true ∧ wipeE e3 vs = e)) →
    lcL vs a tt te ds e = .ok ((ds.filter p).map f) e
  | [], _ => rfl
  | d :: ds, h => by
    have ih := lcL_pure (vs := vs) (a := a) (tt := tt) (te := te) (e := e) p f (ds := ds) fun d hd => h d (List.mem_cons_of_mem _ hd)
    obtain ⟨e1, e2, h1, h2, h3, h4⟩ := h d List.mem_cons_self
    unfold lcL
    simp only [h1, h2]
    cases w : p d with
    | false =>
      obtain ⟨h5, h6⟩ := h3 w
      simp only [h5, if_true, h6, ih, List.filter_cons, w, Bool.false_eq_true, if_false]
    | true =>
      obtain ⟨e3, h5, h6, h7⟩ := h4 w
      simp only [h5, h6, if_true, h7, ih, List.filter_cons, w, List.map_cons]
/-- without a test -/
theorem lcL_map {vs : List Nat} {a : G} {te : M RV} {e : En} (f : D → D) {ds : List D}
    (h : ∀ d, d ∈ ds → ∃ e1 e3, a d e = some e1 ∧ M.bind te M.esc e1 = .ok (f d) e3 ∧ noMu e3 vs = true ∧ wipeE e3 vs = e) : lcL vs a eYes te ds e = .ok (ds.map f) e := by
  have := lcL_pure (vs := vs) (a := a) (tt := eYes) (te := te) (e := e) (fun _ => true) f (ds := ds) fun d hd => by
    obtain ⟨e1, e3, h1, h2, h3, h4⟩ := h d hd
    exact ⟨e1, e1, h1, rfl, ⟨fun z => (Bool.noConfusion z), fun _ => ⟨e3, h2, h3, h4⟩⟩⟩
  rwa [List.filter_eq_self.mpr (fun _ _ => rfl)] at this
/-- a comprehension whose test changes the state: some of the items -/
theorem lcL_some {vs : List Nat} {a : G} {tt : M Bool} {te : M RV} (I : En → Prop) : ∀ {ds : List D} {e : En}, I e →
    (∀ d e, d ∈ ds → I e → ∃ e1 b e2, a d e = some e1 ∧ tt e1 = .ok b e2 ∧ (b = false → noMu e2 vs = true ∧ I (wipeE e2 vs)) ∧ (b = true → ∃ e3, M.bind te M.esc e2 = .ok d e3 ∧ noMu e3 vs = true ∧ I (wipeE e3 vs))) →
    ∃ ys e', lcL vs a tt te ds e = .ok ys e' ∧ I e' ∧ ys.Sublist ds
  | [], e, i, _ => ⟨[], e, rfl, i, .slnil⟩
  | d :: ds, e, i, h => by
    obtain ⟨e1, b, e2, h1, h2, h3, h4⟩ := h d e List.mem_cons_self i
    unfold lcL
    simp only [h1, h2]
    cases b with
    | false =>
      obtain ⟨h5, h6⟩ := h3 rfl
      obtain ⟨ys, e', k1, k2, k3⟩ := lcL_some I (ds := ds) h6 fun d e hd => h d e (List.mem_cons_of_mem _ hd)
      exact ⟨ys, e', by simp only [h5, if_true, k1], k2, k3.cons _⟩
    | true =>
      obtain ⟨e3, h5, h6, h7⟩ := h4 rfl
      obtain ⟨ys, e', k1, k2, k3⟩ := lcL_some I (ds := ds) h7 fun d e hd => h d e (List.mem_cons_of_mem _ hd)
      exact ⟨d :: ys, e', by simp only [h5, h6, if_true, k1], k2, k3.cons_cons _⟩
/-- a loop that goes to its end: I tells what holds when the items before are done -/
theorem forL_inv {a : G} {b : S} (I : List D → En → Prop) : ∀ {ds done : List D} {e : En}, I done e →
    (∀ d pre post e, done ++ ds = pre ++ d :: post → I pre e → ∃ e1 e2, a d e = some e1 ∧ (b e1 = .nx e2 ∨ b e1 = .ct e2) ∧ I (pre ++ [d]) e2) →
    ∃ e', forL a b ds e = .nx e' ∧ I (done ++ ds) e'
  | [], done, e, i, _ => ⟨e, rfl, by simpa using i⟩
  | d :: ds, done, e, i, h => by
    obtain ⟨e1, e2, h1, h2, h3⟩ := h d done ds e rfl i
    obtain ⟨e', k1, k2⟩ := forL_inv I (ds := ds) (done := done ++ [d]) h3 fun d' pre post e' q => h d' pre post e' (by rw [← q]; simp)
    refine ⟨e', ?_, by simpa using k2⟩
    unfold forL
    rcases h2 with h2 | h2 <;> simp only [h1, h2, k1]
/-- the same where what is done does not matter -/
theorem forL_all {a : G} {b : S} (I : En → Prop) {ds : List D} {e : En} (i : I e) (h : ∀ d e, d ∈ ds → I e → ∃ e1 e2, a d e = some e1 ∧ (b e1 = .nx e2 ∨ b e1 = .ct e2) ∧ I e2) : ∃ e', forL a b ds e = .nx e' ∧ I e' := by
  obtain ⟨e', k1, k2⟩ := forL_inv (fun _ => I) (ds := ds) (done := []) i fun d pre post e q j => h d e (by
    have q : ds = pre ++ d :: post := by simpa using q
    rw [q]; simp) j
  exact ⟨e', k1, k2⟩
/-! ### integers as data -/
def ii (xs : List Int) : List D := xs.map D.int
theorem ii_length (xs : List Int) : (ii xs).length = xs.length := List.length_map ..
theorem fVL_ii : ∀ xs : List Int, fVL (ii xs) = some (xs.map V.int)
  | [] => rfl
  | x :: xs => by
    show fVL (D.int x :: ii xs) = _
    unfold fVL
    rw [fVL_ii xs]
    rfl
theorem inV_int (x : Int) : ∀ xs : List Int, inV (V.int x) (xs.map V.int) = decide (x ∈ xs)
  | [] => by simp [inV]
  | y :: ys => by
    have ih := inV_int x ys
    unfold inV at ih ⊢
    rw [List.map_cons, List.any_cons, ih]
    show (y == x || decide (x ∈ ys)) = _
    by_cases h : y = x
    · subst h; simp
    · have h' : ¬ x = y := fun z => h z.symm
      simp [h, h']
theorem dIn_tup (x : Int) (xs : List Int) : dIn false (.int x) (.tup (ii xs)) = some (false, .bl (decide (x ∈ xs))) := by
  unfold dIn
  simp only [fV, fVL_ii, inV_int]
  rfl
theorem dIn_lst (x : Int) (xs : List Int) : dIn false (.int x) (.lst (ii xs)) = some (false, .bl (decide (x ∈ xs))) := by
  unfold dIn
  simp only [fV, fVL_ii, inV_int]
  rfl
theorem dNotIn_tup (x : Int) (xs : List Int) : dIn true (.int x) (.tup (ii xs)) = some (false, .bl (!decide (x ∈ xs))) := by
  unfold dIn
  simp only [fV, fVL_ii, inV_int]
  rfl
theorem dNotIn_lst (x : Int) (xs : List Int) : dIn true (.int x) (.lst (ii xs)) = some (false, .bl (!decide (x ∈ xs))) := by
  unfold dIn
  simp only [fV, fVL_ii, inV_int]
  rfl
/-! ### the item at a place -/
theorem atI_nat {α : Type} (xs : List α) (k : Nat) : L2.atI xs (k : Int) = xs[k]? := by
  unfold L2.atI L2.ixN
  by_cases h : k < xs.length <;> simp [h]
theorem dIx_tup {xs : List D} {k : Nat} {d : D} (h : xs[k]? = some d) : dIx (.tup xs) (.int (k : Int)) = some (false, d) := by
  unfold dIx
  simp only [atI_nat, h]
theorem dIx_lst {xs : List D} {k : Nat} {d : D} (h : xs[k]? = some d) : dIx (.lst xs) (.int (k : Int)) = some (false, d) := by
  unfold dIx
  simp only [atI_nat, h]
end Cw
namespace Cw
open PySem L2
section
variable (Cs : List Addr)
theorem isi_ii (i : Int) : dIsi Cs [.int i, .raw (.ty "int")] = some (false, .bl true) := by
  have e : kitB "int" "int" = some true := by decide +kernel
  simp only [dIsi, isiTy, tyS, e]
theorem isi_ib (i : Int) : dIsi Cs [.int i, .raw (.ty "bool")] = some (false, .bl false) := by
  have e : kitB "int" "bool" = some false := by decide +kernel
  simp only [dIsi, isiTy, tyS, e]
theorem isi_tt (xs : List D) : dIsi Cs [.tup xs, .raw (.ty "tuple")] = some (false, .bl true) := by
  have e : kitB "tuple" "tuple" = some true := by decide +kernel
  simp only [dIsi, isiTy, tyS, e]
theorem isi_cc (C : Addr) (fs : List (Str × D)) (h : C ∈ Cs) : dIsi Cs [.ins C fs, .raw (.ref C)] = some (false, .bl true) := by
  simp only [dIsi, isiCl, h, and_self, if_true, decide_true]
theorem isi2_l (xs : List D) : dIsi2 Cs "list" "tuple" (.lst xs) = some (false, .bl true) := by
  have e : kitB "list" "list" = some true := by decide +kernel
  have e2 : kitB "list" "tuple" = some false := by decide +kernel
  simp only [dIsi2, isiTy, tyS, e, e2, Bool.true_or]
theorem isi2_t (xs : List D) : dIsi2 Cs "list" "tuple" (.tup xs) = some (false, .bl true) := by
  have e : kitB "tuple" "list" = some false := by decide +kernel
  have e2 : kitB "tuple" "tuple" = some true := by decide +kernel
  simp only [dIsi2, isiTy, tyS, e, e2, Bool.false_or]
end
end Cw
namespace Cw
open PySem L2
theorem dEq_int (i j : Int) : dEq false (.int i) (.int j) = some (false, .bl (decide (i = j))) := rfl
theorem dNe_int (i j : Int) : dEq true (.int i) (.int j) = some (false, .bl (!decide (i = j))) := rfl
theorem dEq_str (i j : Str) : dEq false (.str i) (.str j) = some (false, .bl (decide (i = j))) := rfl
theorem dCmp_int (p : Int → Int → Bool) (i j : Int) : dCmp p (.int i) (.int j) = some (false, .bl (p i j)) := rfl
theorem dAdd_int (i j : Int) : dAdd (.int i) (.int j) = some (false, .int (i + j)) := rfl
theorem dSub_int (i j : Int) : dSub (.int i) (.int j) = some (false, .int (i - j)) := rfl
theorem dMod_int (i j : Int) (h : 0 < j) : dMod (.int i) (.int j) = some (false, .int (i % j)) := if_pos h
theorem dDiv_int (i j : Int) (h : 0 < j) (h2 : j < 1073741824) : dDiv (.int i) (.int j) = some (false, .int (i / j)) := if_pos ⟨h, h2⟩
theorem dMul_int (i j : Int) (h : (smallI i || smallI j) = true) : dMul (.int i) (.int j) = some (false, .int (i * j)) := if_pos h
theorem dMul_lst (xs : List D) (k : Nat) (h : k < 2 ^ 62) (h2 : xs.length * k ≤ sizeLine) : dMul (.lst xs) (.int (k : Int)) = some (true, .lst (List.replicate k xs).flatten) := by
  unfold dMul
  simp only [Int.toNat_natCast]
  rw [if_pos ⟨by omega, by omega, h2⟩]
theorem dAdd_tup (xs ys : List D) (h : xs.length + ys.length ≤ sizeLine) : dAdd (.tup xs) (.tup ys) = some (false, .tup (xs ++ ys)) := if_pos h
theorem dAdd_lst (xs ys : List D) (h : xs.length + ys.length ≤ sizeLine) : dAdd (.lst xs) (.lst ys) = some (true, .lst (xs ++ ys)) := if_pos h
theorem dInt_int (i : Int) : dInt [.int i] = some (false, .int i) := rfl
theorem dAbs_int (i : Int) : dAbs [.int i] = some (false, .int (if i < 0 then -i else i)) := rfl
theorem dLen_lst (xs : List D) : dLen [.lst xs] = some (false, .int xs.length) := rfl
theorem dLen_tup (xs : List D) : dLen [.tup xs] = some (false, .int xs.length) := rfl
theorem dList_lst (xs : List D) : dList [.lst xs] = some (true, .lst xs) := rfl
theorem dList_tup (xs : List D) : dList [.tup xs] = some (true, .lst xs) := rfl
theorem dTuple_lst (xs : List D) : dTuple [.lst xs] = some (false, .tup xs) := rfl
theorem dTuple_tup (xs : List D) : dTuple [.tup xs] = some (false, .tup xs) := rfl
end Cw
namespace Cw
open PySem L2
/-- 0 .. n-1 -/
def rg (n : Nat) : List Int := (List.range n).map fun (k : Nat) => (k : Int)
theorem rg_length (n : Nat) : (rg n).length = n := by simp [rg]
theorem mem_rg {n : Nat} {i : Int} : i ∈ rg n ↔ 0 ≤ i ∧ i < n := by
  unfold rg
  rw [List.mem_map]
  constructor
  · rintro ⟨k, hk, rfl⟩
    have := List.mem_range.mp hk
    omega
  · intro h
    exact ⟨i.toNat, List.mem_range.mpr (by omega), by omega⟩
theorem rangeD_rg (n : Nat) : rangeD 0 n = ii (rg n) := by
  unfold rangeD ii rg
  rw [List.map_map]
  apply List.map_congr_left
  intro k _
  simp
theorem rgOk_nat (n : Nat) (h : n ≤ 2 ^ 20) : rgOk 0 (n : Int) = true := by
  refine rgOk_iff.mpr ⟨by decide, by decide, by omega, by omega, by omega⟩
theorem rg_to (n : Nat) : ((n : Int) - 0).toNat = n := by omega
theorem NiceL.ii {xs : List Int} (h : ∀ i, i ∈ xs → i.natAbs < 2 ^ 39) : NiceL 0 (xs.length * 42) (Cw.ii xs) := by
  have := NiceL.all (k := 0) (n := 41) (ds := Cw.ii xs) fun d hd => by
    obtain ⟨i, hi, rfl⟩ := List.mem_map.mp hd
    exact Nice.int (h i hi)
  rwa [ii_length] at this
/-- groups as data -/
def gs (rs : List (List Int)) : List D := rs.map fun r => .tup (ii r)
theorem gs_length (rs : List (List Int)) : (gs rs).length = rs.length := List.length_map ..
/-- a group of people below n -/
def Row (n : Nat) (r : List Int) : Prop := r.Sublist (rg n)
theorem Row.lt {n : Nat} {r : List Int} (h : Row n r) {i : Int} (hi : i ∈ r) : 0 ≤ i ∧ i < n := mem_rg.mp (h.subset hi)
theorem Row.len {n : Nat} {r : List Int} (h : Row n r) : r.length ≤ n := by
  have := h.length_le
  rwa [rg_length] at this
theorem Row.nice {n : Nat} {r : List Int} (h : Row n r) (hn : n ≤ 32) : Nice 1 (n * 42) (.tup (ii r)) := by
  have := (NiceL.ii (xs := r) fun i hi => by have := h.lt hi; omega).tup
  exact this.mono (Nat.le_refl _) (Nat.mul_le_mul_right _ h.len)
theorem rows_nice {n : Nat} {rs : List (List Int)} (h : ∀ r, r ∈ rs → Row n r) (hn : n ≤ 32) : NiceL 1 (rs.length * (n * 42 + 1)) (gs rs) := by
  have := NiceL.all (k := 1) (n := n * 42) (ds := gs rs) fun d hd => by
    obtain ⟨r, hr, rfl⟩ := List.mem_map.mp hd
    exact (h r hr).nice hn
  rwa [gs_length] at this
theorem sub_ii {ys : List D} {xs : List Int} (h : ys.Sublist (ii xs)) : ∃ g, ys = ii g ∧ g.Sublist xs := by
  obtain ⟨g, hg, e⟩ := List.sublist_map_iff.mp h
  exact ⟨g, e, hg⟩
theorem eqvAll_nil (ys : List PyData) : PyData.eqv (.list ys) (.list []) = ys.isEmpty := by
  cases ys <;> simp [PyData.eqv, PyData.eqvAll]
theorem toPL_empty {ds : List D} {xs : List PyData} (h : toPL ds = some xs) : xs.isEmpty = ds.isEmpty := by
  cases ds with
  | nil => simp [toPL] at h; subst h; rfl
  | cons d ds =>
    unfold toPL at h
    split at h
    · cases h; rfl
    · cases h
theorem dNe_nil {k n : Nat} {ds : List D} (h : NiceL k n ds) (hk : k < 64) : dEq true (.lst ds) (.lst []) = some (false, .bl (!ds.isEmpty)) := by
  obtain ⟨xs, b1, b2, b3, b4, b5, b6⟩ := h
  have s1 : SeqAt.shaped (.list xs) = true := by
    unfold SeqAt.shaped
    have e : PyData.depth (.list xs) = PyData.depthAll xs + 1 := by simp only [PyData.depth]
    rw [e]
    simp only [PyData.canLay0, b2, Bool.true_and]
    exact decide_eq_true (by omega)
  have s2 : SeqAt.shaped (.list []) = true := by decide +kernel
  have e1 : toP (.lst ds) = some (.list xs) := by simp [toP, b1]
  have e2 : toP (.lst []) = some (.list []) := by simp [toP, toPL]
  show dEqP true (.lst ds) (.lst []) = _
  unfold dEqP
  simp only [e1, e2, s1, s2, and_self, if_true, eqvAll_nil, toPL_empty b1]
end Cw
namespace Cw
open PySem L2
/-- a slot that a caller watches -/
def muB : Option (Fl × D) → Bool
  | some (.mu, _) => true
  | _ => false
theorem isMu_eq (e : En) (i : Nat) : isMu e i = muB (getE e i) := rfl
theorem muB_none : muB none = false := rfl
theorem muB_sh (d : D) : muB (some (.sh, d)) = false := rfl
theorem muB_ow (d : D) : muB (some (.ow, d)) = false := rfl
theorem muB_mu (d : D) : muB (some (.mu, d)) = true := rfl
theorem in62_nat (n : Nat) (h : n ≤ 2 ^ 60) : in62 (n : Int) = true := in62_iff.mpr ⟨by omega, by omega⟩
theorem dApp_one (xs : List D) (y : D) (h : xs.length < sizeLine) : dApp xs [y] = some (xs ++ [y]) := if_pos h
end Cw

/-! Cw, part W: the words of the mirrors, applied -/
namespace Cw
open PySem L2
section
variable (e : En)
theorem bind_eq {α β : Type} (f : M α) (g : α → M β) : M.bind f g e = match f e with
    | .ok a e1 => g a e1
    | .exc x e1 => .exc x e1
    | .bad => .bad := rfl
theorem eAnd_eq (f g : M Bool) : eAnd f g e = match f e with
    | .ok true e1 => g e1
    | .ok false e1 => .ok false e1
    | .exc x e1 => .exc x e1
    | .bad => .bad := by
  unfold eAnd M.bind
  cases f e with
  | ok b e1 => cases b <;> rfl
  | _ => rfl
theorem eOr_eq (f g : M Bool) : eOr f g e = match f e with
    | .ok true e1 => .ok true e1
    | .ok false e1 => g e1
    | .exc x e1 => .exc x e1
    | .bad => .bad := by
  unfold eOr M.bind
  cases f e with
  | ok b e1 => cases b <;> rfl
  | _ => rfl
theorem eIf_eq (c : M Bool) (f g : M RV) : eIf c f g e = match c e with
    | .ok true e1 => f e1
    | .ok false e1 => g e1
    | .exc x e1 => .exc x e1
    | .bad => .bad := by
  unfold eIf M.bind
  cases c e with
  | ok b e1 => cases b <;> rfl
  | _ => rfl
theorem sIf_eq (c : M Bool) (g h : S) : sIf c g h e = match c e with
    | .ok true e1 => g e1
    | .ok false e1 => h e1
    | .exc x e1 => .exc x e1
    | .bad => .bad := by
  unfold sIf M.then
  cases c e with
  | ok b e1 => cases b <;> rfl
  | _ => rfl
theorem eBool_eq (f : M RV) : eBool f e = match (M.bind f M.get) e with
    | .ok (.bl b) e1 => .ok b e1
    | .ok _ e1 => .bad
    | .exc x e1 => .exc x e1
    | .bad => .bad := by
  unfold eBool M.bind
  cases f e with
  | ok r e1 =>
    simp only
    cases M.get r e1 with
    | ok d e2 => cases d <;> rfl
    | _ => rfl
  | _ => rfl
theorem eAndV_eq (f g : M RV) : eAndV f g e = match (M.bind f M.get) e with
    | .ok (.bl true) e1 => g e1
    | .ok (.bl false) e1 => .ok (.sh (.bl false)) e1
    | .ok _ e1 => .bad
    | .exc x e1 => .exc x e1
    | .bad => .bad := by
  unfold eAndV M.bind
  cases f e with
  | ok r e1 =>
    simp only
    cases M.get r e1 with
    | ok d e2 =>
      cases d with
      | bl b => cases b <;> rfl
      | _ => rfl
    | _ => rfl
  | _ => rfl
theorem eOrV_eq (f g : M RV) : eOrV f g e = match (M.bind f M.get) e with
    | .ok (.bl false) e1 => g e1
    | .ok (.bl true) e1 => .ok (.sh (.bl true)) e1
    | .ok _ e1 => .bad
    | .exc x e1 => .exc x e1
    | .bad => .bad := by
  unfold eOrV M.bind
  cases f e with
  | ok r e1 =>
    simp only
    cases M.get r e1 with
    | ok d e2 =>
      cases d with
      | bl b => cases b <;> rfl
      | _ => rfl
    | _ => rfl
  | _ => rfl
theorem eLc_eq (vs : List Nat) (f : M (List D)) (a : G) (tt : M Bool) (te : M RV) : eLc vs f a tt te e = match f e with
    | .ok ds e1 => (match M.wipe vs e1 with
      | .ok _ e2 => (match lcL vs a tt te ds e2 with
        | .ok ys e3 => if ys.length ≤ sizeLine then .ok (.fr (.lst ys)) e3 else .bad
        | .exc x e3 => .exc x e3
        | .bad => .bad)
      | .exc x e2 => .exc x e2
      | .bad => .bad)
    | .exc x e1 => .exc x e1
    | .bad => .bad := by
  unfold eLc M.bind
  cases f e with
  | ok ds e1 =>
    simp only
    cases M.wipe vs e1 with
    | ok u e2 =>
      simp only
      cases lcL vs a tt te ds e2 with
      | ok ys e3 =>
        simp only
        split <;> rfl
      | _ => rfl
    | _ => rfl
  | _ => rfl
theorem eTup_eq (fs : M (List D)) : eTup fs e = match fs e with
    | .ok ds e1 => if ds.length ≤ sizeLine then .ok (.sh (.tup ds)) e1 else .bad
    | .exc x e1 => .exc x e1
    | .bad => .bad := by
  unfold eTup M.bind
  cases fs e with
  | ok ds e1 => simp only; split <;> rfl
  | _ => rfl
theorem eLst_eq (fs : M (List D)) : eLst fs e = match fs e with
    | .ok ds e1 => if ds.length ≤ sizeLine then .ok (.fr (.lst ds)) e1 else .bad
    | .exc x e1 => .exc x e1
    | .bad => .bad := by
  unfold eLst M.bind
  cases fs e with
  | ok ds e1 => simp only; split <;> rfl
  | _ => rfl
theorem iSeq_eq (f : M RV) : iSeq f e = match (M.bind f M.esc) e with
    | .ok (.lst ds) e1 => .ok ds e1
    | .ok (.tup ds) e1 => .ok ds e1
    | .ok _ e1 => .bad
    | .exc x e1 => .exc x e1
    | .bad => .bad := by
  unfold iSeq
  rw [bind_eq]
  cases (M.bind f M.esc) e with
  | ok d e1 => cases d <;> rfl
  | _ => rfl
theorem iRng1D_eq (fs : M (List RV)) : iRng1D fs e = match (M.bind fs getAll) e with
    | .ok [.int j] e1 => if in62 j = true then .ok (rangeD 0 j.toNat) e1 else .bad
    | .ok _ e1 => .bad
    | .exc x e1 => .exc x e1
    | .bad => .bad := by
  unfold iRng1D
  rw [bind_eq, bind_eq]
  cases fs e with
  | ok rs e1 =>
    simp only
    rw [bind_eq]
    cases getAll rs e1 with
    | ok ds e2 =>
      match ds with
      | [.int j] => simp only; split <;> rfl
      | [] => rfl
      | [.non] | [.bl _] | [.str _] | [.tup _] | [.lst _] | [.dic _] | [.ins _ _] | [.raw _] | [.scr _] => rfl
      | .int _ :: _ :: _ | .non :: _ :: _ | .bl _ :: _ :: _ | .str _ :: _ :: _ | .tup _ :: _ :: _ | .lst _ :: _ :: _ | .dic _ :: _ :: _ | .ins _ _ :: _ :: _ | .raw _ :: _ :: _ | .scr _ :: _ :: _ => rfl
    | _ => rfl
  | _ => rfl
theorem eFld_eq (C : Addr) (n : Str) (g : M RV) : eFld C n g e = match (M.bind g M.get) e with
    | .ok (.ins C' ds) e1 => if C' = C then (match ds.lookup n with
      | some x => .ok (.sh x) e1
      | none => .bad) else .bad
    | .ok _ e1 => .bad
    | .exc x e1 => .exc x e1
    | .bad => .bad := by
  unfold eFld M.bind
  cases g e with
  | ok r e1 =>
    simp only
    cases M.get r e1 with
    | ok d e2 =>
      cases d with
      | ins C' ds =>
        simp only
        split
        · cases ds.lookup n <;> rfl
        · rfl
      | _ => rfl
    | _ => rfl
  | _ => rfl
theorem eMeth_eq (C : Addr) (m : Str) (modes : List Bool) (G : Fn) (g : M RV) (fs : M (List RV)) : eMeth C m modes G g fs e = match (M.bind g M.esc) e with
    | .ok (.ins C' ds) e1 => if C' = C ∧ ds.lookup m = none then (match fs e1 with
      | .ok rs e2 => callM (false :: modes) G (.sh (.ins C' ds) :: rs) e2
      | .exc x e2 => .exc x e2
      | .bad => .bad) else .bad
    | .ok _ e1 => .bad
    | .exc x e1 => .exc x e1
    | .bad => .bad := by
  unfold eMeth
  rw [bind_eq]
  cases (M.bind g M.esc) e with
  | ok d e1 =>
    cases d with
    | ins C' ds =>
      simp only
      split
      · rw [bind_eq]; cases fs e1 <;> rfl
      · rfl
    | _ => rfl
  | _ => rfl
theorem eMut_eq (i : Nat) (dop : List D → List D → Option (List D)) (fs : M (List D)) : eMut i dop fs e = match (M.bind (eVar i) M.get) e with
    | .ok (.lst _) e0 => (match fs e0 with
      | .ok ds e1 => (match getE e1 i with
        | some (.sh, _) => .bad
        | some (f, .lst xs) => (match dop xs ds with
          | some ys => .ok (.sh .non) (e1.set i (some (f, .lst ys)))
          | none => .bad)
        | _ => .bad)
      | .exc x e1 => .exc x e1
      | .bad => .bad)
    | .ok _ _ => .bad
    | .exc x e1 => .exc x e1
    | .bad => .bad := by
  unfold eMut eVar
  rw [bind_eq, bind_eq]
  cases getE e i with
  | none => rfl
  | some v =>
    simp only
    rw [bind_eq]
    cases M.get (.sl i) e with
    | ok d e1 =>
      cases d with
      | lst ds =>
        simp only
        rw [bind_eq]
        cases fs e1 <;> rfl
      | _ => rfl
    | _ => rfl
theorem oSome_eq (f : M RV) : oSome f e = match (M.bind f M.get) e with
    | .ok (.int i) e1 => .ok (some i) e1
    | .ok _ e1 => .bad
    | .exc x e1 => .exc x e1
    | .bad => .bad := by
  unfold oSome M.bind
  cases f e with
  | ok r e1 =>
    simp only
    cases M.get r e1 with
    | ok d e2 => cases d <;> rfl
    | _ => rfl
  | _ => rfl
theorem rg1_eq (f : M RV) : rg1 f e = match (M.bind f M.get) e with
    | .ok (.int i) e1 => .ok (0, i) e1
    | .ok _ e1 => .bad
    | .exc x e1 => .exc x e1
    | .bad => .bad := by
  unfold rg1 M.bind
  cases f e with
  | ok r e1 =>
    simp only
    cases M.get r e1 with
    | ok d e2 => cases d <;> rfl
    | _ => rfl
  | _ => rfl
theorem eNotV_eq (f : M RV) : eNotV f e = match (M.bind f M.get) e with
    | .ok (.bl b) e1 => .ok (.sh (.bl (!b))) e1
    | .ok _ e1 => .bad
    | .exc x e1 => .exc x e1
    | .bad => .bad := by
  unfold eNotV M.bind
  cases f e with
  | ok r e1 =>
    simp only
    cases M.get r e1 with
    | ok d e2 => cases d <;> rfl
    | _ => rfl
  | _ => rfl
end
end Cw
namespace Cw
open PySem L2
def pI (q : Int → Bool) : D → Bool
  | .int i => q i
  | _ => false
theorem filter_pI (q : Int → Bool) (xs : List Int) : (ii xs).filter (pI q) = ii (xs.filter q) := by
  unfold ii
  rw [List.filter_map]
  rfl
/-- the integers that pass -/
theorem lcL_filt {vs : List Nat} {a : G} {tt : M Bool} {te : M RV} {e : En} (q : Int → Bool) {xs : List Int}
    (h : ∀ i, i ∈ xs → ∃ e1 e2, a (.int i) e = some e1 ∧ tt e1 = .ok (q i) e2 ∧ noMu e2 vs = true ∧ wipeE e2 vs = e ∧ M.bind te M.esc e2 = .ok (.int i) e2) : lcL vs a tt te (ii xs) e = .ok (ii (xs.filter q)) e := by
  have := lcL_pure (vs := vs) (a := a) (tt := tt) (te := te) (e := e) (pI q) (fun d => d) (ds := ii xs) fun d hd => by
    obtain ⟨i, hi, rfl⟩ := List.mem_map.mp hd
    obtain ⟨e1, e2, h1, h2, h3, h4, h5⟩ := h i hi
    exact ⟨e1, e2, h1, h2, fun _ => ⟨h3, h4⟩, fun _ => ⟨e2, h5, h3, h4⟩⟩
  rw [this, filter_pI, List.map_id']
theorem getD_gs {rs : List (List Int)} {k : Nat} (h : k < rs.length) : (gs rs)[k]? = some (.tup (ii rs[k])) := by
  unfold gs
  rw [List.getElem?_map, List.getElem?_eq_getElem h]
  rfl
/-- the rows from which somebody of g is -/
def hit (rs : List (List Int)) (g : List Int) (k : Nat) : Bool := g.any fun p => decide (p ∈ rs.getD k [])
def openI (rs : List (List Int)) (g : List Int) : List Int := (rg rs.length).filter fun i => hit rs g i.toNat
theorem dIx_gs (b : Bool) {rs : List (List Int)} {k : Nat} (h : k < rs.length) : dIx (if b then .lst (gs rs) else .tup (gs rs)) (.int (k : Int)) = some (false, .tup (ii rs[k])) := by
  cases b
  · exact dIx_tup (getD_gs h)
  · exact dIx_lst (getD_gs h)
theorem cut_to {α : Type} (xs : List α) (k : Nat) : cutG xs none (some (k : Int)) = xs.take k := by
  unfold cutG
  rw [HT.sIx_nat]
  show List.take (min k xs.length - 0) (xs.drop 0) = _
  rw [Nat.sub_zero, List.drop_zero]
  by_cases h : k ≤ xs.length
  · rw [Nat.min_eq_left h]
  · rw [Nat.min_eq_right (by omega), List.take_length, List.take_of_length_le (by omega)]
theorem cut_from {α : Type} (xs : List α) (k : Nat) : cutG xs (some (k : Int)) none = xs.drop k := by
  unfold cutG
  rw [HT.sIx_nat]
  show List.take (xs.length - min k xs.length) (xs.drop (min k xs.length)) = _
  by_cases h : k ≤ xs.length
  · rw [Nat.min_eq_left h, List.take_of_length_le (by rw [List.length_drop]; exact Nat.le_refl _)]
  · rw [Nat.min_eq_right (by omega), List.drop_of_length_le (Nat.le_refl _), List.drop_of_length_le (by omega)]
    simp
end Cw
namespace Cw
open PySem L2
/-- one turn of a loop -/
def fstep (a : G) (b : S) (d : D) : S := fun e => match a d e with
  | none => .bad
  | some e1 => match b e1 with
    | .ct e2 => .nx e2
    | r => r
theorem forS_inv {a : G} {b : S} (I : List D → En → Prop) {ds : List D} {e : En} (i : I [] e)
    (h : ∀ d pre post e, ds = pre ++ d :: post → I pre e → ∃ e2, fstep a b d e = .nx e2 ∧ I (pre ++ [d]) e2) : ∃ e', forL a b ds e = .nx e' ∧ I ds e' := by
  have := forL_inv (a := a) (b := b) I (ds := ds) (done := []) i fun d pre post e q j => by
    obtain ⟨e2, k1, k2⟩ := h d pre post e (by simpa using q) j
    unfold fstep at k1
    cases w : a d e with
    | none => rw [w] at k1; cases k1
    | some e1 =>
      rw [w] at k1
      simp only at k1
      refine ⟨e1, e2, rfl, ?_, k2⟩
      cases w2 : b e1 with
      | ct e3 => rw [w2] at k1; cases k1; exact .inr rfl
      | nx e3 => rw [w2] at k1; cases k1; exact .inl rfl
      | bk e3 => rw [w2] at k1; cases k1
      | rt r e3 => rw [w2] at k1; cases k1
      | exc x e3 => rw [w2] at k1; cases k1
      | bad => rw [w2] at k1; cases k1
  simpa using this
theorem forS_all {a : G} {b : S} (I : En → Prop) {ds : List D} {e : En} (i : I e) (h : ∀ d e, d ∈ ds → I e → ∃ e2, fstep a b d e = .nx e2 ∧ I e2) : ∃ e', forL a b ds e = .nx e' ∧ I e' :=
  forS_inv (fun _ => I) i fun d pre post e q j => h d e (by rw [q]; simp) j
end Cw
namespace Cw
open PySem L2
theorem rg_succ (n : Nat) : rg (n + 1) = rg n ++ [(n : Int)] := by
  unfold rg
  rw [List.range_succ, List.map_append]
  rfl
theorem rg_get {n k : Nat} (h : k < n) : (rg n)[k]? = some (k : Int) := by
  unfold rg
  rw [List.getElem?_map, List.getElem?_range h]
  rfl
theorem rg_take {n k : Nat} (h : k ≤ n) : (rg n).take k = rg k := by
  unfold rg
  rw [← List.map_take, List.take_range, Nat.min_eq_left h]
/-- where a loop over a range stands -/
theorem split_rg {n : Nat} {pre post : List D} {d : D} (h : ii (rg n) = pre ++ d :: post) : pre.length < n ∧ d = .int (pre.length : Int) ∧ pre = ii (rg pre.length) := by
  have hl := congrArg List.length h
  rw [ii_length, rg_length, List.length_append, List.length_cons] at hl
  have hlt : pre.length < n := by omega
  refine ⟨hlt, ?_, ?_⟩
  · have := congrArg (fun l => l[pre.length]?) h
    simp only [List.getElem?_append_right (Nat.le_refl _), Nat.sub_self, List.getElem?_cons_zero] at this
    unfold ii at this
    rw [List.getElem?_map, rg_get hlt] at this
    exact (Option.some.inj this).symm
  · have := congrArg (List.take pre.length) h
    rw [List.take_left'] at this
    · refine this.symm.trans ?_
      unfold ii
      rw [← List.map_take, rg_take (Nat.le_of_lt hlt)]
    · rfl
theorem NiceL.rg {n : Nat} {xs : List Int} (h : ∀ i, i ∈ xs → 0 ≤ i ∧ i < n) (hn : n ≤ 2 ^ 30) : NiceL 0 (xs.length * 42) (Cw.ii xs) :=
  NiceL.ii fun i hi => by have := h i hi; omega
end Cw

namespace K15
open PySem L2 Cw
/-! ### the mirrors -/
def Cs (a : Nat → Addr) : List Addr := [a 12]
/-- _law_bag: 0 _law_script, 1 _law_cell -/
noncomputable def g_law_bag (a : Nat → Addr) : S :=
    (sRet (eLst (lCons (eC (.int 0)) (lCons (eC (.int 987654321)) (lCons (eC (.int 0)) (lCons (eLc [1] (iSeq (eSl (eVar 0) oNone (oSome (eC (.int 63))))) (gN 1) eYes (eCallB dAbs (aCons (eVar 1) aNil))) aNil))))))
noncomputable def m_law_bag (a : Nat → Addr) : Fn := noX (fnOf 2 [false] (g_law_bag a))
/-- _law_take: 0 _law_bag_here, 1 _law_many, 2 _law_cell, 3 _law_mix, 4 _law_value, 5 _law_first, 6 _law_second -/
noncomputable def g_law_take (a : Nat → Addr) : S :=
    (sSeq (sIf (eBool (eOp2 (dEq false) (eOp2 dIx (eVar 0) (eC (.int 0))) (eC (.int 0)))) (sSeq (sSet 2 (eC (.int 0)))
    (sSeq (sIf (eBool (eOp2 (dCmp fun i j => decide (i < j)) (eOp2 dIx (eVar 0) (eC (.int 2))) (eCallB dLen (aCons (eOp2 dIx (eVar 0) (eC (.int 3))) aNil)))) (sSet 2 (eOp2 dIx (eOp2 dIx (eVar 0) (eC (.int 3))) (eOp2 dIx (eVar 0) (eC (.int 2))))) sNil)
    (sSeq (sAugIx 0 (eC (.int 2)) (eC (.int 1)))
    (sSeq (sIf (eBool (eOp2 (dCmp fun i j => decide (j ≤ i)) (eVar 2) (eC (.int 1000000000000000000)))) (sSetIx 0 (eC (.int 0)) (eVar 2)) sNil)
    (sSeq (sSet 3 (eOp2 dAdd (eOp2 dMul (eOp2 dIx (eVar 0) (eC (.int 1))) (eC (.int 48271))) (eOp2 dMod (eCallB dInt (aCons (eVar 2) aNil)) (eC (.int 2147483647)))))
    (sSetIx 0 (eC (.int 1)) (eOp2 dMod (eCallB dInt (aCons (eOp2 dAdd (eVar 3) (eOp2 dMul (eC (.int 7919)) (eOp2 dIx (eVar 0) (eC (.int 2))))) aNil)) (eC (.int 2147483647))))))))) sNil)
    (sSeq (sIf (eBool (eOp2 (dCmp fun i j => decide (j < i)) (eOp2 dIx (eVar 0) (eC (.int 0))) (eC (.int 0)))) (sSeq (sSet 4 (eOp2 dMod (eCallB dInt (aCons (eOp2 dIx (eVar 0) (eC (.int 0))) aNil)) (eVar 1)))
    (sSeq (sSetIx 0 (eC (.int 0)) (eOp2 dDiv (eOp2 dIx (eVar 0) (eC (.int 0))) (eVar 1)))
    (sRet (eVar 4)))) sNil)
    (sSeq (sSet 5 (eOp2 dMod (eCallB dInt (aCons (eOp2 dMul (eOp2 dAdd (eOp2 dIx (eVar 0) (eC (.int 1))) (eC (.int 1))) (eC (.int 39373))) aNil)) (eC (.int 1000000007))))
    (sSeq (sSet 6 (eOp2 dMod (eCallB dInt (aCons (eOp2 dMul (eVar 5) (eVar 5)) aNil)) (eC (.int 998244353))))
    (sRet (eOp2 dMod (eCallB dInt (aCons (eOp2 dDiv (eOp2 dMod (eCallB dInt (aCons (eOp2 dMul (eVar 6) (eC (.int 30011))) aNil)) (eC (.int 998244353))) (eC (.int 7))) aNil)) (eVar 1)))))))
noncomputable def m_law_take (a : Nat → Addr) : Fn := noX (fnOf 7 [true, false] (g_law_take a))
/-- _law_one: 0 _law_bag_here, 1 _law_things -/
noncomputable def g_law_one_tt (a : Nat → Addr) : S :=
    (sRet (eOp2 dIx (eVar 1) (eCall [true, false] (m_law_take a) (kCons (eVar 0) (sCons (eCallB dLen (aCons (eVar 1) aNil)) aNil)))))
noncomputable def m_law_one_tt (a : Nat → Addr) : Fn := noX (fnOf 2 [true, true] (g_law_one_tt a))
/-- _law_some: 0 _law_bag_here, 1 _law_things, 2 _law_one_here -/
noncomputable def g_law_some (a : Nat → Addr) : S :=
    (sRet (eLc [2] (iSeq (eVar 1)) (gN 2) (eBool (eOp2 (dEq false) (eCall [true, false] (m_law_take a) (kCons (eVar 0) (sCons (eC (.int 2)) aNil))) (eC (.int 1)))) (eVar 2)))
noncomputable def m_law_some (a : Nat → Addr) : Fn := noX (fnOf 3 [true, false] (g_law_some a))
/-- _law_job: 0 _law_bag_here, 1 _law_size, 2 _law_way, 3 _law_job_here -/
noncomputable def g_law_job (a : Nat → Addr) : S :=
    (sSeq (sSet 2 (eCall [true, false] (m_law_take a) (kCons (eVar 0) (sCons (eC (.int 6)) aNil))))
    (sSeq (sIf (eBool (eOp2 (dEq false) (eVar 2) (eC (.int 0)))) (sRet (eTRg (rg1 (eVar 1)))) sNil)
    (sSeq (sSet 3 (eCall [true, false] (m_law_some a) (kCons (eVar 0) (sCons (eLRg (rg1 (eVar 1))) aNil))))
    (sSeq (sIf (eBool (eOp2 (dCmp fun i j => decide (i < j)) (eVar 2) (eC (.int 3)))) (sSet 3 (eCall [true, false] (m_law_some a) (kCons (eVar 0) (sCons (eVar 3) aNil)))) sNil)
    (sRet (eCallB dTuple (aCons (eVar 3) aNil)))))))
noncomputable def m_law_job (a : Nat → Addr) : Fn := noX (fnOf 4 [true, false] (g_law_job a))
/-- _law_jobs: 0 _law_bag_here, 1 _law_size, 2 _law_most, 3 _law_jobs_here, 4 _law_k -/
noncomputable def g_law_jobs (a : Nat → Addr) : S :=
    (sSeq (sSet 3 (eLst aNil))
    (sSeq (sFor (iRng1D (aCons (eCall [true, false] (m_law_take a) (kCons (eVar 0) (sCons (eOp2 dAdd (eVar 2) (eC (.int 1))) aNil))) aNil)) (gN 4) (sIf (eAnd (eBool (eOp2 (dEq true) (eVar 3) (eLst aNil))) (eBool (eOp2 (dEq false) (eCall [true, false] (m_law_take a) (kCons (eVar 0) (sCons (eC (.int 5)) aNil))) (eC (.int 0))))) (sExpr (eMut 3 dApp (lCons (eCall [true, true] (m_law_one_tt a) (kCons (eVar 0) (kCons (eVar 3) aNil))) aNil))) (sExpr (eMut 3 dApp (lCons (eCall [true, false] (m_law_job a) (kCons (eVar 0) (sCons (eVar 1) aNil))) aNil)))))
    (sRet (eVar 3))))
noncomputable def m_law_jobs (a : Nat → Addr) : Fn := noX (fnOf 5 [true, false, false] (g_law_jobs a))
/-- is_integer: 0 thing -/
noncomputable def g_is_integer (a : Nat → Addr) : S :=
    (sRet (eAndV (eCallB (dIsi (Cs a)) (aCons (eVar 0) (aCons (eC (.raw (.ty "int"))) aNil))) (eNotV (eCallB (dIsi (Cs a)) (aCons (eVar 0) (aCons (eC (.raw (.ty "bool"))) aNil))))))
noncomputable def m_is_integer (a : Nat → Addr) : Fn := noX (fnOf 1 [false] (g_is_integer a))
/-- is_between: 0 thing, 1 least, 2 most -/
noncomputable def g_is_between (a : Nat → Addr) : S :=
    (sRet (eAndV (eCall [false] (m_is_integer a) (sCons (eVar 0) aNil)) (eChain (dCmp fun i j => decide (i ≤ j)) (dCmp fun i j => decide (i ≤ j)) (eVar 1) (eVar 0) (eVar 2))))
noncomputable def m_is_between (a : Nat → Addr) : Fn := noX (fnOf 3 [false, false, false] (g_is_between a))
/-- is_listed: 0 thing, 1 most -/
noncomputable def g_is_listed (a : Nat → Addr) : S :=
    (sRet (eAndV (eOp1 (dIsi2 (Cs a) "list" "tuple") (eVar 0)) (eOp2 (dCmp fun i j => decide (i ≤ j)) (eCallB dLen (aCons (eVar 0) aNil)) (eVar 1))))
noncomputable def m_is_listed (a : Nat → Addr) : Fn := noX (fnOf 2 [false, false] (g_is_listed a))
/-- is_group: 0 size, 1 thing, 2 person, 3 at -/
noncomputable def g_is_group (a : Nat → Addr) : S :=
    (sSeq (sIf (eOr (eNot (eBool (eCallB (dIsi (Cs a)) (aCons (eVar 1) (aCons (eC (.raw (.ty "tuple"))) aNil))))) (eNot (eBool (eCallB dAll (aCons (eLc [2] (iSeq (eVar 1)) (gN 2) eYes (eCall [false, false, false] (m_is_between a) (sCons (eVar 2) (sCons (eC (.int 0)) (sCons (eOp2 dSub (eVar 0) (eC (.int 1))) aNil))))) aNil))))) (sRet (eC (.bl false))) sNil)
    (sRet (eCallB dAll (aCons (eLc [3] (iRng1D (aCons (eOp2 dSub (eCallB dLen (aCons (eVar 1) aNil)) (eC (.int 1))) aNil)) (gN 3) eYes (eOp2 (dCmp fun i j => decide (i < j)) (eOp2 dIx (eVar 1) (eVar 3)) (eOp2 dIx (eVar 1) (eOp2 dAdd (eVar 3) (eC (.int 1)))))) aNil))))
noncomputable def m_is_group (a : Nat → Addr) : Fn := noX (fnOf 4 [false, false] (g_is_group a))
/-- Jobs.__init__: 0 self, 1 size, 2 jobs, 3 at, 4 job -/
noncomputable def g_Jobs_UinitU (a : Nat → Addr) : S :=
    (sSeq (sIf (eNot (eBool (eCall [false, false, false] (m_is_between a) (sCons (eVar 1) (sCons (eC (.int 0)) (sCons (eC (.int 7)) aNil)))))) sNever sNil)
    (sSeq (sIf (eNot (eBool (eCall [false, false] (m_is_listed a) (sCons (eVar 2) (sCons (eC (.int 7)) aNil))))) sNever sNil)
    (sSeq (sFor (iEnum (eVar 2)) (gT 2 (gsCons (gN 3) (gsCons (gN 4) gsNil))) (sIf (eNot (eBool (eCall [false, false] (m_is_group a) (sCons (eVar 1) (sCons (eVar 4) aNil))))) sNever sNil))
    (sSeq (sFldS (a 12) 0 "size" (eVar 1))
    (sFldS (a 12) 0 "jobs" (eCallB dTuple (aCons (eVar 2) aNil)))))))
noncomputable def m_Jobs_UinitU (a : Nat → Addr) : Fn := noX (fnOf 5 [true, false, false] (g_Jobs_UinitU a))
/-- _law_alike: 0 _law_found, 1 _law_due -/
noncomputable def g_law_alike (a : Nat → Addr) : S :=
    (sRet (eAndV (eOp2 (dEq false) (eVar 0) (eVar 1)) (eOp2 (dEq false) (eCallB dRepr (aCons (eVar 0) aNil)) (eCallB dRepr (aCons (eVar 1) aNil)))))
noncomputable def m_law_alike (a : Nat → Addr) : Fn := noX (fnOf 2 [false, false] (g_law_alike a))
/-- open_indexes: 0 jobs, 1 group, 2 at, 3 job, 4 person -/
noncomputable def g_open_indexes (a : Nat → Addr) : S :=
    (sRet (eCallB dTuple (aCons (eLc [2, 3] (iEnum (eVar 0)) (gT 2 (gsCons (gN 2) (gsCons (gN 3) gsNil))) (eBool (eCallB dAny (aCons (eLc [4] (iSeq (eVar 1)) (gN 4) eYes (eOp2 (dIn false) (eVar 4) (eVar 3))) aNil))) (eVar 2)) aNil)))
noncomputable def m_open_indexes (a : Nat → Addr) : Fn := noX (fnOf 5 [false, false] (g_open_indexes a))
/-- Jobs.open_to: 0 self, 1 group -/
noncomputable def g_Jobs_open_to (a : Nat → Addr) : S :=
    (sRet (eCall [false, false] (m_open_indexes a) (sCons (eFld (a 12) "jobs" (eVar 0)) (sCons (eVar 1) aNil))))
noncomputable def m_Jobs_open_to (a : Nat → Addr) : Fn := noX (fnOf 2 [false, false] (g_Jobs_open_to a))
/-- _law_open: 0 _law_rows, 1 _law_group, 2 _law_found, 3 _law_at, 4 _law_p -/
noncomputable def g_law_open (a : Nat → Addr) : S :=
    (sSeq (sSet 2 (eLst aNil))
    (sSeq (sFor (iRng1D (aCons (eCallB dLen (aCons (eVar 0) aNil)) aNil)) (gN 3) (sIf (eBool (eOp2 (dEq true) (eLc [4] (iSeq (eVar 1)) (gN 4) (eBool (eOp2 (dIn false) (eVar 4) (eOp2 dIx (eVar 0) (eVar 3)))) (eVar 4)) (eLst aNil))) (sExpr (eMut 2 dApp (lCons (eVar 3) aNil))) sNil))
    (sRet (eCallB dTuple (aCons (eVar 2) aNil)))))
noncomputable def m_law_open (a : Nat → Addr) : Fn := noX (fnOf 5 [false, false] (g_law_open a))
/-- _law_told: 0 _law_jobs_here -/
noncomputable def g_law_told (a : Nat → Addr) : S :=
    (sRet (eTup (lCons (eFld (a 12) "size" (eVar 0)) (lCons (eFld (a 12) "jobs" (eVar 0)) aNil))))
noncomputable def m_law_told (a : Nat → Addr) : Fn := noX (fnOf 1 [false] (g_law_told a))
/-- Jobs.picked: 0 self, 1 indexes, 2 at -/
noncomputable def g_Jobs_picked (a : Nat → Addr) : S :=
    (sRet (eMake (a 12) [false, false] (m_Jobs_UinitU a) (sCons (eFld (a 12) "size" (eVar 0)) (sCons (eLc [2] (iSeq (eVar 1)) (gN 2) eYes (eOp2 dIx (eFld (a 12) "jobs" (eVar 0)) (eVar 2))) aNil))))
noncomputable def m_Jobs_picked (a : Nat → Addr) : Fn := noX (fnOf 3 [false, false] (g_Jobs_picked a))
/-- apart: 0 one, 1 other, 2 person -/
noncomputable def g_apart (a : Nat → Addr) : S :=
    (sRet (eCallB dTuple (aCons (eLc [2] (iSeq (eVar 0)) (gN 2) (eBool (eOp2 (dIn true) (eVar 2) (eVar 1))) (eVar 2)) aNil)))
noncomputable def m_apart (a : Nat → Addr) : Fn := noX (fnOf 3 [false, false] (g_apart a))
/-- rest: 0 size, 1 group -/
noncomputable def g_rest (a : Nat → Addr) : S :=
    (sRet (eCall [false, false] (m_apart a) (sCons (eTRg (rg1 (eVar 0))) (sCons (eVar 1) aNil))))
noncomputable def m_rest (a : Nat → Addr) : Fn := noX (fnOf 2 [false, false] (g_rest a))
/-- Jobs.outside: 0 self, 1 at -/
noncomputable def g_Jobs_outside (a : Nat → Addr) : S :=
    (sRet (eCall [false, false] (m_rest a) (sCons (eFld (a 12) "size" (eVar 0)) (sCons (eOp2 dIx (eFld (a 12) "jobs" (eVar 0)) (eVar 1)) aNil))))
noncomputable def m_Jobs_outside (a : Nat → Addr) : Fn := noX (fnOf 2 [false, false] (g_Jobs_outside a))
/-- _law_rest: 0 _law_size, 1 _law_group, 2 _law_p -/
noncomputable def g_law_rest (a : Nat → Addr) : S :=
    (sRet (eCallB dTuple (aCons (eLc [2] (iRng1D (aCons (eVar 0) aNil)) (gN 2) (eBool (eOp2 (dIn true) (eVar 2) (eVar 1))) (eVar 2)) aNil)))
noncomputable def m_law_rest (a : Nat → Addr) : Fn := noX (fnOf 3 [false, false] (g_law_rest a))
/-- Jobs.changed: 0 self, 1 at, 2 job -/
noncomputable def g_Jobs_changed (a : Nat → Addr) : S :=
    (sRet (eMake (a 12) [false, false] (m_Jobs_UinitU a) (sCons (eFld (a 12) "size" (eVar 0)) (sCons (eOp2 dAdd (eOp2 dAdd (eCallB dList (aCons (eSl (eFld (a 12) "jobs" (eVar 0)) oNone (oSome (eVar 1))) aNil)) (eLst (lCons (eVar 2) aNil))) (eCallB dList (aCons (eSl (eFld (a 12) "jobs" (eVar 0)) (oSome (eOp2 dAdd (eVar 1) (eC (.int 1)))) oNone) aNil))) aNil))))
noncomputable def m_Jobs_changed (a : Nat → Addr) : Fn := noX (fnOf 3 [false, false, false] (g_Jobs_changed a))
/-- together: 0 one, 1 other -/
noncomputable def g_together (a : Nat → Addr) : S :=
    (sRet (eCallB dTuple (aCons (eOp1 dSortSet (eOp2 dAdd (eVar 0) (eVar 1))) aNil)))
noncomputable def m_together (a : Nat → Addr) : Fn := noX (fnOf 2 [false, false] (g_together a))
/-- Jobs.put: 0 self, 1 at, 2 person -/
noncomputable def g_Jobs_put (a : Nat → Addr) : S :=
    (sRet (eMeth (a 12) "changed" [false, false] (m_Jobs_changed a) (eVar 0) (sCons (eVar 1) (sCons (eCall [false, false] (m_together a) (sCons (eOp2 dIx (eFld (a 12) "jobs" (eVar 0)) (eVar 1)) (sCons (eTup (lCons (eVar 2) aNil)) aNil))) aNil))))
noncomputable def m_Jobs_put (a : Nat → Addr) : Fn := noX (fnOf 3 [false, false, false] (g_Jobs_put a))
/-- Jobs.struck: 0 self, 1 at, 2 person -/
noncomputable def g_Jobs_struck (a : Nat → Addr) : S :=
    (sRet (eMeth (a 12) "changed" [false, false] (m_Jobs_changed a) (eVar 0) (sCons (eVar 1) (sCons (eCall [false, false] (m_apart a) (sCons (eOp2 dIx (eFld (a 12) "jobs" (eVar 0)) (eVar 1)) (sCons (eTup (lCons (eVar 2) aNil)) aNil))) aNil))))
noncomputable def m_Jobs_struck (a : Nat → Addr) : Fn := noX (fnOf 3 [false, false, false] (g_Jobs_struck a))
/-- _law_with: 0 _law_rows, 1 _law_at, 2 _law_job_here -/
noncomputable def g_law_with (a : Nat → Addr) : S :=
    (sRet (eOp2 dAdd (eOp2 dAdd (eCallB dTuple (aCons (eSl (eVar 0) oNone (oSome (eVar 1))) aNil)) (eTup (lCons (eVar 2) aNil))) (eCallB dTuple (aCons (eSl (eVar 0) (oSome (eOp2 dAdd (eVar 1) (eC (.int 1)))) oNone) aNil))))
noncomputable def m_law_with (a : Nat → Addr) : Fn := noX (fnOf 3 [false, false, false] (g_law_with a))
/-- _law_changed_right: 0 _law_bag_here, 1 _law_jobs_here, 2 _law_size, 3 _law_rows, 4 _law_at, 5 _law_person, 6 _law_other, 7 _law_every, 8 _law_more, 9 _law_less, 10 _law_put, 11 _law_struck, 12 _law_due, 13 _law_back, 14 _law_again, 15 _law_group, 16 _law_p -/
noncomputable def g_law_changed_right (a : Nat → Addr) : S :=
    (sSeq (sAsg (eTup (lCons (eCall [true, false] (m_law_take a) (kCons (eVar 0) (sCons (eVar 2) aNil))) (lCons (eCall [true, false] (m_law_take a) (kCons (eVar 0) (sCons (eVar 2) aNil))) (lCons (eLRg (rg1 (eVar 2))) aNil)))) (gT 3 (gsCons (gN 5) (gsCons (gN 6) (gsCons (gN 7) gsNil)))))
    (sSeq (sSet 8 (eCallB dTuple (aCons (eLc [16] (iSeq (eVar 7)) (gN 16) (eOr (eBool (eOp2 (dIn false) (eVar 16) (eOp2 dIx (eVar 3) (eVar 4)))) (eBool (eOp2 (dEq false) (eVar 16) (eVar 5)))) (eVar 16)) aNil)))
    (sSeq (sSet 9 (eCallB dTuple (aCons (eLc [16] (iSeq (eOp2 dIx (eVar 3) (eVar 4))) (gN 16) (eBool (eOp2 (dEq true) (eVar 16) (eVar 5))) (eVar 16)) aNil)))
    (sSeq (sPar2 10 11 (eMeth (a 12) "put" [false, false] (m_Jobs_put a) (eVar 1) (sCons (eVar 4) (sCons (eVar 5) aNil))) (eMeth (a 12) "struck" [false, false] (m_Jobs_struck a) (eVar 1) (sCons (eVar 4) (sCons (eVar 5) aNil))))
    (sSeq (sSet 12 (eLst (lCons (eTup (lCons (eVar 2) (lCons (eCall [false, false, false] (m_law_with a) (sCons (eVar 3) (sCons (eVar 4) (sCons (eVar 8) aNil)))) aNil))) (lCons (eTup (lCons (eVar 2) (lCons (eCall [false, false, false] (m_law_with a) (sCons (eVar 3) (sCons (eVar 4) (sCons (eVar 9) aNil)))) aNil))) aNil))))
    (sSeq (sIf (eNot (eBool (eCall [false, false] (m_law_alike a) (sCons (eLst (lCons (eCall [false] (m_law_told a) (sCons (eVar 10) aNil)) (lCons (eCall [false] (m_law_told a) (sCons (eVar 11) aNil)) aNil))) (sCons (eVar 12) aNil))))) (sRet (eC (.bl false))) sNil)
    (sSeq (sSet 13 (eCallB dTuple (aCons (eLc [16] (iSeq (eVar 8)) (gN 16) (eBool (eOp2 (dEq true) (eVar 16) (eVar 6))) (eVar 16)) aNil)))
    (sSeq (sSet 14 (eCallB dTuple (aCons (eLc [16] (iSeq (eVar 7)) (gN 16) (eOr (eBool (eOp2 (dIn false) (eVar 16) (eVar 9))) (eBool (eOp2 (dEq false) (eVar 16) (eVar 6)))) (eVar 16)) aNil)))
    (sSeq (sSet 12 (eLst (lCons (eTup (lCons (eVar 2) (lCons (eCall [false, false, false] (m_law_with a) (sCons (eVar 3) (sCons (eVar 4) (sCons (eVar 13) aNil)))) aNil))) (lCons (eTup (lCons (eVar 2) (lCons (eCall [false, false, false] (m_law_with a) (sCons (eVar 3) (sCons (eVar 4) (sCons (eVar 14) aNil)))) aNil))) aNil))))
    (sSeq (sIf (eNot (eBool (eCall [false, false] (m_law_alike a) (sCons (eLst (lCons (eCall [false] (m_law_told a) (sCons (eMeth (a 12) "struck" [false, false] (m_Jobs_struck a) (eVar 10) (sCons (eVar 4) (sCons (eVar 6) aNil))) aNil)) (lCons (eCall [false] (m_law_told a) (sCons (eMeth (a 12) "put" [false, false] (m_Jobs_put a) (eVar 11) (sCons (eVar 4) (sCons (eVar 6) aNil))) aNil)) aNil))) (sCons (eVar 12) aNil))))) (sRet (eC (.bl false))) sNil)
    (sSeq (sSet 15 (eCallB dTuple (aCons (eCall [true, false] (m_law_some a) (kCons (eVar 0) (sCons (eVar 7) aNil))) aNil)))
    (sSeq (sSet 12 (eLst (lCons (eCall [false, false] (m_law_open a) (sCons (eCall [false, false, false] (m_law_with a) (sCons (eVar 3) (sCons (eVar 4) (sCons (eVar 8) aNil)))) (sCons (eVar 15) aNil))) (lCons (eCall [false, false] (m_law_open a) (sCons (eCall [false, false, false] (m_law_with a) (sCons (eVar 3) (sCons (eVar 4) (sCons (eVar 9) aNil)))) (sCons (eVar 15) aNil))) aNil))))
    (sSeq (sIf (eNot (eBool (eCall [false, false] (m_law_alike a) (sCons (eLst (lCons (eMeth (a 12) "open_to" [false] (m_Jobs_open_to a) (eVar 10) (sCons (eVar 15) aNil)) (lCons (eMeth (a 12) "open_to" [false] (m_Jobs_open_to a) (eVar 11) (sCons (eVar 15) aNil)) aNil))) (sCons (eVar 12) aNil))))) (sRet (eC (.bl false))) sNil)
    (sRet (eCall [false, false] (m_law_alike a) (sCons (eLst (lCons (eMeth (a 12) "outside" [false] (m_Jobs_outside a) (eVar 10) (sCons (eVar 4) aNil)) (lCons (eMeth (a 12) "outside" [false] (m_Jobs_outside a) (eVar 11) (sCons (eVar 4) aNil)) aNil))) (sCons (eLst (lCons (eCall [false, false] (m_law_rest a) (sCons (eVar 2) (sCons (eVar 8) aNil))) (lCons (eCall [false, false] (m_law_rest a) (sCons (eVar 2) (sCons (eVar 9) aNil))) aNil))) aNil)))))))))))))))))
noncomputable def m_law_changed_right (a : Nat → Addr) : Fn := noX (fnOf 17 [true, false, false, false, false] (g_law_changed_right a))
/-- Jobs.__eq__: 0 self, 1 other -/
noncomputable def g_Jobs_UeqU (a : Nat → Addr) : S :=
    (sRet (eAndV (eCallB (dIsi (Cs a)) (aCons (eVar 1) (aCons (eC (.raw (.ref (a 12)))) aNil))) (eAndV (eOp2 (dEq false) (eFld (a 12) "size" (eVar 0)) (eFld (a 12) "size" (eVar 1))) (eOp2 (dEq false) (eFld (a 12) "jobs" (eVar 0)) (eFld (a 12) "jobs" (eVar 1))))))
noncomputable def m_Jobs_UeqU (a : Nat → Addr) : Fn := noX (fnOf 2 [false, false] (g_Jobs_UeqU a))
/-- law: 0 _law_script, 1 _law_bag_here, 2 _law_step, 3 _law_size, 4 _law_rows, 5 _law_jobs_here, 6 _law_every, 7 _law_group, 8 _law_again, 9 _law_k, 10 _law_indexes, 11 _law_at, 12 _law_due, 13 _law_found -/
noncomputable def b_law_0 (a : Nat → Addr) : S :=
    (sIf (eNot (eBool (eCall [false, false] (m_law_alike a) (sCons (eMeth (a 12) "open_to" [false] (m_Jobs_open_to a) (eVar 5) (sCons (eVar 7) aNil)) (sCons (eCall [false, false] (m_law_open a) (sCons (eVar 4) (sCons (eVar 7) aNil))) aNil))))) (sRet (eC (.bl false))) sNil)
noncomputable def b_law_1 (a : Nat → Addr) : S :=
    (sFor (iRng1D (aCons (eC (.int 2)) aNil)) (gN 8) (b_law_0 a))
noncomputable def v_law_2 (a : Nat → Addr) : M RV :=
    (eOp2 dIx (eVar 4) (eVar 11))
noncomputable def b_law_3 (a : Nat → Addr) : S :=
    (sIf (eNot (eBool (eCall [false, false] (m_law_alike a) (sCons (eCall [false] (m_law_told a) (sCons (eMeth (a 12) "picked" [false] (m_Jobs_picked a) (eVar 5) (sCons (eVar 10) aNil)) aNil)) (sCons (eVar 12) aNil))))) (sRet (eC (.bl false))) sNil)
noncomputable def b_law_4 (a : Nat → Addr) : S :=
    (sSeq (sSet 10 (eCallB dTuple (aCons (eCall [true, false] (m_law_some a) (kCons (eVar 1) (sCons (eLRg (rg1 (eCallB dLen (aCons (eVar 4) aNil)))) aNil))) aNil)))
    (sSeq (sSet 12 (eTup (lCons (eVar 3) (lCons (eCallB dTuple (aCons (eLc [11] (iSeq (eVar 10)) (gN 11) eYes (v_law_2 a)) aNil)) aNil))))
    (sFor (iRng1D (aCons (eC (.int 2)) aNil)) (gN 8) (b_law_3 a))))
noncomputable def b_law_5 (a : Nat → Addr) : S :=
    (sSeq (sIf (eNot (eBool (eCall [false, false] (m_law_alike a) (sCons (eLst (lCons (eMeth (a 12) "outside" [false] (m_Jobs_outside a) (eVar 5) (sCons (eVar 11) aNil)) (lCons (eMeth (a 12) "outside" [false] (m_Jobs_outside a) (eVar 5) (sCons (eVar 11) aNil)) aNil))) (sCons (eOp2 dMul (eLst (lCons (eCall [false, false] (m_law_rest a) (sCons (eVar 3) (sCons (eOp2 dIx (eVar 4) (eVar 11)) aNil))) aNil)) (eC (.int 2))) aNil))))) (sRet (eC (.bl false))) sNil)
    (sIf (eAnd (eBool (eOp2 (dCmp fun i j => decide (j < i)) (eVar 3) (eC (.int 0)))) (eNot (eBool (eCall [true, false, false, false, false] (m_law_changed_right a) (kCons (eVar 1) (sCons (eVar 5) (sCons (eVar 3) (sCons (eVar 4) (sCons (eVar 11) aNil))))))))) (sRet (eC (.bl false))) sNil))
noncomputable def b_law_6 (a : Nat → Addr) : S :=
    (sIf (eNot (eBool (eCall [false, false] (m_law_alike a) (sCons (eMeth (a 12) "outside" [false] (m_Jobs_outside a) (eVar 5) (sCons (eVar 11) aNil)) (sCons (eCall [false, false] (m_law_rest a) (sCons (eVar 3) (sCons (eOp2 dIx (eVar 4) (eVar 11)) aNil))) aNil))))) (sRet (eC (.bl false))) sNil)
noncomputable def b_law_7 (a : Nat → Addr) : S :=
    (sSeq (sSet 3 (eCall [true, false] (m_law_take a) (kCons (eVar 1) (sCons (eC (.int 8)) aNil))))
    (sSeq (sSet 4 (eCall [true, false, false] (m_law_jobs a) (kCons (eVar 1) (sCons (eVar 3) (sCons (eC (.int 7)) aNil)))))
    (sSeq (sPar2 5 6 (eMake (a 12) [false, false] (m_Jobs_UinitU a) (sCons (eVar 3) (sCons (eCallB dList (aCons (eVar 4) aNil)) aNil))) (eLRg (rg1 (eVar 3))))
    (sSeq (sFor (iSeq (eLst (lCons (eTup aNil) (lCons (eCallB dTuple (aCons (eVar 6) aNil)) (lCons (eCallB dTuple (aCons (eCall [true, false] (m_law_some a) (kCons (eVar 1) (sCons (eVar 6) aNil))) aNil)) (lCons (eCallB dTuple (aCons (eCall [true, false] (m_law_some a) (kCons (eVar 1) (sCons (eVar 6) aNil))) aNil)) aNil)))))) (gN 7) (b_law_1 a))
    (sSeq (sFor (iRng1D (aCons (eC (.int 2)) aNil)) (gN 9) (b_law_4 a))
    (sSeq (sFor (iRng1D (aCons (eCallB dLen (aCons (eVar 4) aNil)) aNil)) (gN 11) (b_law_5 a))
    (sSeq (sFor (iRng1D (aCons (eCallB dLen (aCons (eVar 4) aNil)) aNil)) (gN 11) (b_law_6 a))
    (sSeq (sSet 13 (eLst (lCons (eCall [false] (m_law_told a) (sCons (eVar 5) aNil)) (lCons (eOp2 (dEqI (a 12) (m_Jobs_UeqU a)) (eVar 5) (eMake (a 12) [false, false] (m_Jobs_UinitU a) (sCons (eVar 3) (sCons (eVar 4) aNil)))) (lCons (eMeth (a 12) "open_to" [false] (m_Jobs_open_to a) (eVar 5) (sCons (eCallB dTuple (aCons (eVar 6) aNil)) aNil)) aNil)))))
    (sIf (eNot (eBool (eCall [false, false] (m_law_alike a) (sCons (eVar 13) (sCons (eLst (lCons (eTup (lCons (eVar 3) (lCons (eCallB dTuple (aCons (eVar 4) aNil)) aNil))) (lCons (eC (.bl true)) (lCons (eCall [false, false] (m_law_open a) (sCons (eVar 4) (sCons (eVar 6) aNil))) aNil)))) aNil))))) (sRet (eC (.bl false))) sNil)))))))))
noncomputable def g_law (a : Nat → Addr) : S :=
    (sSeq (sSet 1 (eCall [false] (m_law_bag a) (sCons (eVar 0) aNil)))
    (sSeq (sFor (iRng1D (aCons (eC (.int 6)) aNil)) (gN 2) (b_law_7 a))
    (sRet (eC (.bl true)))))
noncomputable def m_law (a : Nat → Addr) : Fn := noX (fnOf 14 [false] (g_law a))
/-! ### the text by places -/
def top (i : Nat) : Stmt := PySem.Challenge.pw_crewlists_k15_jobs_changed.main.body.getD i (.Pass ⟨0, 0, 0, 0⟩)
abbrev s0 : Stmt := top 40
abbrev s1 : Stmt := top 28
abbrev s2 : Stmt := top 29
abbrev s3 : Stmt := top 34
abbrev s4 : Stmt := top 30
abbrev s5 : Stmt := top 33
abbrev s6 : Stmt := top 32
abbrev s7 : Stmt := inClass (top 26) 0
abbrev s8 : Stmt := top 10
abbrev s9 : Stmt := top 9
abbrev s10 : Stmt := top 11
abbrev s11 : Stmt := top 12
abbrev s13 : Stmt := top 31
abbrev s14 : Stmt := inClass (top 26) 12
abbrev s15 : Stmt := top 21
abbrev s16 : Stmt := top 36
abbrev s17 : Stmt := top 38
abbrev s18 : Stmt := inClass (top 26) 17
abbrev s19 : Stmt := inClass (top 26) 13
abbrev s20 : Stmt := top 17
abbrev s21 : Stmt := top 16
abbrev s22 : Stmt := top 35
abbrev s23 : Stmt := top 39
abbrev s24 : Stmt := inClass (top 26) 15
abbrev s25 : Stmt := inClass (top 26) 14
abbrev s26 : Stmt := top 15
abbrev s27 : Stmt := inClass (top 26) 16
abbrev s28 : Stmt := top 37
abbrev s29 : Stmt := inClass (top 26) 2
structure Txt (K : Fg) (mg : Str → Option Value) (a : Nat → Addr) (fd : Nat → FuncData) : Prop where
  F0 : Fun K "law" "law" s0 (a 0) (fd 0)
  b0 : Binds K (fd 0) ["_law_script"] []
  k0 : PySem.W.keepIn K (.ref (a 0)) = true
  m0 : mg "law" = some (.ref (a 0))
  F1 : Fun K "_law_bag" "_law_bag" s1 (a 1) (fd 1)
  b1 : Binds K (fd 1) ["_law_script"] []
  k1 : PySem.W.keepIn K (.ref (a 1)) = true
  m1 : mg "_law_bag" = some (.ref (a 1))
  F2 : Fun K "_law_take" "_law_take" s2 (a 2) (fd 2)
  b2 : Binds K (fd 2) ["_law_bag_here", "_law_many"] []
  k2 : PySem.W.keepIn K (.ref (a 2)) = true
  m2 : mg "_law_take" = some (.ref (a 2))
  F3 : Fun K "_law_jobs" "_law_jobs" s3 (a 3) (fd 3)
  b3 : Binds K (fd 3) ["_law_bag_here", "_law_size", "_law_most"] []
  k3 : PySem.W.keepIn K (.ref (a 3)) = true
  m3 : mg "_law_jobs" = some (.ref (a 3))
  F4 : Fun K "_law_one" "_law_one" s4 (a 4) (fd 4)
  b4 : Binds K (fd 4) ["_law_bag_here", "_law_things"] []
  k4 : PySem.W.keepIn K (.ref (a 4)) = true
  m4 : mg "_law_one" = some (.ref (a 4))
  F5 : Fun K "_law_job" "_law_job" s5 (a 5) (fd 5)
  b5 : Binds K (fd 5) ["_law_bag_here", "_law_size"] []
  k5 : PySem.W.keepIn K (.ref (a 5)) = true
  m5 : mg "_law_job" = some (.ref (a 5))
  F6 : Fun K "_law_some" "_law_some" s6 (a 6) (fd 6)
  b6 : Binds K (fd 6) ["_law_bag_here", "_law_things"] []
  k6 : PySem.W.keepIn K (.ref (a 6)) = true
  m6 : mg "_law_some" = some (.ref (a 6))
  F7 : Fun K "__init__" "Jobs.__init__" s7 (a 7) (fd 7)
  b7 : Binds K (fd 7) ["self", "size", "jobs"] []
  k7 : PySem.W.keepIn K (.ref (a 7)) = true
  F8 : Fun K "is_between" "is_between" s8 (a 8) (fd 8)
  b8 : Binds K (fd 8) ["thing", "least", "most"] []
  k8 : PySem.W.keepIn K (.ref (a 8)) = true
  m8 : mg "is_between" = some (.ref (a 8))
  F9 : Fun K "is_integer" "is_integer" s9 (a 9) (fd 9)
  b9 : Binds K (fd 9) ["thing"] []
  k9 : PySem.W.keepIn K (.ref (a 9)) = true
  m9 : mg "is_integer" = some (.ref (a 9))
  F10 : Fun K "is_listed" "is_listed" s10 (a 10) (fd 10)
  b10 : Binds K (fd 10) ["thing", "most"] []
  k10 : PySem.W.keepIn K (.ref (a 10)) = true
  m10 : mg "is_listed" = some (.ref (a 10))
  F11 : Fun K "is_group" "is_group" s11 (a 11) (fd 11)
  b11 : Binds K (fd 11) ["size", "thing"] []
  k11 : PySem.W.keepIn K (.ref (a 11)) = true
  m11 : mg "is_group" = some (.ref (a 11))
  F13 : Fun K "_law_alike" "_law_alike" s13 (a 13) (fd 13)
  b13 : Binds K (fd 13) ["_law_found", "_law_due"] []
  k13 : PySem.W.keepIn K (.ref (a 13)) = true
  m13 : mg "_law_alike" = some (.ref (a 13))
  F14 : Fun K "open_to" "Jobs.open_to" s14 (a 14) (fd 14)
  b14 : Binds K (fd 14) ["self", "group"] []
  k14 : PySem.W.keepIn K (.ref (a 14)) = true
  t14 : Meth K (a 12) "open_to" (a 14)
  F15 : Fun K "open_indexes" "open_indexes" s15 (a 15) (fd 15)
  b15 : Binds K (fd 15) ["jobs", "group"] []
  k15 : PySem.W.keepIn K (.ref (a 15)) = true
  m15 : mg "open_indexes" = some (.ref (a 15))
  F16 : Fun K "_law_open" "_law_open" s16 (a 16) (fd 16)
  b16 : Binds K (fd 16) ["_law_rows", "_law_group"] []
  k16 : PySem.W.keepIn K (.ref (a 16)) = true
  m16 : mg "_law_open" = some (.ref (a 16))
  F17 : Fun K "_law_told" "_law_told" s17 (a 17) (fd 17)
  b17 : Binds K (fd 17) ["_law_jobs_here"] []
  k17 : PySem.W.keepIn K (.ref (a 17)) = true
  m17 : mg "_law_told" = some (.ref (a 17))
  F18 : Fun K "picked" "Jobs.picked" s18 (a 18) (fd 18)
  b18 : Binds K (fd 18) ["self", "indexes"] []
  k18 : PySem.W.keepIn K (.ref (a 18)) = true
  t18 : Meth K (a 12) "picked" (a 18)
  F19 : Fun K "outside" "Jobs.outside" s19 (a 19) (fd 19)
  b19 : Binds K (fd 19) ["self", "at"] []
  k19 : PySem.W.keepIn K (.ref (a 19)) = true
  t19 : Meth K (a 12) "outside" (a 19)
  F20 : Fun K "rest" "rest" s20 (a 20) (fd 20)
  b20 : Binds K (fd 20) ["size", "group"] []
  k20 : PySem.W.keepIn K (.ref (a 20)) = true
  m20 : mg "rest" = some (.ref (a 20))
  F21 : Fun K "apart" "apart" s21 (a 21) (fd 21)
  b21 : Binds K (fd 21) ["one", "other"] []
  k21 : PySem.W.keepIn K (.ref (a 21)) = true
  m21 : mg "apart" = some (.ref (a 21))
  F22 : Fun K "_law_rest" "_law_rest" s22 (a 22) (fd 22)
  b22 : Binds K (fd 22) ["_law_size", "_law_group"] []
  k22 : PySem.W.keepIn K (.ref (a 22)) = true
  m22 : mg "_law_rest" = some (.ref (a 22))
  F23 : Fun K "_law_changed_right" "_law_changed_right" s23 (a 23) (fd 23)
  b23 : Binds K (fd 23) ["_law_bag_here", "_law_jobs_here", "_law_size", "_law_rows", "_law_at"] []
  k23 : PySem.W.keepIn K (.ref (a 23)) = true
  m23 : mg "_law_changed_right" = some (.ref (a 23))
  F24 : Fun K "put" "Jobs.put" s24 (a 24) (fd 24)
  b24 : Binds K (fd 24) ["self", "at", "person"] []
  k24 : PySem.W.keepIn K (.ref (a 24)) = true
  t24 : Meth K (a 12) "put" (a 24)
  F25 : Fun K "changed" "Jobs.changed" s25 (a 25) (fd 25)
  b25 : Binds K (fd 25) ["self", "at", "job"] []
  k25 : PySem.W.keepIn K (.ref (a 25)) = true
  t25 : Meth K (a 12) "changed" (a 25)
  F26 : Fun K "together" "together" s26 (a 26) (fd 26)
  b26 : Binds K (fd 26) ["one", "other"] []
  k26 : PySem.W.keepIn K (.ref (a 26)) = true
  m26 : mg "together" = some (.ref (a 26))
  F27 : Fun K "struck" "Jobs.struck" s27 (a 27) (fd 27)
  b27 : Binds K (fd 27) ["self", "at", "person"] []
  k27 : PySem.W.keepIn K (.ref (a 27)) = true
  t27 : Meth K (a 12) "struck" (a 27)
  F28 : Fun K "_law_with" "_law_with" s28 (a 28) (fd 28)
  b28 : Binds K (fd 28) ["_law_rows", "_law_at", "_law_job_here"] []
  k28 : PySem.W.keepIn K (.ref (a 28)) = true
  m28 : mg "_law_with" = some (.ref (a 28))
  F29 : Fun K "__eq__" "Jobs.__eq__" s29 (a 29) (fd 29)
  b29 : Binds K (fd 29) ["self", "other"] []
  k29 : PySem.W.keepIn K (.ref (a 29)) = true
  t29 : Meth K (a 12) "__eq__" (a 29)
  cl12 : Cls K (a 12)
  mgC12 : mg "Jobs" = some (.ref (a 12))
  mk12 : Mk K (a 12) (a 7)
  ei12 : EqI K (a 12) (a 29)
  n12_jobs : NoAttr K (a 12) "jobs"
  n12_size : NoAttr K (a 12) "size"
  ik : IsiK K (Cs a)
  z_abs : mg "abs" = none
  z_all : mg "all" = none
  z_any : mg "any" = none
  z_bool : mg "bool" = none
  z_enumerate : mg "enumerate" = none
  z_int : mg "int" = none
  z_isinstance : mg "isinstance" = none
  z_len : mg "len" = none
  z_list : mg "list" = none
  z_range : mg "range" = none
  z_repr : mg "repr" = none
  z_set : mg "set" = none
  z_sorted : mg "sorted" = none
  z_tuple : mg "tuple" = none
  gi_MOST_JOBS : ∃ u, mg "MOST_JOBS" = some u ∧ RelV (.int 7) u
  gi_MOST_SIZE : ∃ u, mg "MOST_SIZE" = some u ∧ RelV (.int 7) u
section
variable {P : Program} {w : World} {K : Fg} {mg : Str → Option Value} {base : Heap} {a : Nat → Addr} {fd : Nat → FuncData}
theorem sc_law_bag : FnScope ["_law_script", "_law_cell"] ["_law_script"] (defScope s1) := ⟨rfl, rfl, rfl, by decide +kernel, rfl, by decide +kernel, by decide +kernel⟩
theorem bk_law_bag_0 : BlkOk ["_law_script", "_law_cell"] { kind := .function, names := [("_law_script", .local)], isGenerator := false, isCoroutine := false, more := [("fast", .str "_law_script"), ("fast", .str "_law_cell")] : Scope } { kind := .function, names := [(".0", .local), ("_law_cell", .local), ("abs", .globalImplicit)], isGenerator := false, isCoroutine := false, more := [] : Scope } [("_law_cell", 1)] := ⟨rfl, by decide +kernel, by decide +kernel, by decide +kernel, by decide +kernel⟩
theorem ok_law_bag (T : Txt K mg a fd) : FnG P w K mg base CX0 1 (a 1) (fd 1) ["_law_script"] (spD K [false] (m_law_bag a)) :=
  fn_ok T.F1 sc_law_bag [false] rfl fun cdv A outer s H E hr hgd => (show PDB _ Wno (defBody s1) (g_law_bag a) from
    (pds_one (pds_ret (pd_lst (pdl_cons pd_int (pdl_cons pd_int (pdl_cons pd_int (pdl_cons (pd_lcV rfl sc_law_bag.nd (pdi_seq (pd_slice (pd_var (i := 0) rfl (.inl rfl)) pdo_none (pdo_some pd_int))) bk_law_bag_0 rfl (fun _ _ _ _ _ => (pdg_name (i := 1) sc_law_bag.nd rfl (.inl rfl) (.inr rfl))) (fun _ _ _ _ _ => pdts_nil) (fun _ _ _ _ _ => (pd_callB cd_abs rfl T.z_abs PyProof.Rows.boot_abs (pda_cons (pd_var (i := 1) rfl (.inl rfl)) pda_nil))) (by decide)) pdl_nil))))))))
theorem sc_law_take : FnScope ["_law_bag_here", "_law_many", "_law_cell", "_law_mix", "_law_value", "_law_first", "_law_second"] ["_law_bag_here", "_law_many"] (defScope s2) := ⟨rfl, rfl, rfl, by decide +kernel, rfl, by decide +kernel, by decide +kernel⟩
theorem ok_law_take (T : Txt K mg a fd) : FnG P w K mg base CX0 1 (a 2) (fd 2) ["_law_bag_here", "_law_many"] (spD K [true, false] (m_law_take a)) :=
  fn_ok T.F2 sc_law_take [true, false] rfl fun cdv A outer s H E hr hgd => (show PDB _ Wno (defBody s2) (g_law_take a) from
    (pds_cons (pds_if (pdt_cmp (od_eq hr.units) (pd_ix id_ix (pd_var (i := 0) rfl (.inl rfl)) pd_int (fun _ _ => rfl)) pd_int (nomark _)) (pds_cons (pds_set (i := 2) sc_law_take.nd rfl (.inl rfl) pd_int)
    (pds_cons (pds_if (pdt_cmp od_lt (pd_ix id_ix (pd_var (i := 0) rfl (.inl rfl)) pd_int (fun _ _ => rfl)) (pd_callB cd_len rfl T.z_len PySem.boot_len (pda_cons (pd_ix id_ix (pd_var (i := 0) rfl (.inl rfl)) pd_int (fun _ _ => rfl)) pda_nil)) (nomark _)) (pds_one (pds_set (i := 2) sc_law_take.nd rfl (.inl rfl) (pd_ix id_ix (pd_ix id_ix (pd_var (i := 0) rfl (.inl rfl)) pd_int (fun _ _ => rfl)) (pd_ix id_ix (pd_var (i := 0) rfl (.inl rfl)) pd_int (fun _ _ => rfl)) (fun _ _ => rfl)))) pds_nil)
    (pds_cons (pds_augIx (i := 0) rfl (.inl rfl) pd_int pd_int)
    (pds_cons (pds_if (pdt_cmp od_ge (pd_var (i := 2) rfl (.inl rfl)) pd_int (nomark _)) (pds_one (pds_setIx (i := 0) rfl (.inl rfl) pd_int (pd_var (i := 2) rfl (.inl rfl)) (hg := pg_sub (pe_var rfl (.inl rfl)) pd_int set_list))) pds_nil)
    (pds_cons (pds_set (i := 3) sc_law_take.nd rfl (.inl rfl) (pd_op od_add (pd_op od_mul (pd_ix id_ix (pd_var (i := 0) rfl (.inl rfl)) pd_int (fun _ _ => rfl)) pd_int) (pd_op od_mod (pd_callTy cd_int rfl T.z_int PyProof.Rows.boot_int (pda_cons (pd_var (i := 2) rfl (.inl rfl)) pda_nil)) pd_int)))
    (pds_one (pds_setIx (i := 0) rfl (.inl rfl) pd_int (pd_op od_mod (pd_callTy cd_int rfl T.z_int PyProof.Rows.boot_int (pda_cons (pd_op od_add (pd_var (i := 3) rfl (.inl rfl)) (pd_op od_mul pd_int (pd_ix id_ix (pd_var (i := 0) rfl (.inl rfl)) pd_int (fun _ _ => rfl)))) pda_nil)) pd_int) (hg := pg_sub (pe_var rfl (.inl rfl)) pd_int set_list)))))))) pds_nil)
    (pds_cons (pds_if (pdt_cmp od_gt (pd_ix id_ix (pd_var (i := 0) rfl (.inl rfl)) pd_int (fun _ _ => rfl)) pd_int (nomark _)) (pds_cons (pds_set (i := 4) sc_law_take.nd rfl (.inl rfl) (pd_op od_mod (pd_callTy cd_int rfl T.z_int PyProof.Rows.boot_int (pda_cons (pd_ix id_ix (pd_var (i := 0) rfl (.inl rfl)) pd_int (fun _ _ => rfl)) pda_nil)) (pd_var (i := 1) rfl (.inl rfl))))
    (pds_cons (pds_setIx (i := 0) rfl (.inl rfl) pd_int (pd_op od_div (pd_ix id_ix (pd_var (i := 0) rfl (.inl rfl)) pd_int (fun _ _ => rfl)) (pd_var (i := 1) rfl (.inl rfl))) (hg := pg_sub (pe_var rfl (.inl rfl)) pd_int set_list))
    (pds_one (pds_ret (pd_var (i := 4) rfl (.inl rfl)))))) pds_nil)
    (pds_cons (pds_set (i := 5) sc_law_take.nd rfl (.inl rfl) (pd_op od_mod (pd_callTy cd_int rfl T.z_int PyProof.Rows.boot_int (pda_cons (pd_op od_mul (pd_op od_add (pd_ix id_ix (pd_var (i := 0) rfl (.inl rfl)) pd_int (fun _ _ => rfl)) pd_int) pd_int) pda_nil)) pd_int))
    (pds_cons (pds_set (i := 6) sc_law_take.nd rfl (.inl rfl) (pd_op od_mod (pd_callTy cd_int rfl T.z_int PyProof.Rows.boot_int (pda_cons (pd_op od_mul (pd_var (i := 5) rfl (.inl rfl)) (pd_var (i := 5) rfl (.inl rfl))) pda_nil)) pd_int))
    (pds_one (pds_ret (pd_op od_mod (pd_callTy cd_int rfl T.z_int PyProof.Rows.boot_int (pda_cons (pd_op od_div (pd_op od_mod (pd_callTy cd_int rfl T.z_int PyProof.Rows.boot_int (pda_cons (pd_op od_mul (pd_var (i := 6) rfl (.inl rfl)) pd_int) pda_nil)) pd_int) pd_int) pda_nil)) (pd_var (i := 1) rfl (.inl rfl))))))))))
theorem sc_law_one_tt : FnScope ["_law_bag_here", "_law_things"] ["_law_bag_here", "_law_things"] (defScope s4) := ⟨rfl, rfl, rfl, by decide +kernel, rfl, by decide +kernel, by decide +kernel⟩
theorem ok_law_one_tt (T : Txt K mg a fd) : FnG P w K mg base CX0 2 (a 4) (fd 4) ["_law_bag_here", "_law_things"] (spD K [true, true] (m_law_one_tt a)) :=
  fn_ok T.F4 sc_law_one_tt [true, true] rfl fun cdv A outer s H E hr hgd => (show PDB _ Wno (defBody s4) (g_law_one_tt a) from
    (pds_one (pds_ret (pd_ix id_ix (pd_var (i := 1) rfl (.inl rfl)) (pd_call (ok_law_take T) (hr.mono (by decide)) hgd rfl T.m2 T.k2 T.b2 pass0 (pda_keep (pd_var (i := 0) rfl (.inl rfl)) (pda_esc (pd_callB cd_len rfl T.z_len PySem.boot_len (pda_cons (pd_var (i := 1) rfl (.inl rfl)) pda_nil)) pda_nil))) (fun _ _ => rfl)))))
theorem sc_law_some : FnScope ["_law_bag_here", "_law_things", "_law_one_here"] ["_law_bag_here", "_law_things"] (defScope s6) := ⟨rfl, rfl, rfl, by decide +kernel, rfl, by decide +kernel, by decide +kernel⟩
theorem bk_law_some_0 : BlkOk ["_law_bag_here", "_law_things", "_law_one_here"] { kind := .function, names := [("_law_bag_here", .cell), ("_law_things", .local)], isGenerator := false, isCoroutine := false, more := [("fast", .str "_law_bag_here"), ("fast", .str "_law_things"), ("fast", .str "_law_one_here")] : Scope } { kind := .function, names := [(".0", .local), ("_law_one_here", .local), ("_law_take", .globalImplicit), ("_law_bag_here", .free)], isGenerator := false, isCoroutine := false, more := [] : Scope } [("_law_one_here", 2)] := ⟨rfl, by decide +kernel, by decide +kernel, by decide +kernel, by decide +kernel⟩
theorem ok_law_some (T : Txt K mg a fd) : FnG P w K mg base CX0 2 (a 6) (fd 6) ["_law_bag_here", "_law_things"] (spD K [true, false] (m_law_some a)) :=
  fn_ok T.F6 sc_law_some [true, false] rfl fun cdv A outer s H E hr hgd => (show PDB _ Wno (defBody s6) (g_law_some a) from
    (pds_one (pds_ret (pd_lcV rfl sc_law_some.nd (pdi_seq (pd_var (i := 1) rfl (.inl rfl))) bk_law_some_0 rfl (fun _ _ _ _ _ => (pdg_name (i := 2) sc_law_some.nd rfl (.inl rfl) (.inr rfl))) (fun _ _ _ _ _ => (pdts_one (pdt_cmp (od_eq hr.units) (pd_call (ok_law_take T) (hr.mono (by decide)) hgd rfl T.m2 T.k2 T.b2 pass0 (pda_keep (pd_var (i := 0) rfl (.inr (.inl rfl))) (pda_esc pd_int pda_nil))) pd_int (nomark _)))) (fun _ _ _ _ _ => (pd_var (i := 2) rfl (.inl rfl))) (by decide)))))
theorem sc_law_job : FnScope ["_law_bag_here", "_law_size", "_law_way", "_law_job_here"] ["_law_bag_here", "_law_size"] (defScope s5) := ⟨rfl, rfl, rfl, by decide +kernel, rfl, by decide +kernel, by decide +kernel⟩
theorem ok_law_job (T : Txt K mg a fd) : FnG P w K mg base CX0 3 (a 5) (fd 5) ["_law_bag_here", "_law_size"] (spD K [true, false] (m_law_job a)) :=
  fn_ok T.F5 sc_law_job [true, false] rfl fun cdv A outer s H E hr hgd => (show PDB _ Wno (defBody s5) (g_law_job a) from
    (pds_cons (pds_set (i := 2) sc_law_job.nd rfl (.inl rfl) (pd_call (ok_law_take T) (hr.mono (by decide)) hgd rfl T.m2 T.k2 T.b2 pass0 (pda_keep (pd_var (i := 0) rfl (.inl rfl)) (pda_esc pd_int pda_nil))))
    (pds_cons (pds_if (pdt_cmp (od_eq hr.units) (pd_var (i := 2) rfl (.inl rfl)) pd_int (nomark _)) (pds_one (pds_ret (pd_tupRg rfl rfl T.z_tuple (pdr_1 rfl T.z_range (pd_var (i := 1) rfl (.inl rfl)))))) pds_nil)
    (pds_cons (pds_set (i := 3) sc_law_job.nd rfl (.inl rfl) (pd_call (ok_law_some T) (hr.mono (by decide)) hgd rfl T.m6 T.k6 T.b6 pass0 (pda_keep (pd_var (i := 0) rfl (.inl rfl)) (pda_esc (pd_listRg rfl rfl T.z_list (pdr_1 rfl T.z_range (pd_var (i := 1) rfl (.inl rfl)))) pda_nil))))
    (pds_cons (pds_if (pdt_cmp od_lt (pd_var (i := 2) rfl (.inl rfl)) pd_int (nomark _)) (pds_one (pds_set (i := 3) sc_law_job.nd rfl (.inl rfl) (pd_call (ok_law_some T) (hr.mono (by decide)) hgd rfl T.m6 T.k6 T.b6 pass0 (pda_keep (pd_var (i := 0) rfl (.inl rfl)) (pda_esc (pd_var (i := 3) rfl (.inl rfl)) pda_nil))))) pds_nil)
    (pds_one (pds_ret (pd_callTy cd_tuple rfl T.z_tuple PyProof.Rows.boot_tuple (pda_cons (pd_var (i := 3) rfl (.inl rfl)) pda_nil)))))))))
theorem sc_law_jobs : FnScope ["_law_bag_here", "_law_size", "_law_most", "_law_jobs_here", "_law_k"] ["_law_bag_here", "_law_size", "_law_most"] (defScope s3) := ⟨rfl, rfl, rfl, by decide +kernel, rfl, by decide +kernel, by decide +kernel⟩
theorem ok_law_jobs (T : Txt K mg a fd) : FnG P w K mg base CX0 4 (a 3) (fd 3) ["_law_bag_here", "_law_size", "_law_most"] (spD K [true, false, false] (m_law_jobs a)) :=
  fn_ok T.F3 sc_law_jobs [true, false, false] rfl fun cdv A outer s H E hr hgd => (show PDB _ Wno (defBody s3) (g_law_jobs a) from
    (pds_cons (pds_set (i := 3) sc_law_jobs.nd rfl (.inl rfl) (pd_lst pdl_nil))
    (pds_cons (pds_for PassesOwn.never rfl (pdi_range1 rfl T.z_range (pda_cons (pd_call (ok_law_take T) (hr.mono (by decide)) hgd rfl T.m2 T.k2 T.b2 pass0 (pda_keep (pd_var (i := 0) rfl (.inl rfl)) (pda_esc (pd_op od_add (pd_var (i := 2) rfl (.inl rfl)) pd_int) pda_nil))) pda_nil)) (pdg_name (i := 4) sc_law_jobs.nd rfl (.inl rfl) (.inr rfl)) (pds_one (pds_if (pdt_w (pdw_and (pdt_cmp (od_ne hr.units) (pd_var (i := 3) rfl (.inl rfl)) (pd_lst pdl_nil) (nomark _)) (pdw_and1 (pdt_cmp (od_eq hr.units) (pd_call (ok_law_take T) (hr.mono (by decide)) hgd rfl T.m2 T.k2 T.b2 pass0 (pda_keep (pd_var (i := 0) rfl (.inl rfl)) (pda_esc pd_int pda_nil))) pd_int (nomark _))))) (pds_one (pds_expr (pd_append (i := 3) rfl (.inl rfl) (pdl_cons (pd_call (ok_law_one_tt T) (hr.mono (by decide)) hgd rfl T.m4 T.k4 T.b4 pass0 (pda_keep (pd_var (i := 0) rfl (.inl rfl)) (pda_keep (pd_var (i := 3) rfl (.inl rfl)) pda_nil))) pdl_nil)))) (pds_one (pds_expr (pd_append (i := 3) rfl (.inl rfl) (pdl_cons (pd_call (ok_law_job T) (hr.mono (by decide)) hgd rfl T.m5 T.k5 T.b5 pass0 (pda_keep (pd_var (i := 0) rfl (.inl rfl)) (pda_esc (pd_var (i := 1) rfl (.inl rfl)) pda_nil))) pdl_nil)))))))
    (pds_one (pds_ret (pd_var (i := 3) rfl (.inl rfl)))))))
theorem sc_is_integer : FnScope ["thing"] ["thing"] (defScope s9) := ⟨rfl, rfl, rfl, by decide +kernel, rfl, by decide +kernel, by decide +kernel⟩
theorem ok_is_integer (T : Txt K mg a fd) : FnG P w K mg base CX0 1 (a 9) (fd 9) ["thing"] (spD K [false] (m_is_integer a)) :=
  fn_ok T.F9 sc_is_integer [false] rfl fun cdv A outer s H E hr hgd => (show PDB _ Wno (defBody s9) (g_is_integer a) from
    (pds_one (pds_ret (pd_and (pd_callB (cd_isi T.ik) rfl T.z_isinstance PyProof.Rows.boot_isinstance (pda_cons (pd_var (i := 0) rfl (.inl rfl)) (pda_cons (pd_bltn (v := .ty "int") rfl T.z_int PyProof.Rows.boot_int rfl) pda_nil))) (pd_one (pd_not (pd_callB (cd_isi T.ik) rfl T.z_isinstance PyProof.Rows.boot_isinstance (pda_cons (pd_var (i := 0) rfl (.inl rfl)) (pda_cons (pd_bltn (v := .ty "bool") rfl T.z_bool PyProof.Rows.boot_bool rfl) pda_nil)))))))))
theorem sc_is_between : FnScope ["thing", "least", "most"] ["thing", "least", "most"] (defScope s8) := ⟨rfl, rfl, rfl, by decide +kernel, rfl, by decide +kernel, by decide +kernel⟩
theorem ok_is_between (T : Txt K mg a fd) : FnG P w K mg base CX0 2 (a 8) (fd 8) ["thing", "least", "most"] (spD K [false, false, false] (m_is_between a)) :=
  fn_ok T.F8 sc_is_between [false, false, false] rfl fun cdv A outer s H E hr hgd => (show PDB _ Wno (defBody s8) (g_is_between a) from
    (pds_one (pds_ret (pd_and (pd_call (ok_is_integer T) (hr.mono (by decide)) hgd rfl T.m9 T.k9 T.b9 pass0 (pda_esc (pd_var (i := 0) rfl (.inl rfl)) pda_nil)) (pd_one (pd_chain od_le od_le (pd_var (i := 1) rfl (.inl rfl)) (pd_var (i := 0) rfl (.inl rfl)) (pd_var (i := 2) rfl (.inl rfl))))))))
theorem sc_is_listed : FnScope ["thing", "most"] ["thing", "most"] (defScope s10) := ⟨rfl, rfl, rfl, by decide +kernel, rfl, by decide +kernel, by decide +kernel⟩
theorem ok_is_listed (T : Txt K mg a fd) : FnG P w K mg base CX0 1 (a 10) (fd 10) ["thing", "most"] (spD K [false, false] (m_is_listed a)) :=
  fn_ok T.F10 sc_is_listed [false, false] rfl fun cdv A outer s H E hr hgd => (show PDB _ Wno (defBody s10) (g_is_listed a) from
    (pds_one (pds_ret (pd_and (pd_isi2 T.ik (pd_var (i := 0) rfl (.inl rfl)) rfl T.z_isinstance rfl T.z_list PyProof.Rows.boot_list rfl T.z_tuple PyProof.Rows.boot_tuple) (pd_one (pd_cmp od_le (pd_callB cd_len rfl T.z_len PySem.boot_len (pda_cons (pd_var (i := 0) rfl (.inl rfl)) pda_nil)) (pd_var (i := 1) rfl (.inl rfl)) (nomark _)))))))
theorem sc_is_group : FnScope ["size", "thing", "person", "at"] ["size", "thing"] (defScope s11) := ⟨rfl, rfl, rfl, by decide +kernel, rfl, by decide +kernel, by decide +kernel⟩
theorem bk_is_group_0 : BlkOk ["size", "thing", "person", "at"] { kind := .function, names := [("size", .cell), ("thing", .cell), ("isinstance", .globalImplicit), ("tuple", .globalImplicit), ("all", .globalImplicit), ("range", .globalImplicit), ("len", .globalImplicit)], isGenerator := false, isCoroutine := false, more := [("fast", .str "size"), ("fast", .str "thing"), ("fast", .str "person"), ("fast", .str "at")] : Scope } { kind := .function, names := [(".0", .local), ("person", .local), ("is_between", .globalImplicit), ("size", .free)], isGenerator := false, isCoroutine := false, more := [] : Scope } [("person", 2)] := ⟨rfl, by decide +kernel, by decide +kernel, by decide +kernel, by decide +kernel⟩
theorem bk_is_group_1 : BlkOk ["size", "thing", "person", "at"] { kind := .function, names := [("size", .cell), ("thing", .cell), ("isinstance", .globalImplicit), ("tuple", .globalImplicit), ("all", .globalImplicit), ("range", .globalImplicit), ("len", .globalImplicit)], isGenerator := false, isCoroutine := false, more := [("fast", .str "size"), ("fast", .str "thing"), ("fast", .str "person"), ("fast", .str "at")] : Scope } { kind := .function, names := [(".0", .local), ("at", .local), ("thing", .free)], isGenerator := false, isCoroutine := false, more := [] : Scope } [("at", 3)] := ⟨rfl, by decide +kernel, by decide +kernel, by decide +kernel, by decide +kernel⟩
theorem ok_is_group (T : Txt K mg a fd) : FnG P w K mg base CX0 3 (a 11) (fd 11) ["size", "thing"] (spD K [false, false] (m_is_group a)) :=
  fn_ok T.F11 sc_is_group [false, false] rfl fun cdv A outer s H E hr hgd => (show PDB _ Wno (defBody s11) (g_is_group a) from
    (pds_cons (pds_if (pdt_w (pdw_or (pdt_not (pdt_val (pd_callB (cd_isi T.ik) rfl T.z_isinstance PyProof.Rows.boot_isinstance (pda_cons (pd_var (i := 1) rfl (.inr (.inl rfl))) (pda_cons (pd_bltn (v := .ty "tuple") rfl T.z_tuple PyProof.Rows.boot_tuple rfl) pda_nil))))) (pdw_or1 (pdt_not (pdt_val (pd_callB (cd_all rfl) rfl T.z_all PyProof.Rows.boot_all (pda_cons (pd_lcV rfl sc_is_group.nd (pdi_seq (pd_var (i := 1) rfl (.inr (.inl rfl)))) bk_is_group_0 rfl (fun _ _ _ _ _ => (pdg_name (i := 2) sc_is_group.nd rfl (.inl rfl) (.inr rfl))) (fun _ _ _ _ _ => pdts_nil) (fun _ _ _ _ _ => (pd_call (ok_is_between T) (hr.mono (by decide)) hgd rfl T.m8 T.k8 T.b8 pass0 (pda_esc (pd_var (i := 2) rfl (.inl rfl)) (pda_esc pd_int (pda_esc (pd_op od_sub (pd_var (i := 0) rfl (.inr (.inl rfl))) pd_int) pda_nil))))) (by decide)) pda_nil))))))) (pds_one (pds_ret pd_bl)) pds_nil)
    (pds_one (pds_ret (pd_callB (cd_all rfl) rfl T.z_all PyProof.Rows.boot_all (pda_cons (pd_lcV rfl sc_is_group.nd (pdi_range1 rfl T.z_range (pda_cons (pd_op od_sub (pd_callB cd_len rfl T.z_len PySem.boot_len (pda_cons (pd_var (i := 1) rfl (.inr (.inl rfl))) pda_nil)) pd_int) pda_nil)) bk_is_group_1 rfl (fun _ _ _ _ _ => (pdg_name (i := 3) sc_is_group.nd rfl (.inl rfl) (.inr rfl))) (fun _ _ _ _ _ => pdts_nil) (fun _ _ _ _ _ => (pd_cmp od_lt (pd_ix id_ix (pd_var (i := 1) rfl (.inr (.inl rfl))) (pd_var (i := 3) rfl (.inl rfl)) (fun _ _ => rfl)) (pd_ix id_ix (pd_var (i := 1) rfl (.inr (.inl rfl))) (pd_op od_add (pd_var (i := 3) rfl (.inl rfl)) pd_int) (fun _ _ => rfl)) (nomark _))) (by decide)) pda_nil))))))
theorem sc_Jobs_UinitU : FnScope ["self", "size", "jobs", "at", "job"] ["self", "size", "jobs"] (defScope s7) := ⟨rfl, rfl, rfl, by decide +kernel, rfl, by decide +kernel, by decide +kernel⟩
theorem ok_Jobs_UinitU (T : Txt K mg a fd) : FnG P w K mg base CX0 4 (a 7) (fd 7) ["self", "size", "jobs"] (spD K [true, false, false] (m_Jobs_UinitU a)) :=
  fn_ok T.F7 sc_Jobs_UinitU [true, false, false] rfl fun cdv A outer s H E hr hgd => (show PDB _ Wno (defBody s7) (g_Jobs_UinitU a) from
    (pds_cons (pds_if (pdt_not (pdt_val (pd_call (ok_is_between T) (hr.mono (by decide)) hgd rfl T.m8 T.k8 T.b8 pass0 (pda_esc (pd_var (i := 1) rfl (.inl rfl)) (pda_esc pd_int (pda_esc (pd_globI rfl T.gi_MOST_SIZE.choose_spec.1 T.gi_MOST_SIZE.choose_spec.2) pda_nil)))))) (pds_one pds_never) pds_nil)
    (pds_cons (pds_if (pdt_not (pdt_val (pd_call (ok_is_listed T) (hr.mono (by decide)) hgd rfl T.m10 T.k10 T.b10 pass0 (pda_esc (pd_var (i := 2) rfl (.inl rfl)) (pda_esc (pd_globI rfl T.gi_MOST_JOBS.choose_spec.1 T.gi_MOST_JOBS.choose_spec.2) pda_nil))))) (pds_one pds_never) pds_nil)
    (pds_cons (pds_for PassesOwn.never rfl (pdi_enum rfl T.z_enumerate (pd_var (i := 2) rfl (.inl rfl))) (pdg_tup rfl (pdgs_cons (pdg_name (i := 3) sc_Jobs_UinitU.nd rfl (.inl rfl) (.inr rfl)) (pdgs_cons (pdg_name (i := 4) sc_Jobs_UinitU.nd rfl (.inl rfl) (.inr rfl)) pdgs_nil))) (pds_one (pds_if (pdt_not (pdt_val (pd_call (ok_is_group T) (hr.mono (by decide)) hgd rfl T.m11 T.k11 T.b11 pass0 (pda_esc (pd_var (i := 1) rfl (.inl rfl)) (pda_esc (pd_var (i := 4) rfl (.inl rfl)) pda_nil))))) (pds_one pds_never) pds_nil)))
    (pds_cons (pds_fldS (i := 0) rfl (.inl rfl) T.cl12 T.n12_size (pd_var (i := 1) rfl (.inl rfl)))
    (pds_one (pds_fldS (i := 0) rfl (.inl rfl) T.cl12 T.n12_jobs (pd_callTy cd_tuple rfl T.z_tuple PyProof.Rows.boot_tuple (pda_cons (pd_var (i := 2) rfl (.inl rfl)) pda_nil)))))))))
theorem sc_law_alike : FnScope ["_law_found", "_law_due"] ["_law_found", "_law_due"] (defScope s13) := ⟨rfl, rfl, rfl, by decide +kernel, rfl, by decide +kernel, by decide +kernel⟩
theorem ok_law_alike (T : Txt K mg a fd) : FnG P w K mg base CX0 1 (a 13) (fd 13) ["_law_found", "_law_due"] (spD K [false, false] (m_law_alike a)) :=
  fn_ok T.F13 sc_law_alike [false, false] rfl fun cdv A outer s H E hr hgd => (show PDB _ Wno (defBody s13) (g_law_alike a) from
    (pds_one (pds_ret (pd_and (pd_cmp (od_eq hr.units) (pd_var (i := 0) rfl (.inl rfl)) (pd_var (i := 1) rfl (.inl rfl)) (nomark _)) (pd_one (pd_cmp (od_eq hr.units) (pd_callB (cd_repr hgd (units66 hr)) rfl T.z_repr PyProof.Rows.boot_repr (pda_cons (pd_var (i := 0) rfl (.inl rfl)) pda_nil)) (pd_callB (cd_repr hgd (units66 hr)) rfl T.z_repr PyProof.Rows.boot_repr (pda_cons (pd_var (i := 1) rfl (.inl rfl)) pda_nil)) (nomark _)))))))
theorem sc_open_indexes : FnScope ["jobs", "group", "at", "job", "person"] ["jobs", "group"] (defScope s15) := ⟨rfl, rfl, rfl, by decide +kernel, rfl, by decide +kernel, by decide +kernel⟩
theorem bk_open_indexes_0 : BlkOk ["jobs", "group", "at", "job", "person"] { kind := .function, names := [("jobs", .local), ("group", .cell), ("tuple", .globalImplicit), ("enumerate", .globalImplicit)], isGenerator := false, isCoroutine := false, more := [("fast", .str "jobs"), ("fast", .str "group"), ("fast", .str "at"), ("fast", .str "job"), ("fast", .str "person")] : Scope } { kind := .function, names := [(".0", .local), ("at", .local), ("job", .cell), ("any", .globalImplicit), ("group", .free)], isGenerator := false, isCoroutine := false, more := [] : Scope } [("at", 2), ("job", 3)] := ⟨rfl, by decide +kernel, by decide +kernel, by decide +kernel, by decide +kernel⟩
theorem bk_open_indexes_1 : BlkOk ["jobs", "group", "at", "job", "person"] { kind := .function, names := [(".0", .local), ("at", .local), ("job", .cell), ("any", .globalImplicit), ("group", .cell)], isGenerator := false, isCoroutine := false, more := [] : Scope } { kind := .function, names := [(".0", .local), ("person", .local), ("job", .free)], isGenerator := false, isCoroutine := false, more := [] : Scope } [("person", 4)] := ⟨rfl, by decide +kernel, by decide +kernel, by decide +kernel, by decide +kernel⟩
theorem ok_open_indexes (T : Txt K mg a fd) : FnG P w K mg base CX0 1 (a 15) (fd 15) ["jobs", "group"] (spD K [false, false] (m_open_indexes a)) :=
  fn_ok T.F15 sc_open_indexes [false, false] rfl fun cdv A outer s H E hr hgd => (show PDB _ Wno (defBody s15) (g_open_indexes a) from
    (pds_one (pds_ret (pd_callTy cd_tuple rfl T.z_tuple PyProof.Rows.boot_tuple (pda_cons (pd_lcV rfl sc_open_indexes.nd (pdi_enum rfl T.z_enumerate (pd_var (i := 0) rfl (.inl rfl))) bk_open_indexes_0 rfl (fun _ _ _ _ _ => (pdg_tup rfl (pdgs_cons (pdg_name (i := 2) sc_open_indexes.nd rfl (.inl rfl) (.inr rfl)) (pdgs_cons (pdg_name (i := 3) sc_open_indexes.nd rfl (.inr rfl) (.inl rfl)) pdgs_nil)))) (fun _ _ _ _ _ => (pdts_one (pdt_val (pd_callB (cd_any rfl) rfl T.z_any PyProof.Rows.boot_any (pda_cons (pd_lcV rfl sc_open_indexes.nd (pdi_seq (pd_var (i := 1) rfl (.inr (.inl rfl)))) bk_open_indexes_1 rfl (fun _ _ _ _ _ => (pdg_name (i := 4) sc_open_indexes.nd rfl (.inl rfl) (.inr rfl))) (fun _ _ _ _ _ => pdts_nil) (fun _ _ _ _ _ => (pd_cmp od_in (pd_var (i := 4) rfl (.inl rfl)) (pd_var (i := 3) rfl (.inr (.inl rfl))) (by with_unfolding_all rfl))) (by decide)) pda_nil))))) (fun _ _ _ _ _ => (pd_var (i := 2) rfl (.inl rfl))) (by decide)) pda_nil)))))
theorem sc_Jobs_open_to : FnScope ["self", "group"] ["self", "group"] (defScope s14) := ⟨rfl, rfl, rfl, by decide +kernel, rfl, by decide +kernel, by decide +kernel⟩
theorem ok_Jobs_open_to (T : Txt K mg a fd) : FnG P w K mg base CX0 2 (a 14) (fd 14) ["self", "group"] (spD K [false, false] (m_Jobs_open_to a)) :=
  fn_ok T.F14 sc_Jobs_open_to [false, false] rfl fun cdv A outer s H E hr hgd => (show PDB _ Wno (defBody s14) (g_Jobs_open_to a) from
    (pds_one (pds_ret (pd_call (ok_open_indexes T) (hr.mono (by decide)) hgd rfl T.m15 T.k15 T.b15 pass0 (pda_esc (pd_fld (pd_var (i := 0) rfl (.inl rfl)) T.cl12 T.n12_jobs) (pda_esc (pd_var (i := 1) rfl (.inl rfl)) pda_nil))))))
theorem sc_law_open : FnScope ["_law_rows", "_law_group", "_law_found", "_law_at", "_law_p"] ["_law_rows", "_law_group"] (defScope s16) := ⟨rfl, rfl, rfl, by decide +kernel, rfl, by decide +kernel, by decide +kernel⟩
theorem bk_law_open_0 : BlkOk ["_law_rows", "_law_group", "_law_found", "_law_at", "_law_p"] { kind := .function, names := [("_law_rows", .cell), ("_law_group", .local), ("_law_found", .local), ("_law_at", .cell), ("range", .globalImplicit), ("len", .globalImplicit), ("tuple", .globalImplicit)], isGenerator := false, isCoroutine := false, more := [("fast", .str "_law_rows"), ("fast", .str "_law_group"), ("fast", .str "_law_found"), ("fast", .str "_law_at"), ("fast", .str "_law_p")] : Scope } { kind := .function, names := [(".0", .local), ("_law_p", .local), ("_law_at", .free), ("_law_rows", .free)], isGenerator := false, isCoroutine := false, more := [] : Scope } [("_law_p", 4)] := ⟨rfl, by decide +kernel, by decide +kernel, by decide +kernel, by decide +kernel⟩
theorem ok_law_open (T : Txt K mg a fd) : FnG P w K mg base CX0 1 (a 16) (fd 16) ["_law_rows", "_law_group"] (spD K [false, false] (m_law_open a)) :=
  fn_ok T.F16 sc_law_open [false, false] rfl fun cdv A outer s H E hr hgd => (show PDB _ Wno (defBody s16) (g_law_open a) from
    (pds_cons (pds_set (i := 2) sc_law_open.nd rfl (.inl rfl) (pd_lst pdl_nil))
    (pds_cons (pds_for PassesOwn.never rfl (pdi_range1 rfl T.z_range (pda_cons (pd_callB cd_len rfl T.z_len PySem.boot_len (pda_cons (pd_var (i := 0) rfl (.inr (.inl rfl))) pda_nil)) pda_nil)) (pdg_name (i := 3) sc_law_open.nd rfl (.inr rfl) (.inl rfl)) (pds_one (pds_if (pdt_cmp (od_ne hr.units) (pd_lcV rfl sc_law_open.nd (pdi_seq (pd_var (i := 1) rfl (.inl rfl))) bk_law_open_0 rfl (fun _ _ _ _ _ => (pdg_name (i := 4) sc_law_open.nd rfl (.inl rfl) (.inr rfl))) (fun _ _ _ _ _ => (pdts_one (pdt_cmp od_in (pd_var (i := 4) rfl (.inl rfl)) (pd_ix id_ix (pd_var (i := 0) rfl (.inr (.inl rfl))) (pd_var (i := 3) rfl (.inr (.inl rfl))) (fun _ _ => rfl)) (by with_unfolding_all rfl)))) (fun _ _ _ _ _ => (pd_var (i := 4) rfl (.inl rfl))) (by decide)) (pd_lst pdl_nil) (nomark _)) (pds_one (pds_expr (pd_append (i := 2) rfl (.inl rfl) (pdl_cons (pd_var (i := 3) rfl (.inr (.inl rfl))) pdl_nil)))) pds_nil)))
    (pds_one (pds_ret (pd_callTy cd_tuple rfl T.z_tuple PyProof.Rows.boot_tuple (pda_cons (pd_var (i := 2) rfl (.inl rfl)) pda_nil)))))))
theorem sc_law_told : FnScope ["_law_jobs_here"] ["_law_jobs_here"] (defScope s17) := ⟨rfl, rfl, rfl, by decide +kernel, rfl, by decide +kernel, by decide +kernel⟩
theorem ok_law_told (T : Txt K mg a fd) : FnG P w K mg base CX0 1 (a 17) (fd 17) ["_law_jobs_here"] (spD K [false] (m_law_told a)) :=
  fn_ok T.F17 sc_law_told [false] rfl fun cdv A outer s H E hr hgd => (show PDB _ Wno (defBody s17) (g_law_told a) from
    (pds_one (pds_ret (pd_tup (pdl_cons (pd_fld (pd_var (i := 0) rfl (.inl rfl)) T.cl12 T.n12_size) (pdl_cons (pd_fld (pd_var (i := 0) rfl (.inl rfl)) T.cl12 T.n12_jobs) pdl_nil))))))
theorem sc_Jobs_picked : FnScope ["self", "indexes", "at"] ["self", "indexes"] (defScope s18) := ⟨rfl, rfl, rfl, by decide +kernel, rfl, by decide +kernel, by decide +kernel⟩
theorem bk_Jobs_picked_0 : BlkOk ["self", "indexes", "at"] { kind := .function, names := [("self", .cell), ("indexes", .local), ("Jobs", .globalImplicit)], isGenerator := false, isCoroutine := false, more := [("fast", .str "self"), ("fast", .str "indexes"), ("fast", .str "at")] : Scope } { kind := .function, names := [(".0", .local), ("at", .local), ("self", .free)], isGenerator := false, isCoroutine := false, more := [] : Scope } [("at", 2)] := ⟨rfl, by decide +kernel, by decide +kernel, by decide +kernel, by decide +kernel⟩
theorem ok_Jobs_picked (T : Txt K mg a fd) : FnG P w K mg base CX0 6 (a 18) (fd 18) ["self", "indexes"] (spD K [false, false] (m_Jobs_picked a)) :=
  fn_ok T.F18 sc_Jobs_picked [false, false] rfl fun cdv A outer s H E hr hgd => (show PDB _ Wno (defBody s18) (g_Jobs_picked a) from
    (pds_one (pds_ret (pd_make T.mk12 (ok_Jobs_UinitU T) (hr.mono (by decide)) hgd rfl T.mgC12 T.b7 pass0 (pda_esc (pd_fld (pd_var (i := 0) rfl (.inr (.inl rfl))) T.cl12 T.n12_size) (pda_esc (pd_lcV rfl sc_Jobs_picked.nd (pdi_seq (pd_var (i := 1) rfl (.inl rfl))) bk_Jobs_picked_0 rfl (fun _ _ _ _ _ => (pdg_name (i := 2) sc_Jobs_picked.nd rfl (.inl rfl) (.inr rfl))) (fun _ _ _ _ _ => pdts_nil) (fun _ _ _ _ _ => (pd_ix id_ix (pd_fld (pd_var (i := 0) rfl (.inr (.inl rfl))) T.cl12 T.n12_jobs) (pd_var (i := 2) rfl (.inl rfl)) (fun _ _ => rfl))) (by decide)) pda_nil))))))
theorem sc_apart : FnScope ["one", "other", "person"] ["one", "other"] (defScope s21) := ⟨rfl, rfl, rfl, by decide +kernel, rfl, by decide +kernel, by decide +kernel⟩
theorem bk_apart_0 : BlkOk ["one", "other", "person"] { kind := .function, names := [("one", .local), ("other", .cell), ("tuple", .globalImplicit)], isGenerator := false, isCoroutine := false, more := [("fast", .str "one"), ("fast", .str "other"), ("fast", .str "person")] : Scope } { kind := .function, names := [(".0", .local), ("person", .local), ("other", .free)], isGenerator := false, isCoroutine := false, more := [] : Scope } [("person", 2)] := ⟨rfl, by decide +kernel, by decide +kernel, by decide +kernel, by decide +kernel⟩
theorem ok_apart (T : Txt K mg a fd) : FnG P w K mg base CX0 1 (a 21) (fd 21) ["one", "other"] (spD K [false, false] (m_apart a)) :=
  fn_ok T.F21 sc_apart [false, false] rfl fun cdv A outer s H E hr hgd => (show PDB _ Wno (defBody s21) (g_apart a) from
    (pds_one (pds_ret (pd_callTy cd_tuple rfl T.z_tuple PyProof.Rows.boot_tuple (pda_cons (pd_lcV rfl sc_apart.nd (pdi_seq (pd_var (i := 0) rfl (.inl rfl))) bk_apart_0 rfl (fun _ _ _ _ _ => (pdg_name (i := 2) sc_apart.nd rfl (.inl rfl) (.inr rfl))) (fun _ _ _ _ _ => (pdts_one (pdt_cmp od_notin (pd_var (i := 2) rfl (.inl rfl)) (pd_var (i := 1) rfl (.inr (.inl rfl))) (by with_unfolding_all rfl)))) (fun _ _ _ _ _ => (pd_var (i := 2) rfl (.inl rfl))) (by decide)) pda_nil)))))
theorem sc_rest : FnScope ["size", "group"] ["size", "group"] (defScope s20) := ⟨rfl, rfl, rfl, by decide +kernel, rfl, by decide +kernel, by decide +kernel⟩
theorem ok_rest (T : Txt K mg a fd) : FnG P w K mg base CX0 2 (a 20) (fd 20) ["size", "group"] (spD K [false, false] (m_rest a)) :=
  fn_ok T.F20 sc_rest [false, false] rfl fun cdv A outer s H E hr hgd => (show PDB _ Wno (defBody s20) (g_rest a) from
    (pds_one (pds_ret (pd_call (ok_apart T) (hr.mono (by decide)) hgd rfl T.m21 T.k21 T.b21 pass0 (pda_esc (pd_tupRg rfl rfl T.z_tuple (pdr_1 rfl T.z_range (pd_var (i := 0) rfl (.inl rfl)))) (pda_esc (pd_var (i := 1) rfl (.inl rfl)) pda_nil))))))
theorem sc_Jobs_outside : FnScope ["self", "at"] ["self", "at"] (defScope s19) := ⟨rfl, rfl, rfl, by decide +kernel, rfl, by decide +kernel, by decide +kernel⟩
theorem ok_Jobs_outside (T : Txt K mg a fd) : FnG P w K mg base CX0 3 (a 19) (fd 19) ["self", "at"] (spD K [false, false] (m_Jobs_outside a)) :=
  fn_ok T.F19 sc_Jobs_outside [false, false] rfl fun cdv A outer s H E hr hgd => (show PDB _ Wno (defBody s19) (g_Jobs_outside a) from
    (pds_one (pds_ret (pd_call (ok_rest T) (hr.mono (by decide)) hgd rfl T.m20 T.k20 T.b20 pass0 (pda_esc (pd_fld (pd_var (i := 0) rfl (.inl rfl)) T.cl12 T.n12_size) (pda_esc (pd_ix id_ix (pd_fld (pd_var (i := 0) rfl (.inl rfl)) T.cl12 T.n12_jobs) (pd_var (i := 1) rfl (.inl rfl)) (fun _ _ => rfl)) pda_nil))))))
theorem sc_law_rest : FnScope ["_law_size", "_law_group", "_law_p"] ["_law_size", "_law_group"] (defScope s22) := ⟨rfl, rfl, rfl, by decide +kernel, rfl, by decide +kernel, by decide +kernel⟩
theorem bk_law_rest_0 : BlkOk ["_law_size", "_law_group", "_law_p"] { kind := .function, names := [("_law_size", .local), ("_law_group", .cell), ("tuple", .globalImplicit), ("range", .globalImplicit)], isGenerator := false, isCoroutine := false, more := [("fast", .str "_law_size"), ("fast", .str "_law_group"), ("fast", .str "_law_p")] : Scope } { kind := .function, names := [(".0", .local), ("_law_p", .local), ("_law_group", .free)], isGenerator := false, isCoroutine := false, more := [] : Scope } [("_law_p", 2)] := ⟨rfl, by decide +kernel, by decide +kernel, by decide +kernel, by decide +kernel⟩
theorem ok_law_rest (T : Txt K mg a fd) : FnG P w K mg base CX0 1 (a 22) (fd 22) ["_law_size", "_law_group"] (spD K [false, false] (m_law_rest a)) :=
  fn_ok T.F22 sc_law_rest [false, false] rfl fun cdv A outer s H E hr hgd => (show PDB _ Wno (defBody s22) (g_law_rest a) from
    (pds_one (pds_ret (pd_callTy cd_tuple rfl T.z_tuple PyProof.Rows.boot_tuple (pda_cons (pd_lcV rfl sc_law_rest.nd (pdi_range1 rfl T.z_range (pda_cons (pd_var (i := 0) rfl (.inl rfl)) pda_nil)) bk_law_rest_0 rfl (fun _ _ _ _ _ => (pdg_name (i := 2) sc_law_rest.nd rfl (.inl rfl) (.inr rfl))) (fun _ _ _ _ _ => (pdts_one (pdt_cmp od_notin (pd_var (i := 2) rfl (.inl rfl)) (pd_var (i := 1) rfl (.inr (.inl rfl))) (by with_unfolding_all rfl)))) (fun _ _ _ _ _ => (pd_var (i := 2) rfl (.inl rfl))) (by decide)) pda_nil)))))
theorem sc_Jobs_changed : FnScope ["self", "at", "job"] ["self", "at", "job"] (defScope s25) := ⟨rfl, rfl, rfl, by decide +kernel, rfl, by decide +kernel, by decide +kernel⟩
theorem ok_Jobs_changed (T : Txt K mg a fd) : FnG P w K mg base CX0 6 (a 25) (fd 25) ["self", "at", "job"] (spD K [false, false, false] (m_Jobs_changed a)) :=
  fn_ok T.F25 sc_Jobs_changed [false, false, false] rfl fun cdv A outer s H E hr hgd => (show PDB _ Wno (defBody s25) (g_Jobs_changed a) from
    (pds_one (pds_ret (pd_make T.mk12 (ok_Jobs_UinitU T) (hr.mono (by decide)) hgd rfl T.mgC12 T.b7 pass0 (pda_esc (pd_fld (pd_var (i := 0) rfl (.inl rfl)) T.cl12 T.n12_size) (pda_esc (pd_op od_add (pd_op od_add (pd_callTy cd_list rfl T.z_list PyProof.Rows.boot_list (pda_cons (pd_slice (pd_fld (pd_var (i := 0) rfl (.inl rfl)) T.cl12 T.n12_jobs) pdo_none (pdo_some (pd_var (i := 1) rfl (.inl rfl)))) pda_nil)) (pd_lst (pdl_cons (pd_var (i := 2) rfl (.inl rfl)) pdl_nil))) (pd_callTy cd_list rfl T.z_list PyProof.Rows.boot_list (pda_cons (pd_slice (pd_fld (pd_var (i := 0) rfl (.inl rfl)) T.cl12 T.n12_jobs) (pdo_some (pd_op od_add (pd_var (i := 1) rfl (.inl rfl)) pd_int)) pdo_none) pda_nil))) pda_nil))))))
theorem sc_together : FnScope ["one", "other"] ["one", "other"] (defScope s26) := ⟨rfl, rfl, rfl, by decide +kernel, rfl, by decide +kernel, by decide +kernel⟩
theorem ok_together (T : Txt K mg a fd) : FnG P w K mg base CX0 1 (a 26) (fd 26) ["one", "other"] (spD K [false, false] (m_together a)) :=
  fn_ok T.F26 sc_together [false, false] rfl fun cdv A outer s H E hr hgd => (show PDB _ Wno (defBody s26) (g_together a) from
    (pds_one (pds_ret (pd_callTy cd_tuple rfl T.z_tuple PyProof.Rows.boot_tuple (pda_cons (pd_sortSet rfl rfl T.z_sorted rfl T.z_set (pd_op od_add (pd_var (i := 0) rfl (.inl rfl)) (pd_var (i := 1) rfl (.inl rfl)))) pda_nil)))))
theorem sc_Jobs_put : FnScope ["self", "at", "person"] ["self", "at", "person"] (defScope s24) := ⟨rfl, rfl, rfl, by decide +kernel, rfl, by decide +kernel, by decide +kernel⟩
theorem ok_Jobs_put (T : Txt K mg a fd) : FnG P w K mg base CX0 7 (a 24) (fd 24) ["self", "at", "person"] (spD K [false, false, false] (m_Jobs_put a)) :=
  fn_ok T.F24 sc_Jobs_put [false, false, false] rfl fun cdv A outer s H E hr hgd => (show PDB _ Wno (defBody s24) (g_Jobs_put a) from
    (pds_one (pds_ret (pd_meth (pd_var (i := 0) rfl (.inl rfl)) T.cl12 T.t25 (ok_Jobs_changed T) (hr.mono (by decide)) hgd T.b25 pass0 (pda_esc (pd_var (i := 1) rfl (.inl rfl)) (pda_esc (pd_call (ok_together T) (hr.mono (by decide)) hgd rfl T.m26 T.k26 T.b26 pass0 (pda_esc (pd_ix id_ix (pd_fld (pd_var (i := 0) rfl (.inl rfl)) T.cl12 T.n12_jobs) (pd_var (i := 1) rfl (.inl rfl)) (fun _ _ => rfl)) (pda_esc (pd_tup (pdl_cons (pd_var (i := 2) rfl (.inl rfl)) pdl_nil)) pda_nil))) pda_nil))))))
theorem sc_Jobs_struck : FnScope ["self", "at", "person"] ["self", "at", "person"] (defScope s27) := ⟨rfl, rfl, rfl, by decide +kernel, rfl, by decide +kernel, by decide +kernel⟩
theorem ok_Jobs_struck (T : Txt K mg a fd) : FnG P w K mg base CX0 7 (a 27) (fd 27) ["self", "at", "person"] (spD K [false, false, false] (m_Jobs_struck a)) :=
  fn_ok T.F27 sc_Jobs_struck [false, false, false] rfl fun cdv A outer s H E hr hgd => (show PDB _ Wno (defBody s27) (g_Jobs_struck a) from
    (pds_one (pds_ret (pd_meth (pd_var (i := 0) rfl (.inl rfl)) T.cl12 T.t25 (ok_Jobs_changed T) (hr.mono (by decide)) hgd T.b25 pass0 (pda_esc (pd_var (i := 1) rfl (.inl rfl)) (pda_esc (pd_call (ok_apart T) (hr.mono (by decide)) hgd rfl T.m21 T.k21 T.b21 pass0 (pda_esc (pd_ix id_ix (pd_fld (pd_var (i := 0) rfl (.inl rfl)) T.cl12 T.n12_jobs) (pd_var (i := 1) rfl (.inl rfl)) (fun _ _ => rfl)) (pda_esc (pd_tup (pdl_cons (pd_var (i := 2) rfl (.inl rfl)) pdl_nil)) pda_nil))) pda_nil))))))
theorem sc_law_with : FnScope ["_law_rows", "_law_at", "_law_job_here"] ["_law_rows", "_law_at", "_law_job_here"] (defScope s28) := ⟨rfl, rfl, rfl, by decide +kernel, rfl, by decide +kernel, by decide +kernel⟩
theorem ok_law_with (T : Txt K mg a fd) : FnG P w K mg base CX0 1 (a 28) (fd 28) ["_law_rows", "_law_at", "_law_job_here"] (spD K [false, false, false] (m_law_with a)) :=
  fn_ok T.F28 sc_law_with [false, false, false] rfl fun cdv A outer s H E hr hgd => (show PDB _ Wno (defBody s28) (g_law_with a) from
    (pds_one (pds_ret (pd_op od_add (pd_op od_add (pd_callTy cd_tuple rfl T.z_tuple PyProof.Rows.boot_tuple (pda_cons (pd_slice (pd_var (i := 0) rfl (.inl rfl)) pdo_none (pdo_some (pd_var (i := 1) rfl (.inl rfl)))) pda_nil)) (pd_tup (pdl_cons (pd_var (i := 2) rfl (.inl rfl)) pdl_nil))) (pd_callTy cd_tuple rfl T.z_tuple PyProof.Rows.boot_tuple (pda_cons (pd_slice (pd_var (i := 0) rfl (.inl rfl)) (pdo_some (pd_op od_add (pd_var (i := 1) rfl (.inl rfl)) pd_int)) pdo_none) pda_nil))))))
theorem sc_law_changed_right : FnScope ["_law_bag_here", "_law_jobs_here", "_law_size", "_law_rows", "_law_at", "_law_person", "_law_other", "_law_every", "_law_more", "_law_less", "_law_put", "_law_struck", "_law_due", "_law_back", "_law_again", "_law_group", "_law_p"] ["_law_bag_here", "_law_jobs_here", "_law_size", "_law_rows", "_law_at"] (defScope s23) := ⟨rfl, rfl, rfl, by decide +kernel, rfl, by decide +kernel, by decide +kernel⟩
theorem bk_law_changed_right_0 : BlkOk ["_law_bag_here", "_law_jobs_here", "_law_size", "_law_rows", "_law_at", "_law_person", "_law_other", "_law_every", "_law_more", "_law_less", "_law_put", "_law_struck", "_law_due", "_law_back", "_law_again", "_law_group", "_law_p"] { kind := .function, names := [("_law_bag_here", .local), ("_law_jobs_here", .local), ("_law_size", .local), ("_law_rows", .cell), ("_law_at", .cell), ("_law_person", .cell), ("_law_other", .cell), ("_law_every", .local), ("_law_more", .local), ("_law_less", .cell), ("_law_put", .local), ("_law_struck", .local), ("_law_due", .local), ("_law_back", .local), ("_law_again", .local), ("_law_group", .local), ("_law_take", .globalImplicit), ("list", .globalImplicit), ("range", .globalImplicit), ("tuple", .globalImplicit), ("_law_with", .globalImplicit), ("_law_alike", .globalImplicit), ("_law_told", .globalImplicit), ("_law_some", .globalImplicit), ("_law_open", .globalImplicit), ("_law_rest", .globalImplicit)], isGenerator := false, isCoroutine := false, more := [("fast", .str "_law_bag_here"), ("fast", .str "_law_jobs_here"), ("fast", .str "_law_size"), ("fast", .str "_law_rows"), ("fast", .str "_law_at"), ("fast", .str "_law_person"), ("fast", .str "_law_other"), ("fast", .str "_law_every"), ("fast", .str "_law_p"), ("fast", .str "_law_more"), ("fast", .str "_law_less"), ("fast", .str "_law_put"), ("fast", .str "_law_struck"), ("fast", .str "_law_due"), ("fast", .str "_law_back"), ("fast", .str "_law_again"), ("fast", .str "_law_group")] : Scope } { kind := .function, names := [(".0", .local), ("_law_p", .local), ("_law_at", .free), ("_law_person", .free), ("_law_rows", .free)], isGenerator := false, isCoroutine := false, more := [] : Scope } [("_law_p", 16)] := ⟨rfl, by decide +kernel, by decide +kernel, by decide +kernel, by decide +kernel⟩
theorem bk_law_changed_right_1 : BlkOk ["_law_bag_here", "_law_jobs_here", "_law_size", "_law_rows", "_law_at", "_law_person", "_law_other", "_law_every", "_law_more", "_law_less", "_law_put", "_law_struck", "_law_due", "_law_back", "_law_again", "_law_group", "_law_p"] { kind := .function, names := [("_law_bag_here", .local), ("_law_jobs_here", .local), ("_law_size", .local), ("_law_rows", .cell), ("_law_at", .cell), ("_law_person", .cell), ("_law_other", .cell), ("_law_every", .local), ("_law_more", .local), ("_law_less", .cell), ("_law_put", .local), ("_law_struck", .local), ("_law_due", .local), ("_law_back", .local), ("_law_again", .local), ("_law_group", .local), ("_law_take", .globalImplicit), ("list", .globalImplicit), ("range", .globalImplicit), ("tuple", .globalImplicit), ("_law_with", .globalImplicit), ("_law_alike", .globalImplicit), ("_law_told", .globalImplicit), ("_law_some", .globalImplicit), ("_law_open", .globalImplicit), ("_law_rest", .globalImplicit)], isGenerator := false, isCoroutine := false, more := [("fast", .str "_law_bag_here"), ("fast", .str "_law_jobs_here"), ("fast", .str "_law_size"), ("fast", .str "_law_rows"), ("fast", .str "_law_at"), ("fast", .str "_law_person"), ("fast", .str "_law_other"), ("fast", .str "_law_every"), ("fast", .str "_law_p"), ("fast", .str "_law_more"), ("fast", .str "_law_less"), ("fast", .str "_law_put"), ("fast", .str "_law_struck"), ("fast", .str "_law_due"), ("fast", .str "_law_back"), ("fast", .str "_law_again"), ("fast", .str "_law_group")] : Scope } { kind := .function, names := [(".0", .local), ("_law_p", .local), ("_law_person", .free)], isGenerator := false, isCoroutine := false, more := [] : Scope } [("_law_p", 16)] := ⟨rfl, by decide +kernel, by decide +kernel, by decide +kernel, by decide +kernel⟩
theorem bk_law_changed_right_2 : BlkOk ["_law_bag_here", "_law_jobs_here", "_law_size", "_law_rows", "_law_at", "_law_person", "_law_other", "_law_every", "_law_more", "_law_less", "_law_put", "_law_struck", "_law_due", "_law_back", "_law_again", "_law_group", "_law_p"] { kind := .function, names := [("_law_bag_here", .local), ("_law_jobs_here", .local), ("_law_size", .local), ("_law_rows", .cell), ("_law_at", .cell), ("_law_person", .cell), ("_law_other", .cell), ("_law_every", .local), ("_law_more", .local), ("_law_less", .cell), ("_law_put", .local), ("_law_struck", .local), ("_law_due", .local), ("_law_back", .local), ("_law_again", .local), ("_law_group", .local), ("_law_take", .globalImplicit), ("list", .globalImplicit), ("range", .globalImplicit), ("tuple", .globalImplicit), ("_law_with", .globalImplicit), ("_law_alike", .globalImplicit), ("_law_told", .globalImplicit), ("_law_some", .globalImplicit), ("_law_open", .globalImplicit), ("_law_rest", .globalImplicit)], isGenerator := false, isCoroutine := false, more := [("fast", .str "_law_bag_here"), ("fast", .str "_law_jobs_here"), ("fast", .str "_law_size"), ("fast", .str "_law_rows"), ("fast", .str "_law_at"), ("fast", .str "_law_person"), ("fast", .str "_law_other"), ("fast", .str "_law_every"), ("fast", .str "_law_p"), ("fast", .str "_law_more"), ("fast", .str "_law_less"), ("fast", .str "_law_put"), ("fast", .str "_law_struck"), ("fast", .str "_law_due"), ("fast", .str "_law_back"), ("fast", .str "_law_again"), ("fast", .str "_law_group")] : Scope } { kind := .function, names := [(".0", .local), ("_law_p", .local), ("_law_other", .free)], isGenerator := false, isCoroutine := false, more := [] : Scope } [("_law_p", 16)] := ⟨rfl, by decide +kernel, by decide +kernel, by decide +kernel, by decide +kernel⟩
theorem bk_law_changed_right_3 : BlkOk ["_law_bag_here", "_law_jobs_here", "_law_size", "_law_rows", "_law_at", "_law_person", "_law_other", "_law_every", "_law_more", "_law_less", "_law_put", "_law_struck", "_law_due", "_law_back", "_law_again", "_law_group", "_law_p"] { kind := .function, names := [("_law_bag_here", .local), ("_law_jobs_here", .local), ("_law_size", .local), ("_law_rows", .cell), ("_law_at", .cell), ("_law_person", .cell), ("_law_other", .cell), ("_law_every", .local), ("_law_more", .local), ("_law_less", .cell), ("_law_put", .local), ("_law_struck", .local), ("_law_due", .local), ("_law_back", .local), ("_law_again", .local), ("_law_group", .local), ("_law_take", .globalImplicit), ("list", .globalImplicit), ("range", .globalImplicit), ("tuple", .globalImplicit), ("_law_with", .globalImplicit), ("_law_alike", .globalImplicit), ("_law_told", .globalImplicit), ("_law_some", .globalImplicit), ("_law_open", .globalImplicit), ("_law_rest", .globalImplicit)], isGenerator := false, isCoroutine := false, more := [("fast", .str "_law_bag_here"), ("fast", .str "_law_jobs_here"), ("fast", .str "_law_size"), ("fast", .str "_law_rows"), ("fast", .str "_law_at"), ("fast", .str "_law_person"), ("fast", .str "_law_other"), ("fast", .str "_law_every"), ("fast", .str "_law_p"), ("fast", .str "_law_more"), ("fast", .str "_law_less"), ("fast", .str "_law_put"), ("fast", .str "_law_struck"), ("fast", .str "_law_due"), ("fast", .str "_law_back"), ("fast", .str "_law_again"), ("fast", .str "_law_group")] : Scope } { kind := .function, names := [(".0", .local), ("_law_p", .local), ("_law_less", .free), ("_law_other", .free)], isGenerator := false, isCoroutine := false, more := [] : Scope } [("_law_p", 16)] := ⟨rfl, by decide +kernel, by decide +kernel, by decide +kernel, by decide +kernel⟩
theorem ok_law_changed_right (T : Txt K mg a fd) : FnG P w K mg base CX0 8 (a 23) (fd 23) ["_law_bag_here", "_law_jobs_here", "_law_size", "_law_rows", "_law_at"] (spD K [true, false, false, false, false] (m_law_changed_right a)) :=
  fn_ok T.F23 sc_law_changed_right [true, false, false, false, false] rfl fun cdv A outer s H E hr hgd => (show PDB _ Wno (defBody s23) (g_law_changed_right a) from
    (pds_cons (pds_asg (pd_tup (pdl_cons (pd_call (ok_law_take T) (hr.mono (by decide)) hgd rfl T.m2 T.k2 T.b2 pass0 (pda_keep (pd_var (i := 0) rfl (.inl rfl)) (pda_esc (pd_var (i := 2) rfl (.inl rfl)) pda_nil))) (pdl_cons (pd_call (ok_law_take T) (hr.mono (by decide)) hgd rfl T.m2 T.k2 T.b2 pass0 (pda_keep (pd_var (i := 0) rfl (.inl rfl)) (pda_esc (pd_var (i := 2) rfl (.inl rfl)) pda_nil))) (pdl_cons (pd_listRg rfl rfl T.z_list (pdr_1 rfl T.z_range (pd_var (i := 2) rfl (.inl rfl)))) pdl_nil)))) (pdg_tup rfl (pdgs_cons (pdg_name (i := 5) sc_law_changed_right.nd rfl (.inr rfl) (.inl rfl)) (pdgs_cons (pdg_name (i := 6) sc_law_changed_right.nd rfl (.inr rfl) (.inl rfl)) (pdgs_cons (pdg_name (i := 7) sc_law_changed_right.nd rfl (.inl rfl) (.inr rfl)) pdgs_nil)))))
    (pds_cons (pds_set (i := 8) sc_law_changed_right.nd rfl (.inl rfl) (pd_callTy cd_tuple rfl T.z_tuple PyProof.Rows.boot_tuple (pda_cons (pd_lcV rfl sc_law_changed_right.nd (pdi_seq (pd_var (i := 7) rfl (.inl rfl))) bk_law_changed_right_0 rfl (fun _ _ _ _ _ => (pdg_name (i := 16) sc_law_changed_right.nd rfl (.inl rfl) (.inr rfl))) (fun _ _ _ _ _ => (pdts_one (pdt_w (pdw_or (pdt_cmp od_in (pd_var (i := 16) rfl (.inl rfl)) (pd_ix id_ix (pd_var (i := 3) rfl (.inr (.inl rfl))) (pd_var (i := 4) rfl (.inr (.inl rfl))) (fun _ _ => rfl)) (by with_unfolding_all rfl)) (pdw_or1 (pdt_cmp (od_eq hr.units) (pd_var (i := 16) rfl (.inl rfl)) (pd_var (i := 5) rfl (.inr (.inl rfl))) (nomark _))))))) (fun _ _ _ _ _ => (pd_var (i := 16) rfl (.inl rfl))) (by decide)) pda_nil)))
    (pds_cons (pds_set (i := 9) sc_law_changed_right.nd rfl (.inr rfl) (pd_callTy cd_tuple rfl T.z_tuple PyProof.Rows.boot_tuple (pda_cons (pd_lcV rfl sc_law_changed_right.nd (pdi_seq (pd_ix id_ix (pd_var (i := 3) rfl (.inr (.inl rfl))) (pd_var (i := 4) rfl (.inr (.inl rfl))) (fun _ _ => rfl))) bk_law_changed_right_1 rfl (fun _ _ _ _ _ => (pdg_name (i := 16) sc_law_changed_right.nd rfl (.inl rfl) (.inr rfl))) (fun _ _ _ _ _ => (pdts_one (pdt_cmp (od_ne hr.units) (pd_var (i := 16) rfl (.inl rfl)) (pd_var (i := 5) rfl (.inr (.inl rfl))) (nomark _)))) (fun _ _ _ _ _ => (pd_var (i := 16) rfl (.inl rfl))) (by decide)) pda_nil)))
    (pds_cons (pds_par2 (i := 10) (j := 11) rfl sc_law_changed_right.nd rfl rfl (by decide) rfl rfl (pd_meth (pd_var (i := 1) rfl (.inl rfl)) T.cl12 T.t24 (ok_Jobs_put T) (hr.mono (by decide)) hgd T.b24 pass0 (pda_esc (pd_var (i := 4) rfl (.inr (.inl rfl))) (pda_esc (pd_var (i := 5) rfl (.inr (.inl rfl))) pda_nil))) (pd_meth (pd_var (i := 1) rfl (.inl rfl)) T.cl12 T.t27 (ok_Jobs_struck T) (hr.mono (by decide)) hgd T.b27 pass0 (pda_esc (pd_var (i := 4) rfl (.inr (.inl rfl))) (pda_esc (pd_var (i := 5) rfl (.inr (.inl rfl))) pda_nil))) rfl)
    (pds_cons (pds_set (i := 12) sc_law_changed_right.nd rfl (.inl rfl) (pd_lst (pdl_cons (pd_tup (pdl_cons (pd_var (i := 2) rfl (.inl rfl)) (pdl_cons (pd_call (ok_law_with T) (hr.mono (by decide)) hgd rfl T.m28 T.k28 T.b28 pass0 (pda_esc (pd_var (i := 3) rfl (.inr (.inl rfl))) (pda_esc (pd_var (i := 4) rfl (.inr (.inl rfl))) (pda_esc (pd_var (i := 8) rfl (.inl rfl)) pda_nil)))) pdl_nil))) (pdl_cons (pd_tup (pdl_cons (pd_var (i := 2) rfl (.inl rfl)) (pdl_cons (pd_call (ok_law_with T) (hr.mono (by decide)) hgd rfl T.m28 T.k28 T.b28 pass0 (pda_esc (pd_var (i := 3) rfl (.inr (.inl rfl))) (pda_esc (pd_var (i := 4) rfl (.inr (.inl rfl))) (pda_esc (pd_var (i := 9) rfl (.inr (.inl rfl))) pda_nil)))) pdl_nil))) pdl_nil))))
    (pds_cons (pds_if (pdt_not (pdt_val (pd_call (ok_law_alike T) (hr.mono (by decide)) hgd rfl T.m13 T.k13 T.b13 pass0 (pda_esc (pd_lst (pdl_cons (pd_call (ok_law_told T) (hr.mono (by decide)) hgd rfl T.m17 T.k17 T.b17 pass0 (pda_esc (pd_var (i := 10) rfl (.inl rfl)) pda_nil)) (pdl_cons (pd_call (ok_law_told T) (hr.mono (by decide)) hgd rfl T.m17 T.k17 T.b17 pass0 (pda_esc (pd_var (i := 11) rfl (.inl rfl)) pda_nil)) pdl_nil))) (pda_esc (pd_var (i := 12) rfl (.inl rfl)) pda_nil))))) (pds_one (pds_ret pd_bl)) pds_nil)
    (pds_cons (pds_set (i := 13) sc_law_changed_right.nd rfl (.inl rfl) (pd_callTy cd_tuple rfl T.z_tuple PyProof.Rows.boot_tuple (pda_cons (pd_lcV rfl sc_law_changed_right.nd (pdi_seq (pd_var (i := 8) rfl (.inl rfl))) bk_law_changed_right_2 rfl (fun _ _ _ _ _ => (pdg_name (i := 16) sc_law_changed_right.nd rfl (.inl rfl) (.inr rfl))) (fun _ _ _ _ _ => (pdts_one (pdt_cmp (od_ne hr.units) (pd_var (i := 16) rfl (.inl rfl)) (pd_var (i := 6) rfl (.inr (.inl rfl))) (nomark _)))) (fun _ _ _ _ _ => (pd_var (i := 16) rfl (.inl rfl))) (by decide)) pda_nil)))
    (pds_cons (pds_set (i := 14) sc_law_changed_right.nd rfl (.inl rfl) (pd_callTy cd_tuple rfl T.z_tuple PyProof.Rows.boot_tuple (pda_cons (pd_lcV rfl sc_law_changed_right.nd (pdi_seq (pd_var (i := 7) rfl (.inl rfl))) bk_law_changed_right_3 rfl (fun _ _ _ _ _ => (pdg_name (i := 16) sc_law_changed_right.nd rfl (.inl rfl) (.inr rfl))) (fun _ _ _ _ _ => (pdts_one (pdt_w (pdw_or (pdt_cmp od_in (pd_var (i := 16) rfl (.inl rfl)) (pd_var (i := 9) rfl (.inr (.inl rfl))) (by with_unfolding_all rfl)) (pdw_or1 (pdt_cmp (od_eq hr.units) (pd_var (i := 16) rfl (.inl rfl)) (pd_var (i := 6) rfl (.inr (.inl rfl))) (nomark _))))))) (fun _ _ _ _ _ => (pd_var (i := 16) rfl (.inl rfl))) (by decide)) pda_nil)))
    (pds_cons (pds_set (i := 12) sc_law_changed_right.nd rfl (.inl rfl) (pd_lst (pdl_cons (pd_tup (pdl_cons (pd_var (i := 2) rfl (.inl rfl)) (pdl_cons (pd_call (ok_law_with T) (hr.mono (by decide)) hgd rfl T.m28 T.k28 T.b28 pass0 (pda_esc (pd_var (i := 3) rfl (.inr (.inl rfl))) (pda_esc (pd_var (i := 4) rfl (.inr (.inl rfl))) (pda_esc (pd_var (i := 13) rfl (.inl rfl)) pda_nil)))) pdl_nil))) (pdl_cons (pd_tup (pdl_cons (pd_var (i := 2) rfl (.inl rfl)) (pdl_cons (pd_call (ok_law_with T) (hr.mono (by decide)) hgd rfl T.m28 T.k28 T.b28 pass0 (pda_esc (pd_var (i := 3) rfl (.inr (.inl rfl))) (pda_esc (pd_var (i := 4) rfl (.inr (.inl rfl))) (pda_esc (pd_var (i := 14) rfl (.inl rfl)) pda_nil)))) pdl_nil))) pdl_nil))))
    (pds_cons (pds_if (pdt_not (pdt_val (pd_call (ok_law_alike T) (hr.mono (by decide)) hgd rfl T.m13 T.k13 T.b13 pass0 (pda_esc (pd_lst (pdl_cons (pd_call (ok_law_told T) (hr.mono (by decide)) hgd rfl T.m17 T.k17 T.b17 pass0 (pda_esc (pd_meth (pd_var (i := 10) rfl (.inl rfl)) T.cl12 T.t27 (ok_Jobs_struck T) (hr.mono (by decide)) hgd T.b27 pass0 (pda_esc (pd_var (i := 4) rfl (.inr (.inl rfl))) (pda_esc (pd_var (i := 6) rfl (.inr (.inl rfl))) pda_nil))) pda_nil)) (pdl_cons (pd_call (ok_law_told T) (hr.mono (by decide)) hgd rfl T.m17 T.k17 T.b17 pass0 (pda_esc (pd_meth (pd_var (i := 11) rfl (.inl rfl)) T.cl12 T.t24 (ok_Jobs_put T) (hr.mono (by decide)) hgd T.b24 pass0 (pda_esc (pd_var (i := 4) rfl (.inr (.inl rfl))) (pda_esc (pd_var (i := 6) rfl (.inr (.inl rfl))) pda_nil))) pda_nil)) pdl_nil))) (pda_esc (pd_var (i := 12) rfl (.inl rfl)) pda_nil))))) (pds_one (pds_ret pd_bl)) pds_nil)
    (pds_cons (pds_set (i := 15) sc_law_changed_right.nd rfl (.inl rfl) (pd_callTy cd_tuple rfl T.z_tuple PyProof.Rows.boot_tuple (pda_cons (pd_call (ok_law_some T) (hr.mono (by decide)) hgd rfl T.m6 T.k6 T.b6 pass0 (pda_keep (pd_var (i := 0) rfl (.inl rfl)) (pda_esc (pd_var (i := 7) rfl (.inl rfl)) pda_nil))) pda_nil)))
    (pds_cons (pds_set (i := 12) sc_law_changed_right.nd rfl (.inl rfl) (pd_lst (pdl_cons (pd_call (ok_law_open T) (hr.mono (by decide)) hgd rfl T.m16 T.k16 T.b16 pass0 (pda_esc (pd_call (ok_law_with T) (hr.mono (by decide)) hgd rfl T.m28 T.k28 T.b28 pass0 (pda_esc (pd_var (i := 3) rfl (.inr (.inl rfl))) (pda_esc (pd_var (i := 4) rfl (.inr (.inl rfl))) (pda_esc (pd_var (i := 8) rfl (.inl rfl)) pda_nil)))) (pda_esc (pd_var (i := 15) rfl (.inl rfl)) pda_nil))) (pdl_cons (pd_call (ok_law_open T) (hr.mono (by decide)) hgd rfl T.m16 T.k16 T.b16 pass0 (pda_esc (pd_call (ok_law_with T) (hr.mono (by decide)) hgd rfl T.m28 T.k28 T.b28 pass0 (pda_esc (pd_var (i := 3) rfl (.inr (.inl rfl))) (pda_esc (pd_var (i := 4) rfl (.inr (.inl rfl))) (pda_esc (pd_var (i := 9) rfl (.inr (.inl rfl))) pda_nil)))) (pda_esc (pd_var (i := 15) rfl (.inl rfl)) pda_nil))) pdl_nil))))
    (pds_cons (pds_if (pdt_not (pdt_val (pd_call (ok_law_alike T) (hr.mono (by decide)) hgd rfl T.m13 T.k13 T.b13 pass0 (pda_esc (pd_lst (pdl_cons (pd_meth (pd_var (i := 10) rfl (.inl rfl)) T.cl12 T.t14 (ok_Jobs_open_to T) (hr.mono (by decide)) hgd T.b14 pass0 (pda_esc (pd_var (i := 15) rfl (.inl rfl)) pda_nil)) (pdl_cons (pd_meth (pd_var (i := 11) rfl (.inl rfl)) T.cl12 T.t14 (ok_Jobs_open_to T) (hr.mono (by decide)) hgd T.b14 pass0 (pda_esc (pd_var (i := 15) rfl (.inl rfl)) pda_nil)) pdl_nil))) (pda_esc (pd_var (i := 12) rfl (.inl rfl)) pda_nil))))) (pds_one (pds_ret pd_bl)) pds_nil)
    (pds_one (pds_ret (pd_call (ok_law_alike T) (hr.mono (by decide)) hgd rfl T.m13 T.k13 T.b13 pass0 (pda_esc (pd_lst (pdl_cons (pd_meth (pd_var (i := 10) rfl (.inl rfl)) T.cl12 T.t19 (ok_Jobs_outside T) (hr.mono (by decide)) hgd T.b19 pass0 (pda_esc (pd_var (i := 4) rfl (.inr (.inl rfl))) pda_nil)) (pdl_cons (pd_meth (pd_var (i := 11) rfl (.inl rfl)) T.cl12 T.t19 (ok_Jobs_outside T) (hr.mono (by decide)) hgd T.b19 pass0 (pda_esc (pd_var (i := 4) rfl (.inr (.inl rfl))) pda_nil)) pdl_nil))) (pda_esc (pd_lst (pdl_cons (pd_call (ok_law_rest T) (hr.mono (by decide)) hgd rfl T.m22 T.k22 T.b22 pass0 (pda_esc (pd_var (i := 2) rfl (.inl rfl)) (pda_esc (pd_var (i := 8) rfl (.inl rfl)) pda_nil))) (pdl_cons (pd_call (ok_law_rest T) (hr.mono (by decide)) hgd rfl T.m22 T.k22 T.b22 pass0 (pda_esc (pd_var (i := 2) rfl (.inl rfl)) (pda_esc (pd_var (i := 9) rfl (.inr (.inl rfl))) pda_nil))) pdl_nil))) pda_nil)))))))))))))))))))
theorem sc_Jobs_UeqU : FnScope ["self", "other"] ["self", "other"] (defScope s29) := ⟨rfl, rfl, rfl, by decide +kernel, rfl, by decide +kernel, by decide +kernel⟩
theorem ok_Jobs_UeqU (T : Txt K mg a fd) : FnG P w K mg base CX0 1 (a 29) (fd 29) ["self", "other"] (spD K [false, false] (m_Jobs_UeqU a)) :=
  fn_ok T.F29 sc_Jobs_UeqU [false, false] rfl fun cdv A outer s H E hr hgd => (show PDB _ Wno (defBody s29) (g_Jobs_UeqU a) from
    (pds_one (pds_ret (pd_and (pd_callB (cd_isi T.ik) rfl T.z_isinstance PyProof.Rows.boot_isinstance (pda_cons (pd_var (i := 1) rfl (.inl rfl)) (pda_cons (pd_globR rfl T.mgC12 rfl) pda_nil))) (pd_and (pd_cmp (od_eq hr.units) (pd_fld (pd_var (i := 0) rfl (.inl rfl)) T.cl12 T.n12_size) (pd_fld (pd_var (i := 1) rfl (.inl rfl)) T.cl12 T.n12_size) (nomark _)) (pd_one (pd_cmp (od_eq hr.units) (pd_fld (pd_var (i := 0) rfl (.inl rfl)) T.cl12 T.n12_jobs) (pd_fld (pd_var (i := 1) rfl (.inl rfl)) T.cl12 T.n12_jobs) (nomark _))))))))
theorem sc_law : FnScope ["_law_script", "_law_bag_here", "_law_step", "_law_size", "_law_rows", "_law_jobs_here", "_law_every", "_law_group", "_law_again", "_law_k", "_law_indexes", "_law_at", "_law_due", "_law_found"] ["_law_script"] (defScope s0) := ⟨rfl, rfl, rfl, by decide +kernel, rfl, by decide +kernel, by decide +kernel⟩
theorem bk_law_0 : BlkOk ["_law_script", "_law_bag_here", "_law_step", "_law_size", "_law_rows", "_law_jobs_here", "_law_every", "_law_group", "_law_again", "_law_k", "_law_indexes", "_law_at", "_law_due", "_law_found"] { kind := .function, names := [("_law_script", .local), ("_law_bag_here", .local), ("_law_step", .local), ("_law_size", .local), ("_law_rows", .cell), ("_law_jobs_here", .local), ("_law_every", .local), ("_law_group", .local), ("_law_again", .local), ("_law_k", .local), ("_law_indexes", .local), ("_law_at", .local), ("_law_due", .local), ("_law_found", .local), ("_law_bag", .globalImplicit), ("range", .globalImplicit), ("_law_take", .globalImplicit), ("_law_jobs", .globalImplicit), ("Jobs", .globalImplicit), ("list", .globalImplicit), ("tuple", .globalImplicit), ("_law_some", .globalImplicit), ("_law_alike", .globalImplicit), ("_law_open", .globalImplicit), ("len", .globalImplicit), ("_law_told", .globalImplicit), ("_law_rest", .globalImplicit), ("_law_changed_right", .globalImplicit)], isGenerator := false, isCoroutine := false, more := [("fast", .str "_law_script"), ("fast", .str "_law_bag_here"), ("fast", .str "_law_step"), ("fast", .str "_law_size"), ("fast", .str "_law_rows"), ("fast", .str "_law_jobs_here"), ("fast", .str "_law_every"), ("fast", .str "_law_group"), ("fast", .str "_law_again"), ("fast", .str "_law_k"), ("fast", .str "_law_indexes"), ("fast", .str "_law_at"), ("fast", .str "_law_due"), ("fast", .str "_law_found")] : Scope } { kind := .function, names := [(".0", .local), ("_law_at", .local), ("_law_rows", .free)], isGenerator := false, isCoroutine := false, more := [] : Scope } [("_law_at", 11)] := ⟨rfl, by decide +kernel, by decide +kernel, by decide +kernel, by decide +kernel⟩
theorem ok_law (T : Txt K mg a fd) : FnG P w K mg base CX0 9 (a 0) (fd 0) ["_law_script"] (spD K [false] (m_law a)) :=
  fn_ok T.F0 sc_law [false] rfl fun cdv A outer s H E hr hgd => (show PDB _ Wno (defBody s0) (g_law a) from
    (pds_cons (pds_set (i := 1) sc_law.nd rfl (.inl rfl) (pd_call (ok_law_bag T) (hr.mono (by decide)) hgd rfl T.m1 T.k1 T.b1 pass0 (pda_esc (pd_var (i := 0) rfl (.inl rfl)) pda_nil)))
    (pds_cons (pds_for PassesOwn.never rfl (pdi_range1 rfl T.z_range (pda_cons pd_int pda_nil)) (pdg_name (i := 2) sc_law.nd rfl (.inl rfl) (.inr rfl)) (pds_cons (pds_set (i := 3) sc_law.nd rfl (.inl rfl) (pd_call (ok_law_take T) (hr.mono (by decide)) hgd rfl T.m2 T.k2 T.b2 pass0 (pda_keep (pd_var (i := 1) rfl (.inl rfl)) (pda_esc pd_int pda_nil))))
    (pds_cons (pds_set (i := 4) sc_law.nd rfl (.inr rfl) (pd_call (ok_law_jobs T) (hr.mono (by decide)) hgd rfl T.m3 T.k3 T.b3 pass0 (pda_keep (pd_var (i := 1) rfl (.inl rfl)) (pda_esc (pd_var (i := 3) rfl (.inl rfl)) (pda_esc pd_int pda_nil)))))
    (pds_cons (pds_par2 (i := 5) (j := 6) rfl sc_law.nd rfl rfl (by decide) rfl rfl (pd_make T.mk12 (ok_Jobs_UinitU T) (hr.mono (by decide)) hgd rfl T.mgC12 T.b7 pass0 (pda_esc (pd_var (i := 3) rfl (.inl rfl)) (pda_esc (pd_callTy cd_list rfl T.z_list PyProof.Rows.boot_list (pda_cons (pd_var (i := 4) rfl (.inr (.inl rfl))) pda_nil)) pda_nil))) (pd_listRg rfl rfl T.z_list (pdr_1 rfl T.z_range (pd_var (i := 3) rfl (.inl rfl)))) rfl)
    (pds_cons (pds_for PassesOwn.never rfl (pdi_seq (pd_lst (pdl_cons (pd_tup pdl_nil) (pdl_cons (pd_callTy cd_tuple rfl T.z_tuple PyProof.Rows.boot_tuple (pda_cons (pd_var (i := 6) rfl (.inl rfl)) pda_nil)) (pdl_cons (pd_callTy cd_tuple rfl T.z_tuple PyProof.Rows.boot_tuple (pda_cons (pd_call (ok_law_some T) (hr.mono (by decide)) hgd rfl T.m6 T.k6 T.b6 pass0 (pda_keep (pd_var (i := 1) rfl (.inl rfl)) (pda_esc (pd_var (i := 6) rfl (.inl rfl)) pda_nil))) pda_nil)) (pdl_cons (pd_callTy cd_tuple rfl T.z_tuple PyProof.Rows.boot_tuple (pda_cons (pd_call (ok_law_some T) (hr.mono (by decide)) hgd rfl T.m6 T.k6 T.b6 pass0 (pda_keep (pd_var (i := 1) rfl (.inl rfl)) (pda_esc (pd_var (i := 6) rfl (.inl rfl)) pda_nil))) pda_nil)) pdl_nil)))))) (pdg_name (i := 7) sc_law.nd rfl (.inl rfl) (.inr rfl)) (pds_one (pds_for PassesOwn.never rfl (pdi_range1 rfl T.z_range (pda_cons pd_int pda_nil)) (pdg_name (i := 8) sc_law.nd rfl (.inl rfl) (.inr rfl)) (pds_one (pds_if (pdt_not (pdt_val (pd_call (ok_law_alike T) (hr.mono (by decide)) hgd rfl T.m13 T.k13 T.b13 pass0 (pda_esc (pd_meth (pd_var (i := 5) rfl (.inl rfl)) T.cl12 T.t14 (ok_Jobs_open_to T) (hr.mono (by decide)) hgd T.b14 pass0 (pda_esc (pd_var (i := 7) rfl (.inl rfl)) pda_nil)) (pda_esc (pd_call (ok_law_open T) (hr.mono (by decide)) hgd rfl T.m16 T.k16 T.b16 pass0 (pda_esc (pd_var (i := 4) rfl (.inr (.inl rfl))) (pda_esc (pd_var (i := 7) rfl (.inl rfl)) pda_nil))) pda_nil))))) (pds_one (pds_ret pd_bl)) pds_nil)))))
    (pds_cons (pds_for PassesOwn.never rfl (pdi_range1 rfl T.z_range (pda_cons pd_int pda_nil)) (pdg_name (i := 9) sc_law.nd rfl (.inl rfl) (.inr rfl)) (pds_cons (pds_set (i := 10) sc_law.nd rfl (.inl rfl) (pd_callTy cd_tuple rfl T.z_tuple PyProof.Rows.boot_tuple (pda_cons (pd_call (ok_law_some T) (hr.mono (by decide)) hgd rfl T.m6 T.k6 T.b6 pass0 (pda_keep (pd_var (i := 1) rfl (.inl rfl)) (pda_esc (pd_listRg rfl rfl T.z_list (pdr_1 rfl T.z_range (pd_callB cd_len rfl T.z_len PySem.boot_len (pda_cons (pd_var (i := 4) rfl (.inr (.inl rfl))) pda_nil)))) pda_nil))) pda_nil)))
    (pds_cons (pds_set (i := 12) sc_law.nd rfl (.inl rfl) (pd_tup (pdl_cons (pd_var (i := 3) rfl (.inl rfl)) (pdl_cons (pd_callTy cd_tuple rfl T.z_tuple PyProof.Rows.boot_tuple (pda_cons (pd_lcV rfl sc_law.nd (pdi_seq (pd_var (i := 10) rfl (.inl rfl))) bk_law_0 rfl (fun _ _ _ _ _ => (pdg_name (i := 11) sc_law.nd rfl (.inl rfl) (.inr rfl))) (fun _ _ _ _ _ => pdts_nil) (fun _ _ _ _ _ => (pd_ix id_ix (pd_var (i := 4) rfl (.inr (.inl rfl))) (pd_var (i := 11) rfl (.inl rfl)) (fun _ _ => rfl))) (by decide)) pda_nil)) pdl_nil))))
    (pds_one (pds_for PassesOwn.never rfl (pdi_range1 rfl T.z_range (pda_cons pd_int pda_nil)) (pdg_name (i := 8) sc_law.nd rfl (.inl rfl) (.inr rfl)) (pds_one (pds_if (pdt_not (pdt_val (pd_call (ok_law_alike T) (hr.mono (by decide)) hgd rfl T.m13 T.k13 T.b13 pass0 (pda_esc (pd_call (ok_law_told T) (hr.mono (by decide)) hgd rfl T.m17 T.k17 T.b17 pass0 (pda_esc (pd_meth (pd_var (i := 5) rfl (.inl rfl)) T.cl12 T.t18 (ok_Jobs_picked T) (hr.mono (by decide)) hgd T.b18 pass0 (pda_esc (pd_var (i := 10) rfl (.inl rfl)) pda_nil)) pda_nil)) (pda_esc (pd_var (i := 12) rfl (.inl rfl)) pda_nil))))) (pds_one (pds_ret pd_bl)) pds_nil)))))))
    (pds_cons (pds_for PassesOwn.never rfl (pdi_range1 rfl T.z_range (pda_cons (pd_callB cd_len rfl T.z_len PySem.boot_len (pda_cons (pd_var (i := 4) rfl (.inr (.inl rfl))) pda_nil)) pda_nil)) (pdg_name (i := 11) sc_law.nd rfl (.inl rfl) (.inr rfl)) (pds_cons (pds_if (pdt_not (pdt_val (pd_call (ok_law_alike T) (hr.mono (by decide)) hgd rfl T.m13 T.k13 T.b13 pass0 (pda_esc (pd_lst (pdl_cons (pd_meth (pd_var (i := 5) rfl (.inl rfl)) T.cl12 T.t19 (ok_Jobs_outside T) (hr.mono (by decide)) hgd T.b19 pass0 (pda_esc (pd_var (i := 11) rfl (.inl rfl)) pda_nil)) (pdl_cons (pd_meth (pd_var (i := 5) rfl (.inl rfl)) T.cl12 T.t19 (ok_Jobs_outside T) (hr.mono (by decide)) hgd T.b19 pass0 (pda_esc (pd_var (i := 11) rfl (.inl rfl)) pda_nil)) pdl_nil))) (pda_esc (pd_op od_mul (pd_lst (pdl_cons (pd_call (ok_law_rest T) (hr.mono (by decide)) hgd rfl T.m22 T.k22 T.b22 pass0 (pda_esc (pd_var (i := 3) rfl (.inl rfl)) (pda_esc (pd_ix id_ix (pd_var (i := 4) rfl (.inr (.inl rfl))) (pd_var (i := 11) rfl (.inl rfl)) (fun _ _ => rfl)) pda_nil))) pdl_nil)) pd_int) pda_nil))))) (pds_one (pds_ret pd_bl)) pds_nil)
    (pds_one (pds_if (pdt_w (pdw_and (pdt_cmp od_gt (pd_var (i := 3) rfl (.inl rfl)) pd_int (nomark _)) (pdw_and1 (pdt_not (pdt_val (pd_call (ok_law_changed_right T) (hr.mono (by decide)) hgd rfl T.m23 T.k23 T.b23 pass0 (pda_keep (pd_var (i := 1) rfl (.inl rfl)) (pda_esc (pd_var (i := 5) rfl (.inl rfl)) (pda_esc (pd_var (i := 3) rfl (.inl rfl)) (pda_esc (pd_var (i := 4) rfl (.inr (.inl rfl))) (pda_esc (pd_var (i := 11) rfl (.inl rfl)) pda_nil))))))))))) (pds_one (pds_ret pd_bl)) pds_nil))))
    (pds_cons (pds_for PassesOwn.never rfl (pdi_range1 rfl T.z_range (pda_cons (pd_callB cd_len rfl T.z_len PySem.boot_len (pda_cons (pd_var (i := 4) rfl (.inr (.inl rfl))) pda_nil)) pda_nil)) (pdg_name (i := 11) sc_law.nd rfl (.inl rfl) (.inr rfl)) (pds_one (pds_if (pdt_not (pdt_val (pd_call (ok_law_alike T) (hr.mono (by decide)) hgd rfl T.m13 T.k13 T.b13 pass0 (pda_esc (pd_meth (pd_var (i := 5) rfl (.inl rfl)) T.cl12 T.t19 (ok_Jobs_outside T) (hr.mono (by decide)) hgd T.b19 pass0 (pda_esc (pd_var (i := 11) rfl (.inl rfl)) pda_nil)) (pda_esc (pd_call (ok_law_rest T) (hr.mono (by decide)) hgd rfl T.m22 T.k22 T.b22 pass0 (pda_esc (pd_var (i := 3) rfl (.inl rfl)) (pda_esc (pd_ix id_ix (pd_var (i := 4) rfl (.inr (.inl rfl))) (pd_var (i := 11) rfl (.inl rfl)) (fun _ _ => rfl)) pda_nil))) pda_nil))))) (pds_one (pds_ret pd_bl)) pds_nil)))
    (pds_cons (pds_set (i := 13) sc_law.nd rfl (.inl rfl) (pd_lst (pdl_cons (pd_call (ok_law_told T) (hr.mono (by decide)) hgd rfl T.m17 T.k17 T.b17 pass0 (pda_esc (pd_var (i := 5) rfl (.inl rfl)) pda_nil)) (pdl_cons (pd_cmp (od_eqI T.ei12 (ok_Jobs_UeqU T) T.b29 (hr.mono (by decide)) hgd) (pd_var (i := 5) rfl (.inl rfl)) (pd_make T.mk12 (ok_Jobs_UinitU T) (hr.mono (by decide)) hgd rfl T.mgC12 T.b7 pass0 (pda_esc (pd_var (i := 3) rfl (.inl rfl)) (pda_esc (pd_var (i := 4) rfl (.inr (.inl rfl))) pda_nil))) (nomark _)) (pdl_cons (pd_meth (pd_var (i := 5) rfl (.inl rfl)) T.cl12 T.t14 (ok_Jobs_open_to T) (hr.mono (by decide)) hgd T.b14 pass0 (pda_esc (pd_callTy cd_tuple rfl T.z_tuple PyProof.Rows.boot_tuple (pda_cons (pd_var (i := 6) rfl (.inl rfl)) pda_nil)) pda_nil)) pdl_nil)))))
    (pds_one (pds_if (pdt_not (pdt_val (pd_call (ok_law_alike T) (hr.mono (by decide)) hgd rfl T.m13 T.k13 T.b13 pass0 (pda_esc (pd_var (i := 13) rfl (.inl rfl)) (pda_esc (pd_lst (pdl_cons (pd_tup (pdl_cons (pd_var (i := 3) rfl (.inl rfl)) (pdl_cons (pd_callTy cd_tuple rfl T.z_tuple PyProof.Rows.boot_tuple (pda_cons (pd_var (i := 4) rfl (.inr (.inl rfl))) pda_nil)) pdl_nil))) (pdl_cons pd_bl (pdl_cons (pd_call (ok_law_open T) (hr.mono (by decide)) hgd rfl T.m16 T.k16 T.b16 pass0 (pda_esc (pd_var (i := 4) rfl (.inr (.inl rfl))) (pda_esc (pd_var (i := 6) rfl (.inl rfl)) pda_nil))) pdl_nil)))) pda_nil))))) (pds_one (pds_ret pd_bl)) pds_nil)))))))))))
    (pds_one (pds_ret pd_bl)))))
end
end K15

namespace K15
open PySem L2 Cw
variable (a : Nat → Addr)
theorem is_integer_int (i : Int) : m_is_integer a [.int i] = .ok (false, .bl true) [] := by
  simp only [m_is_integer, g_is_integer, ↓noX, ↓fnOf, initE, List.replicate, List.length_cons, List.length_nil, List.cons_append, List.nil_append, Nat.sub_self, Nat.reduceSub, Nat.reduceAdd, ↓sSeq, ↓sIf_eq, ↓sSet, ↓sRet, ↓sRetN, ↓sExpr, ↓sNil, ↓sNever, ↓sFor, ↓sAsg, ↓sFldS, ↓sAugIx, ↓sSetIx, ↓putIx, ↓sPar2, ↓sPar3, ↓M.then, ↓bind_eq, ↓M.ret, ↓M.bad, ↓M.get, ↓M.esc, ↓M.arg, ↓M.nrm, ↓M.res, ↓M.wipe, look, getE, ↓put, isMu_eq, muB_none, muB_sh, muB_ow, muB_mu, ↓eVar, ↓eC, ↓eOp1, ↓eOp2, ↓eBool_eq, ↓eAnd_eq, ↓eOr_eq, ↓eNot, ↓eAndV_eq, ↓eOrV_eq, ↓eNotV_eq, ↓eIf_eq, ↓eChain, ↓aNil, ↓aCons, ↓lCons, ↓kCons, ↓sCons, ↓eTup_eq, ↓eLst_eq, ↓eLc_eq, ↓eYes, ↓iSeq_eq, ↓Cw.iEnum, ↓iRng1D_eq, ↓iRng2D, ↓eLRg, ↓eTRg, ↓rg1_eq, ↓rg2, ↓eSl, ↓oNone, ↓oSome_eq, ↓eCallB, ↓getAll, ↓eCall, ↓callM, gather, scatter, muI, toRV, ↓eMake, ↓makeM, ↓eMeth_eq, ↓eFld_eq, ↓eMut_eq, finR, muOf, List.set, ↓gN, ↓fstep, ↓gT, ↓gsCons, ↓gsNil, noMu, wipeE, List.all_cons, List.all_nil, Bool.and_true, Bool.true_and, Bool.not_false, Bool.not_true, if_true, if_false, ite_true, ite_false, Bool.false_eq_true, reduceIte, reduceCtorEq, List.nodup_cons, List.nodup_nil, List.not_mem_nil, not_false_eq_true, and_self, and_true, true_and, List.mem_cons, List.mem_singleton, or_false, decide_true, decide_false, List.getElem?_cons_zero, List.getElem?_cons_succ, dEq_int, dNe_int, dEq_str, dCmp_int, dAdd_int, dSub_int, dInt_int, dAbs_int, dLen_lst, dLen_tup, dList_lst, dList_tup, dTuple_lst, dTuple_tup, isi_ii, isi_ib]
theorem is_between_int (i lo hi : Int) : m_is_between a [.int i, .int lo, .int hi] = .ok (false, .bl (decide (lo ≤ i ∧ i ≤ hi))) [] := by
  simp only [m_is_between, g_is_between, ↓noX, ↓fnOf, initE, List.replicate, List.length_cons, List.length_nil, List.cons_append, List.nil_append, Nat.sub_self, Nat.reduceSub, Nat.reduceAdd, ↓sSeq, ↓sIf_eq, ↓sSet, ↓sRet, ↓sRetN, ↓sExpr, ↓sNil, ↓sNever, ↓sFor, ↓sAsg, ↓sFldS, ↓sAugIx, ↓sSetIx, ↓putIx, ↓sPar2, ↓sPar3, ↓M.then, ↓bind_eq, ↓M.ret, ↓M.bad, ↓M.get, ↓M.esc, ↓M.arg, ↓M.nrm, ↓M.res, ↓M.wipe, look, getE, ↓put, isMu_eq, muB_none, muB_sh, muB_ow, muB_mu, ↓eVar, ↓eC, ↓eOp1, ↓eOp2, ↓eBool_eq, ↓eAnd_eq, ↓eOr_eq, ↓eNot, ↓eAndV_eq, ↓eOrV_eq, ↓eNotV_eq, ↓eIf_eq, ↓eChain, ↓aNil, ↓aCons, ↓lCons, ↓kCons, ↓sCons, ↓eTup_eq, ↓eLst_eq, ↓eLc_eq, ↓eYes, ↓iSeq_eq, ↓Cw.iEnum, ↓iRng1D_eq, ↓iRng2D, ↓eLRg, ↓eTRg, ↓rg1_eq, ↓rg2, ↓eSl, ↓oNone, ↓oSome_eq, ↓eCallB, ↓getAll, ↓eCall, ↓callM, gather, scatter, muI, toRV, ↓eMake, ↓makeM, ↓eMeth_eq, ↓eFld_eq, ↓eMut_eq, finR, muOf, List.set, ↓gN, ↓fstep, ↓gT, ↓gsCons, ↓gsNil, noMu, wipeE, List.all_cons, List.all_nil, Bool.and_true, Bool.true_and, Bool.not_false, Bool.not_true, if_true, if_false, ite_true, ite_false, Bool.false_eq_true, reduceIte, reduceCtorEq, List.nodup_cons, List.nodup_nil, List.not_mem_nil, not_false_eq_true, and_self, and_true, true_and, List.mem_cons, List.mem_singleton, or_false, decide_true, decide_false, List.getElem?_cons_zero, List.getElem?_cons_succ, dEq_int, dNe_int, dEq_str, dCmp_int, dAdd_int, dSub_int, dInt_int, dAbs_int, dLen_lst, dLen_tup, dList_lst, dList_tup, dTuple_lst, dTuple_tup, is_integer_int]
  by_cases h : lo ≤ i <;> simp only [h, ↓noX, ↓fnOf, initE, List.replicate, List.length_cons, List.length_nil, List.cons_append, List.nil_append, Nat.sub_self, Nat.reduceSub, Nat.reduceAdd, ↓sSeq, ↓sIf_eq, ↓sSet, ↓sRet, ↓sRetN, ↓sExpr, ↓sNil, ↓sNever, ↓sFor, ↓sAsg, ↓sFldS, ↓sAugIx, ↓sSetIx, ↓putIx, ↓sPar2, ↓sPar3, ↓M.then, ↓bind_eq, ↓M.ret, ↓M.bad, ↓M.get, ↓M.esc, ↓M.arg, ↓M.nrm, ↓M.res, ↓M.wipe, look, getE, ↓put, isMu_eq, muB_none, muB_sh, muB_ow, muB_mu, ↓eVar, ↓eC, ↓eOp1, ↓eOp2, ↓eBool_eq, ↓eAnd_eq, ↓eOr_eq, ↓eNot, ↓eAndV_eq, ↓eOrV_eq, ↓eNotV_eq, ↓eIf_eq, ↓eChain, ↓aNil, ↓aCons, ↓lCons, ↓kCons, ↓sCons, ↓eTup_eq, ↓eLst_eq, ↓eLc_eq, ↓eYes, ↓iSeq_eq, ↓Cw.iEnum, ↓iRng1D_eq, ↓iRng2D, ↓eLRg, ↓eTRg, ↓rg1_eq, ↓rg2, ↓eSl, ↓oNone, ↓oSome_eq, ↓eCallB, ↓getAll, ↓eCall, ↓callM, gather, scatter, muI, toRV, ↓eMake, ↓makeM, ↓eMeth_eq, ↓eFld_eq, ↓eMut_eq, finR, muOf, List.set, ↓gN, ↓fstep, ↓gT, ↓gsCons, ↓gsNil, noMu, wipeE, List.all_cons, List.all_nil, Bool.and_true, Bool.true_and, Bool.not_false, Bool.not_true, if_true, if_false, ite_true, ite_false, Bool.false_eq_true, reduceIte, reduceCtorEq, List.nodup_cons, List.nodup_nil, List.not_mem_nil, not_false_eq_true, and_self, and_true, true_and, List.mem_cons, List.mem_singleton, or_false, decide_true, decide_false, List.getElem?_cons_zero, List.getElem?_cons_succ, dEq_int, dNe_int, dEq_str, dCmp_int, dAdd_int, dSub_int, dInt_int, dAbs_int, dLen_lst, dLen_tup, dList_lst, dList_tup, dTuple_lst, dTuple_tup, true_and, false_and]
theorem is_listed_lst (xs : List D) (n : Int) : m_is_listed a [.lst xs, .int n] = .ok (false, .bl (decide ((xs.length : Int) ≤ n))) [] := by
  simp only [m_is_listed, g_is_listed, ↓noX, ↓fnOf, initE, List.replicate, List.length_cons, List.length_nil, List.cons_append, List.nil_append, Nat.sub_self, Nat.reduceSub, Nat.reduceAdd, ↓sSeq, ↓sIf_eq, ↓sSet, ↓sRet, ↓sRetN, ↓sExpr, ↓sNil, ↓sNever, ↓sFor, ↓sAsg, ↓sFldS, ↓sAugIx, ↓sSetIx, ↓putIx, ↓sPar2, ↓sPar3, ↓M.then, ↓bind_eq, ↓M.ret, ↓M.bad, ↓M.get, ↓M.esc, ↓M.arg, ↓M.nrm, ↓M.res, ↓M.wipe, look, getE, ↓put, isMu_eq, muB_none, muB_sh, muB_ow, muB_mu, ↓eVar, ↓eC, ↓eOp1, ↓eOp2, ↓eBool_eq, ↓eAnd_eq, ↓eOr_eq, ↓eNot, ↓eAndV_eq, ↓eOrV_eq, ↓eNotV_eq, ↓eIf_eq, ↓eChain, ↓aNil, ↓aCons, ↓lCons, ↓kCons, ↓sCons, ↓eTup_eq, ↓eLst_eq, ↓eLc_eq, ↓eYes, ↓iSeq_eq, ↓Cw.iEnum, ↓iRng1D_eq, ↓iRng2D, ↓eLRg, ↓eTRg, ↓rg1_eq, ↓rg2, ↓eSl, ↓oNone, ↓oSome_eq, ↓eCallB, ↓getAll, ↓eCall, ↓callM, gather, scatter, muI, toRV, ↓eMake, ↓makeM, ↓eMeth_eq, ↓eFld_eq, ↓eMut_eq, finR, muOf, List.set, ↓gN, ↓fstep, ↓gT, ↓gsCons, ↓gsNil, noMu, wipeE, List.all_cons, List.all_nil, Bool.and_true, Bool.true_and, Bool.not_false, Bool.not_true, if_true, if_false, ite_true, ite_false, Bool.false_eq_true, reduceIte, reduceCtorEq, List.nodup_cons, List.nodup_nil, List.not_mem_nil, not_false_eq_true, and_self, and_true, true_and, List.mem_cons, List.mem_singleton, or_false, decide_true, decide_false, List.getElem?_cons_zero, List.getElem?_cons_succ, dEq_int, dNe_int, dEq_str, dCmp_int, dAdd_int, dSub_int, dInt_int, dAbs_int, dLen_lst, dLen_tup, dList_lst, dList_tup, dTuple_lst, dTuple_tup, isi2_l]
theorem is_listed_tup (xs : List D) (n : Int) : m_is_listed a [.tup xs, .int n] = .ok (false, .bl (decide ((xs.length : Int) ≤ n))) [] := by
  simp only [m_is_listed, g_is_listed, ↓noX, ↓fnOf, initE, List.replicate, List.length_cons, List.length_nil, List.cons_append, List.nil_append, Nat.sub_self, Nat.reduceSub, Nat.reduceAdd, ↓sSeq, ↓sIf_eq, ↓sSet, ↓sRet, ↓sRetN, ↓sExpr, ↓sNil, ↓sNever, ↓sFor, ↓sAsg, ↓sFldS, ↓sAugIx, ↓sSetIx, ↓putIx, ↓sPar2, ↓sPar3, ↓M.then, ↓bind_eq, ↓M.ret, ↓M.bad, ↓M.get, ↓M.esc, ↓M.arg, ↓M.nrm, ↓M.res, ↓M.wipe, look, getE, ↓put, isMu_eq, muB_none, muB_sh, muB_ow, muB_mu, ↓eVar, ↓eC, ↓eOp1, ↓eOp2, ↓eBool_eq, ↓eAnd_eq, ↓eOr_eq, ↓eNot, ↓eAndV_eq, ↓eOrV_eq, ↓eNotV_eq, ↓eIf_eq, ↓eChain, ↓aNil, ↓aCons, ↓lCons, ↓kCons, ↓sCons, ↓eTup_eq, ↓eLst_eq, ↓eLc_eq, ↓eYes, ↓iSeq_eq, ↓Cw.iEnum, ↓iRng1D_eq, ↓iRng2D, ↓eLRg, ↓eTRg, ↓rg1_eq, ↓rg2, ↓eSl, ↓oNone, ↓oSome_eq, ↓eCallB, ↓getAll, ↓eCall, ↓callM, gather, scatter, muI, toRV, ↓eMake, ↓makeM, ↓eMeth_eq, ↓eFld_eq, ↓eMut_eq, finR, muOf, List.set, ↓gN, ↓fstep, ↓gT, ↓gsCons, ↓gsNil, noMu, wipeE, List.all_cons, List.all_nil, Bool.and_true, Bool.true_and, Bool.not_false, Bool.not_true, if_true, if_false, ite_true, ite_false, Bool.false_eq_true, reduceIte, reduceCtorEq, List.nodup_cons, List.nodup_nil, List.not_mem_nil, not_false_eq_true, and_self, and_true, true_and, List.mem_cons, List.mem_singleton, or_false, decide_true, decide_false, List.getElem?_cons_zero, List.getElem?_cons_succ, dEq_int, dNe_int, dEq_str, dCmp_int, dAdd_int, dSub_int, dInt_int, dAbs_int, dLen_lst, dLen_tup, dList_lst, dList_tup, dTuple_lst, dTuple_tup, isi2_t]
theorem alike_same {k n : Nat} {d : D} (h : Nice k n d) (hk : k ≤ 64) (hn : n ≤ 2 ^ 20) : m_law_alike a [d, d] = .ok (false, .bl true) [] := by
  obtain ⟨t, ht⟩ := h.repr hk hn
  have he := h.eq hk
  simp only [m_law_alike, g_law_alike, ↓noX, ↓fnOf, initE, List.replicate, List.length_cons, List.length_nil, List.cons_append, List.nil_append, Nat.sub_self, Nat.reduceSub, Nat.reduceAdd, ↓sSeq, ↓sIf_eq, ↓sSet, ↓sRet, ↓sRetN, ↓sExpr, ↓sNil, ↓sNever, ↓sFor, ↓sAsg, ↓sFldS, ↓sAugIx, ↓sSetIx, ↓putIx, ↓sPar2, ↓sPar3, ↓M.then, ↓bind_eq, ↓M.ret, ↓M.bad, ↓M.get, ↓M.esc, ↓M.arg, ↓M.nrm, ↓M.res, ↓M.wipe, look, getE, ↓put, isMu_eq, muB_none, muB_sh, muB_ow, muB_mu, ↓eVar, ↓eC, ↓eOp1, ↓eOp2, ↓eBool_eq, ↓eAnd_eq, ↓eOr_eq, ↓eNot, ↓eAndV_eq, ↓eOrV_eq, ↓eNotV_eq, ↓eIf_eq, ↓eChain, ↓aNil, ↓aCons, ↓lCons, ↓kCons, ↓sCons, ↓eTup_eq, ↓eLst_eq, ↓eLc_eq, ↓eYes, ↓iSeq_eq, ↓Cw.iEnum, ↓iRng1D_eq, ↓iRng2D, ↓eLRg, ↓eTRg, ↓rg1_eq, ↓rg2, ↓eSl, ↓oNone, ↓oSome_eq, ↓eCallB, ↓getAll, ↓eCall, ↓callM, gather, scatter, muI, toRV, ↓eMake, ↓makeM, ↓eMeth_eq, ↓eFld_eq, ↓eMut_eq, finR, muOf, List.set, ↓gN, ↓fstep, ↓gT, ↓gsCons, ↓gsNil, noMu, wipeE, List.all_cons, List.all_nil, Bool.and_true, Bool.true_and, Bool.not_false, Bool.not_true, if_true, if_false, ite_true, ite_false, Bool.false_eq_true, reduceIte, reduceCtorEq, List.nodup_cons, List.nodup_nil, List.not_mem_nil, not_false_eq_true, and_self, and_true, true_and, List.mem_cons, List.mem_singleton, or_false, decide_true, decide_false, List.getElem?_cons_zero, List.getElem?_cons_succ, dEq_int, dNe_int, dEq_str, dCmp_int, dAdd_int, dSub_int, dInt_int, dAbs_int, dLen_lst, dLen_tup, dList_lst, dList_tup, dTuple_lst, dTuple_tup, ht, he]
/-! ### the bag -/
def bagD (x y z : Int) (cs : List Int) : D := .lst [.int x, .int y, .int z, .lst (ii cs)]
structure BagOk (x y z : Int) (cs : List Int) : Prop where
  x : 0 ≤ x
  y : 0 ≤ y
  z : 0 ≤ z
  c : ∀ c ∈ cs, 0 ≤ c
theorem dIx4_0 (p q r s : D) : dIx (.lst [p, q, r, s]) (.int 0) = some (false, p) := rfl
theorem dIx4_1 (p q r s : D) : dIx (.lst [p, q, r, s]) (.int 1) = some (false, q) := rfl
theorem dIx4_2 (p q r s : D) : dIx (.lst [p, q, r, s]) (.int 2) = some (false, r) := rfl
theorem dIx4_3 (p q r s : D) : dIx (.lst [p, q, r, s]) (.int 3) = some (false, s) := rfl
theorem ixN4_0 : ixN 4 0 = some 0 := rfl
theorem ixN4_1 : ixN 4 1 = some 1 := rfl
theorem ixN4_2 : ixN 4 2 = some 2 := rfl
theorem dIx_ii {cs : List Int} {z : Int} (h0 : 0 ≤ z) (h1 : z < cs.length) : ∃ c, c ∈ cs ∧ dIx (.lst (ii cs)) (.int z) = some (false, .int c) := by
  obtain ⟨k, rfl⟩ := Int.eq_ofNat_of_zero_le h0
  have hk : k < cs.length := by omega
  refine ⟨cs[k], List.getElem_mem hk, dIx_lst ?_⟩
  unfold ii
  rw [List.getElem?_map, List.getElem?_eq_getElem hk]
  rfl
theorem small_k : smallI 48271 = true ∧ smallI 7919 = true ∧ smallI 39373 = true ∧ smallI 30011 = true := by decide
theorem small_of {i : Int} (h0 : 0 ≤ i) (h1 : i < 2 ^ 64) : smallI i = true := by
  unfold smallI
  exact decide_eq_true ⟨by omega, h1⟩
def mixY (y z c : Int) : Int := (y * 48271 + c % 2147483647 + 7919 * (z + 1)) % 2147483647
def hashV (y many : Int) : Int := ((((((y + 1) * 39373) % 1000000007) * (((y + 1) * 39373) % 1000000007)) % 998244353) * 30011 % 998244353 / 7) % many
theorem take_ok {x y z many : Int} {cs : List Int} (h : BagOk x y z cs) (hm : 0 < many) (hm2 : many < 1073741824) :
    ∃ v x' y' z', m_law_take a [bagD x y z cs, .int many] = .ok (false, .int v) [bagD x' y' z' cs] ∧ 0 ≤ v ∧ v < many ∧ BagOk x' y' z' cs := by
  obtain ⟨hx, hy, hz, hc⟩ := h
  obtain ⟨k1, k2, k3, k4⟩ := small_k
  have f1 : ∀ t : Int, smallI (t % 1000000007) = true := fun t => small_of (by omega) (by omega)
  have mm := fun i => dMod_int i many hm
  have dm := fun i => dDiv_int i many hm hm2
  have m1 := fun i => dMod_int i 2147483647 (by decide)
  have m2 := fun i => dMod_int i 1000000007 (by decide)
  have m3 := fun i => dMod_int i 998244353 (by decide)
  have d7 := fun i => dDiv_int i 7 (by decide) (by decide)
  have p1 := fun i => dMul_int i 48271 (by rw [k1, Bool.or_true])
  have p2 := fun i => dMul_int 7919 i (by rw [k2, Bool.true_or])
  have p3 := fun i => dMul_int i 39373 (by rw [k3, Bool.or_true])
  have p4 := fun i => dMul_int i 30011 (by rw [k4, Bool.or_true])
  have p5 := fun t => dMul_int (t % 1000000007) (t % 1000000007) (by rw [f1, Bool.true_or])
  have g2 : (0 : Int) ≤ 2 ∧ (2 : Int) < 2 ^ 63 := by decide
  have t2 : (2 : Int).toNat = 2 := rfl
  have big : ∀ c : Int, 0 ≤ c → (1000000000000000000 : Int) ≤ c → ∀ (r : Option (Bool × D)), True := fun _ _ _ _ => trivial
  by_cases c1 : x = 0
  · subst c1
    by_cases c2 : z < cs.length
    · obtain ⟨c, hcm, hci⟩ := dIx_ii hz c2
      have hc0 := hc c hcm
      by_cases c3 : (1000000000000000000 : Int) ≤ c
      · have c4 : 0 < c := by omega
        refine ⟨c % many, c / many, mixY y z c, z + 1, ?_, Int.emod_nonneg _ (by omega), Int.emod_lt_of_pos _ hm, ⟨Int.ediv_nonneg hc0 (by omega), ?_, by omega, hc⟩⟩
        · simp only [bagD, m_law_take, g_law_take, ↓noX, ↓fnOf, initE, List.replicate, List.length_cons, List.length_nil, List.cons_append, List.nil_append, Nat.sub_self, Nat.reduceSub, Nat.reduceAdd, ↓sSeq, ↓sIf_eq, ↓sSet, ↓sRet, ↓sRetN, ↓sExpr, ↓sNil, ↓sNever, ↓sFor, ↓sAsg, ↓sFldS, ↓sAugIx, ↓sSetIx, ↓putIx, ↓sPar2, ↓sPar3, ↓M.then, ↓bind_eq, ↓M.ret, ↓M.bad, ↓M.get, ↓M.esc, ↓M.arg, ↓M.nrm, ↓M.res, ↓M.wipe, look, getE, ↓put, isMu_eq, muB_none, muB_sh, muB_ow, muB_mu, ↓eVar, ↓eC, ↓eOp1, ↓eOp2, ↓eBool_eq, ↓eAnd_eq, ↓eOr_eq, ↓eNot, ↓eAndV_eq, ↓eOrV_eq, ↓eNotV_eq, ↓eIf_eq, ↓eChain, ↓aNil, ↓aCons, ↓lCons, ↓kCons, ↓sCons, ↓eTup_eq, ↓eLst_eq, ↓eLc_eq, ↓eYes, ↓iSeq_eq, ↓Cw.iEnum, ↓iRng1D_eq, ↓iRng2D, ↓eLRg, ↓eTRg, ↓rg1_eq, ↓rg2, ↓eSl, ↓oNone, ↓oSome_eq, ↓eCallB, ↓getAll, ↓eCall, ↓callM, gather, scatter, muI, toRV, ↓eMake, ↓makeM, ↓eMeth_eq, ↓eFld_eq, ↓eMut_eq, finR, muOf, List.set, ↓gN, ↓fstep, ↓gT, ↓gsCons, ↓gsNil, noMu, wipeE, List.all_cons, List.all_nil, Bool.and_true, Bool.true_and, Bool.not_false, Bool.not_true, if_true, if_false, ite_true, ite_false, Bool.false_eq_true, reduceIte, reduceCtorEq, List.nodup_cons, List.nodup_nil, List.not_mem_nil, not_false_eq_true, and_self, and_true, true_and, List.mem_cons, List.mem_singleton, or_false, decide_true, decide_false, List.getElem?_cons_zero, List.getElem?_cons_succ, dEq_int, dNe_int, dEq_str, dCmp_int, dAdd_int, dSub_int, dInt_int, dAbs_int, dLen_lst, dLen_tup, dList_lst, dList_tup, dTuple_lst, dTuple_tup, dIx4_0, dIx4_1, dIx4_2, dIx4_3, ii_length, c2, hci, ixN4_0, ixN4_1, ixN4_2, c3, mm, dm, m1, m2, m3, d7, p1, p2, p3, p4, p5, c4, g2, t2, mixY]
        · exact Int.emod_nonneg _ (by decide)
      · refine ⟨hashV (mixY y z c) many, 0, mixY y z c, z + 1, ?_, Int.emod_nonneg _ (by omega), Int.emod_lt_of_pos _ hm, ⟨Int.le_refl _, Int.emod_nonneg _ (by decide), by omega, hc⟩⟩
        simp only [bagD, m_law_take, g_law_take, ↓noX, ↓fnOf, initE, List.replicate, List.length_cons, List.length_nil, List.cons_append, List.nil_append, Nat.sub_self, Nat.reduceSub, Nat.reduceAdd, ↓sSeq, ↓sIf_eq, ↓sSet, ↓sRet, ↓sRetN, ↓sExpr, ↓sNil, ↓sNever, ↓sFor, ↓sAsg, ↓sFldS, ↓sAugIx, ↓sSetIx, ↓putIx, ↓sPar2, ↓sPar3, ↓M.then, ↓bind_eq, ↓M.ret, ↓M.bad, ↓M.get, ↓M.esc, ↓M.arg, ↓M.nrm, ↓M.res, ↓M.wipe, look, getE, ↓put, isMu_eq, muB_none, muB_sh, muB_ow, muB_mu, ↓eVar, ↓eC, ↓eOp1, ↓eOp2, ↓eBool_eq, ↓eAnd_eq, ↓eOr_eq, ↓eNot, ↓eAndV_eq, ↓eOrV_eq, ↓eNotV_eq, ↓eIf_eq, ↓eChain, ↓aNil, ↓aCons, ↓lCons, ↓kCons, ↓sCons, ↓eTup_eq, ↓eLst_eq, ↓eLc_eq, ↓eYes, ↓iSeq_eq, ↓Cw.iEnum, ↓iRng1D_eq, ↓iRng2D, ↓eLRg, ↓eTRg, ↓rg1_eq, ↓rg2, ↓eSl, ↓oNone, ↓oSome_eq, ↓eCallB, ↓getAll, ↓eCall, ↓callM, gather, scatter, muI, toRV, ↓eMake, ↓makeM, ↓eMeth_eq, ↓eFld_eq, ↓eMut_eq, finR, muOf, List.set, ↓gN, ↓fstep, ↓gT, ↓gsCons, ↓gsNil, noMu, wipeE, List.all_cons, List.all_nil, Bool.and_true, Bool.true_and, Bool.not_false, Bool.not_true, if_true, if_false, ite_true, ite_false, Bool.false_eq_true, reduceIte, reduceCtorEq, List.nodup_cons, List.nodup_nil, List.not_mem_nil, not_false_eq_true, and_self, and_true, true_and, List.mem_cons, List.mem_singleton, or_false, decide_true, decide_false, List.getElem?_cons_zero, List.getElem?_cons_succ, dEq_int, dNe_int, dEq_str, dCmp_int, dAdd_int, dSub_int, dInt_int, dAbs_int, dLen_lst, dLen_tup, dList_lst, dList_tup, dTuple_lst, dTuple_tup, dIx4_0, dIx4_1, dIx4_2, dIx4_3, ii_length, c2, hci, ixN4_0, ixN4_1, ixN4_2, c3, mm, dm, m1, m2, m3, d7, p1, p2, p3, p4, p5, g2, t2, mixY, hashV, Int.lt_irrefl]
    · refine ⟨hashV (mixY y z 0) many, 0, mixY y z 0, z + 1, ?_, Int.emod_nonneg _ (by omega), Int.emod_lt_of_pos _ hm, ⟨Int.le_refl _, Int.emod_nonneg _ (by decide), by omega, hc⟩⟩
      have c3 : ¬ (1000000000000000000 : Int) ≤ 0 := by decide
      simp only [bagD, m_law_take, g_law_take, ↓noX, ↓fnOf, initE, List.replicate, List.length_cons, List.length_nil, List.cons_append, List.nil_append, Nat.sub_self, Nat.reduceSub, Nat.reduceAdd, ↓sSeq, ↓sIf_eq, ↓sSet, ↓sRet, ↓sRetN, ↓sExpr, ↓sNil, ↓sNever, ↓sFor, ↓sAsg, ↓sFldS, ↓sAugIx, ↓sSetIx, ↓putIx, ↓sPar2, ↓sPar3, ↓M.then, ↓bind_eq, ↓M.ret, ↓M.bad, ↓M.get, ↓M.esc, ↓M.arg, ↓M.nrm, ↓M.res, ↓M.wipe, look, getE, ↓put, isMu_eq, muB_none, muB_sh, muB_ow, muB_mu, ↓eVar, ↓eC, ↓eOp1, ↓eOp2, ↓eBool_eq, ↓eAnd_eq, ↓eOr_eq, ↓eNot, ↓eAndV_eq, ↓eOrV_eq, ↓eNotV_eq, ↓eIf_eq, ↓eChain, ↓aNil, ↓aCons, ↓lCons, ↓kCons, ↓sCons, ↓eTup_eq, ↓eLst_eq, ↓eLc_eq, ↓eYes, ↓iSeq_eq, ↓Cw.iEnum, ↓iRng1D_eq, ↓iRng2D, ↓eLRg, ↓eTRg, ↓rg1_eq, ↓rg2, ↓eSl, ↓oNone, ↓oSome_eq, ↓eCallB, ↓getAll, ↓eCall, ↓callM, gather, scatter, muI, toRV, ↓eMake, ↓makeM, ↓eMeth_eq, ↓eFld_eq, ↓eMut_eq, finR, muOf, List.set, ↓gN, ↓fstep, ↓gT, ↓gsCons, ↓gsNil, noMu, wipeE, List.all_cons, List.all_nil, Bool.and_true, Bool.true_and, Bool.not_false, Bool.not_true, if_true, if_false, ite_true, ite_false, Bool.false_eq_true, reduceIte, reduceCtorEq, List.nodup_cons, List.nodup_nil, List.not_mem_nil, not_false_eq_true, and_self, and_true, true_and, List.mem_cons, List.mem_singleton, or_false, decide_true, decide_false, List.getElem?_cons_zero, List.getElem?_cons_succ, dEq_int, dNe_int, dEq_str, dCmp_int, dAdd_int, dSub_int, dInt_int, dAbs_int, dLen_lst, dLen_tup, dList_lst, dList_tup, dTuple_lst, dTuple_tup, dIx4_0, dIx4_1, dIx4_2, dIx4_3, ii_length, c2, ixN4_0, ixN4_1, ixN4_2, c3, mm, dm, m1, m2, m3, d7, p1, p2, p3, p4, p5, g2, t2, mixY, hashV, Int.lt_irrefl]
  · have c4 : 0 < x := by omega
    refine ⟨x % many, x / many, y, z, ?_, Int.emod_nonneg _ (by omega), Int.emod_lt_of_pos _ hm, ⟨Int.ediv_nonneg hx (by omega), hy, hz, hc⟩⟩
    simp only [bagD, m_law_take, g_law_take, ↓noX, ↓fnOf, initE, List.replicate, List.length_cons, List.length_nil, List.cons_append, List.nil_append, Nat.sub_self, Nat.reduceSub, Nat.reduceAdd, ↓sSeq, ↓sIf_eq, ↓sSet, ↓sRet, ↓sRetN, ↓sExpr, ↓sNil, ↓sNever, ↓sFor, ↓sAsg, ↓sFldS, ↓sAugIx, ↓sSetIx, ↓putIx, ↓sPar2, ↓sPar3, ↓M.then, ↓bind_eq, ↓M.ret, ↓M.bad, ↓M.get, ↓M.esc, ↓M.arg, ↓M.nrm, ↓M.res, ↓M.wipe, look, getE, ↓put, isMu_eq, muB_none, muB_sh, muB_ow, muB_mu, ↓eVar, ↓eC, ↓eOp1, ↓eOp2, ↓eBool_eq, ↓eAnd_eq, ↓eOr_eq, ↓eNot, ↓eAndV_eq, ↓eOrV_eq, ↓eNotV_eq, ↓eIf_eq, ↓eChain, ↓aNil, ↓aCons, ↓lCons, ↓kCons, ↓sCons, ↓eTup_eq, ↓eLst_eq, ↓eLc_eq, ↓eYes, ↓iSeq_eq, ↓Cw.iEnum, ↓iRng1D_eq, ↓iRng2D, ↓eLRg, ↓eTRg, ↓rg1_eq, ↓rg2, ↓eSl, ↓oNone, ↓oSome_eq, ↓eCallB, ↓getAll, ↓eCall, ↓callM, gather, scatter, muI, toRV, ↓eMake, ↓makeM, ↓eMeth_eq, ↓eFld_eq, ↓eMut_eq, finR, muOf, List.set, ↓gN, ↓fstep, ↓gT, ↓gsCons, ↓gsNil, noMu, wipeE, List.all_cons, List.all_nil, Bool.and_true, Bool.true_and, Bool.not_false, Bool.not_true, if_true, if_false, ite_true, ite_false, Bool.false_eq_true, reduceIte, reduceCtorEq, List.nodup_cons, List.nodup_nil, List.not_mem_nil, not_false_eq_true, and_self, and_true, true_and, List.mem_cons, List.mem_singleton, or_false, decide_true, decide_false, List.getElem?_cons_zero, List.getElem?_cons_succ, dEq_int, dNe_int, dEq_str, dCmp_int, dAdd_int, dSub_int, dInt_int, dAbs_int, dLen_lst, dLen_tup, dList_lst, dList_tup, dTuple_lst, dTuple_tup, dIx4_0, dIx4_1, dIx4_2, dIx4_3, ixN4_0, c1, c4, mm, dm]
theorem cut63 {α : Type} (xs : List α) (h : xs.length ≤ 63) : cutG xs none (some 63) = xs := by
  unfold cutG
  show List.take (HT.sIx xs.length xs.length (some ((63 : Nat) : Int)) - 0) (xs.drop 0) = xs
  rw [HT.sIx_nat, Nat.min_eq_right h, Nat.sub_zero, List.drop_zero, List.take_length]
def absD : D → D
  | .int i => .int (if i < 0 then -i else i)
  | d => d
theorem bag_ok (ns : List Int) (h : ns.length ≤ 63) : ∃ cs, m_law_bag a [.scr (ii ns)] = .ok (true, bagD 0 987654321 0 cs) [] ∧ BagOk 0 987654321 0 cs := by
  have hl : lcL [1] (gN 1) eYes (eCallB dAbs (aCons (eVar 1) aNil)) (ii ns) [some (Fl.sh, .scr (ii ns)), none] = .ok ((ii ns).map absD) [some (Fl.sh, .scr (ii ns)), none] :=
    lcL_map absD fun d hd => by
      obtain ⟨i, _, rfl⟩ := List.mem_map.mp hd
      exact ⟨_, _, rfl, rfl, rfl, rfl⟩
  have e : (ii ns).map absD = ii (ns.map fun i => if i < 0 then -i else i) := by
    simp [ii, absD, List.map_map, Function.comp_def]
  have hz : (ii (ns.map fun i => if i < 0 then -i else i)).length ≤ sizeLine := by
    rw [ii_length, List.length_map]
    exact Nat.le_trans h (by decide)
  have h4 : 4 ≤ sizeLine := by decide
  refine ⟨ns.map fun i => if i < 0 then -i else i, ?_, ⟨by decide, by decide, by decide, fun c hc => ?_⟩⟩
  · simp only [m_law_bag, g_law_bag, ↓noX, ↓fnOf, initE, List.replicate, List.length_cons, List.length_nil, List.cons_append, List.nil_append, Nat.sub_self, Nat.reduceSub, Nat.reduceAdd, ↓sSeq, ↓sIf_eq, ↓sSet, ↓sRet, ↓sRetN, ↓sExpr, ↓sNil, ↓sNever, ↓sFor, ↓sAsg, ↓sFldS, ↓sAugIx, ↓sSetIx, ↓putIx, ↓sPar2, ↓sPar3, ↓M.then, ↓bind_eq, ↓M.ret, ↓M.bad, ↓M.get, ↓M.esc, ↓M.arg, ↓M.nrm, ↓M.res, ↓M.wipe, look, getE, ↓put, isMu_eq, muB_none, muB_sh, muB_ow, muB_mu, ↓eVar, ↓eC, ↓eOp1, ↓eOp2, ↓eBool_eq, ↓eAnd_eq, ↓eOr_eq, ↓eNot, ↓eAndV_eq, ↓eOrV_eq, ↓eNotV_eq, ↓eIf_eq, ↓eChain, ↓aNil, ↓aCons, ↓lCons, ↓kCons, ↓sCons, ↓eTup_eq, ↓eLst_eq, ↓eLc_eq, ↓eYes, ↓iSeq_eq, ↓Cw.iEnum, ↓iRng1D_eq, ↓iRng2D, ↓eLRg, ↓eTRg, ↓rg1_eq, ↓rg2, ↓eSl, ↓oNone, ↓oSome_eq, ↓eCallB, ↓getAll, ↓eCall, ↓callM, gather, scatter, muI, toRV, ↓eMake, ↓makeM, ↓eMeth_eq, ↓eFld_eq, ↓eMut_eq, finR, muOf, List.set, ↓gN, ↓fstep, ↓gT, ↓gsCons, ↓gsNil, noMu, wipeE, List.all_cons, List.all_nil, Bool.and_true, Bool.true_and, Bool.not_false, Bool.not_true, if_true, if_false, ite_true, ite_false, Bool.false_eq_true, reduceIte, reduceCtorEq, List.nodup_cons, List.nodup_nil, List.not_mem_nil, not_false_eq_true, and_self, and_true, true_and, List.mem_cons, List.mem_singleton, or_false, decide_true, decide_false, List.getElem?_cons_zero, List.getElem?_cons_succ, dEq_int, dNe_int, dEq_str, dCmp_int, dAdd_int, dSub_int, dInt_int, dAbs_int, dLen_lst, dLen_tup, dList_lst, dList_tup, dTuple_lst, dTuple_tup, dSl, cut63 (ii ns) (by rw [ii_length]; exact h), ↓hl, e, hz, bagD, h4]
  · obtain ⟨i, _, rfl⟩ := List.mem_map.mp hc
    split <;> omega
theorem one_ok {x y z : Int} {cs : List Int} {xs : List D} (h : BagOk x y z cs) (hx : 0 < xs.length) (hx2 : xs.length < 1073741824) :
    ∃ d x' y' z', m_law_one_tt a [bagD x y z cs, .lst xs] = .ok (false, d) [bagD x' y' z' cs, .lst xs] ∧ d ∈ xs ∧ BagOk x' y' z' cs := by
  obtain ⟨v, x', y', z', ht, h0, h1, hb⟩ := take_ok a h (many := (xs.length : Int)) (by omega) (by omega)
  obtain ⟨k, rfl⟩ := Int.eq_ofNat_of_zero_le h0
  have hk : k < xs.length := by omega
  have hix := dIx_lst (List.getElem?_eq_getElem hk)
  refine ⟨xs[k], x', y', z', ?_, List.getElem_mem hk, hb⟩
  simp only [m_law_one_tt, g_law_one_tt, ↓noX, ↓fnOf, initE, List.replicate, List.length_cons, List.length_nil, List.cons_append, List.nil_append, Nat.sub_self, Nat.reduceSub, Nat.reduceAdd, ↓sSeq, ↓sIf_eq, ↓sSet, ↓sRet, ↓sRetN, ↓sExpr, ↓sNil, ↓sNever, ↓sFor, ↓sAsg, ↓sFldS, ↓sAugIx, ↓sSetIx, ↓putIx, ↓sPar2, ↓sPar3, ↓M.then, ↓bind_eq, ↓M.ret, ↓M.bad, ↓M.get, ↓M.esc, ↓M.arg, ↓M.nrm, ↓M.res, ↓M.wipe, look, getE, ↓put, isMu_eq, muB_none, muB_sh, muB_ow, muB_mu, ↓eVar, ↓eC, ↓eOp1, ↓eOp2, ↓eBool_eq, ↓eAnd_eq, ↓eOr_eq, ↓eNot, ↓eAndV_eq, ↓eOrV_eq, ↓eNotV_eq, ↓eIf_eq, ↓eChain, ↓aNil, ↓aCons, ↓lCons, ↓kCons, ↓sCons, ↓eTup_eq, ↓eLst_eq, ↓eLc_eq, ↓eYes, ↓iSeq_eq, ↓Cw.iEnum, ↓iRng1D_eq, ↓iRng2D, ↓eLRg, ↓eTRg, ↓rg1_eq, ↓rg2, ↓eSl, ↓oNone, ↓oSome_eq, ↓eCallB, ↓getAll, ↓eCall, ↓callM, gather, scatter, muI, toRV, ↓eMake, ↓makeM, ↓eMeth_eq, ↓eFld_eq, ↓eMut_eq, finR, muOf, List.set, ↓gN, ↓fstep, ↓gT, ↓gsCons, ↓gsNil, noMu, wipeE, List.all_cons, List.all_nil, Bool.and_true, Bool.true_and, Bool.not_false, Bool.not_true, if_true, if_false, ite_true, ite_false, Bool.false_eq_true, reduceIte, reduceCtorEq, List.nodup_cons, List.nodup_nil, List.not_mem_nil, not_false_eq_true, and_self, and_true, true_and, List.mem_cons, List.mem_singleton, or_false, decide_true, decide_false, List.getElem?_cons_zero, List.getElem?_cons_succ, dEq_int, dNe_int, dEq_str, dCmp_int, dAdd_int, dSub_int, dInt_int, dAbs_int, dLen_lst, dLen_tup, dList_lst, dList_tup, dTuple_lst, dTuple_tup, ht, hix]
theorem some_lst {x y z : Int} {cs : List Int} {xs : List D} (h : BagOk x y z cs) (hz : xs.length ≤ sizeLine) :
    ∃ ys x' y' z', m_law_some a [bagD x y z cs, .lst xs] = .ok (true, .lst ys) [bagD x' y' z' cs] ∧ ys.Sublist xs ∧ BagOk x' y' z' cs := by
  obtain ⟨ys, e', h1, ⟨x', y', z', h2, rfl⟩, h3⟩ := lcL_some (vs := [2]) (a := gN 2) (tt := eBool (eOp2 (dEq false) (eCall [true, false] (m_law_take a) (kCons (eVar 0) (sCons (eC (.int 2)) aNil))) (eC (.int 1)))) (te := eVar 2)
    (fun e => ∃ x y z, BagOk x y z cs ∧ e = [some (Fl.mu, bagD x y z cs), some (Fl.sh, .lst xs), none]) (ds := xs) (e := [some (Fl.mu, bagD x y z cs), some (Fl.sh, .lst xs), none]) ⟨x, y, z, h, rfl⟩ (by
      rintro d e hd ⟨x, y, z, h, rfl⟩
      obtain ⟨v, x', y', z', ht, h0, h1, hb⟩ := take_ok a h (many := 2) (by decide) (by decide)
      refine ⟨_, decide (v = 1), _, rfl, by simp only [↓noX, ↓fnOf, initE, List.replicate, List.length_cons, List.length_nil, List.cons_append, List.nil_append, Nat.sub_self, Nat.reduceSub, Nat.reduceAdd, ↓sSeq, ↓sIf_eq, ↓sSet, ↓sRet, ↓sRetN, ↓sExpr, ↓sNil, ↓sNever, ↓sFor, ↓sAsg, ↓sFldS, ↓sAugIx, ↓sSetIx, ↓putIx, ↓sPar2, ↓sPar3, ↓M.then, ↓bind_eq, ↓M.ret, ↓M.bad, ↓M.get, ↓M.esc, ↓M.arg, ↓M.nrm, ↓M.res, ↓M.wipe, look, getE, ↓put, isMu_eq, muB_none, muB_sh, muB_ow, muB_mu, ↓eVar, ↓eC, ↓eOp1, ↓eOp2, ↓eBool_eq, ↓eAnd_eq, ↓eOr_eq, ↓eNot, ↓eAndV_eq, ↓eOrV_eq, ↓eNotV_eq, ↓eIf_eq, ↓eChain, ↓aNil, ↓aCons, ↓lCons, ↓kCons, ↓sCons, ↓eTup_eq, ↓eLst_eq, ↓eLc_eq, ↓eYes, ↓iSeq_eq, ↓Cw.iEnum, ↓iRng1D_eq, ↓iRng2D, ↓eLRg, ↓eTRg, ↓rg1_eq, ↓rg2, ↓eSl, ↓oNone, ↓oSome_eq, ↓eCallB, ↓getAll, ↓eCall, ↓callM, gather, scatter, muI, toRV, ↓eMake, ↓makeM, ↓eMeth_eq, ↓eFld_eq, ↓eMut_eq, finR, muOf, List.set, ↓gN, ↓fstep, ↓gT, ↓gsCons, ↓gsNil, noMu, wipeE, List.all_cons, List.all_nil, Bool.and_true, Bool.true_and, Bool.not_false, Bool.not_true, if_true, if_false, ite_true, ite_false, Bool.false_eq_true, reduceIte, reduceCtorEq, List.nodup_cons, List.nodup_nil, List.not_mem_nil, not_false_eq_true, and_self, and_true, true_and, List.mem_cons, List.mem_singleton, or_false, decide_true, decide_false, List.getElem?_cons_zero, List.getElem?_cons_succ, dEq_int, dNe_int, dEq_str, dCmp_int, dAdd_int, dSub_int, dInt_int, dAbs_int, dLen_lst, dLen_tup, dList_lst, dList_tup, dTuple_lst, dTuple_tup, ht]; rfl, fun _ => ⟨rfl, x', y', z', hb, rfl⟩, fun _ => ⟨_, rfl, rfl, x', y', z', hb, rfl⟩⟩)
  refine ⟨ys, x', y', z', ?_, h3, h2⟩
  have hy : ys.length ≤ sizeLine := Nat.le_trans h3.length_le hz
  simp only [m_law_some, g_law_some, ↓noX, ↓fnOf, initE, List.replicate, List.length_cons, List.length_nil, List.cons_append, List.nil_append, Nat.sub_self, Nat.reduceSub, Nat.reduceAdd, ↓sSeq, ↓sIf_eq, ↓sSet, ↓sRet, ↓sRetN, ↓sExpr, ↓sNil, ↓sNever, ↓sFor, ↓sAsg, ↓sFldS, ↓sAugIx, ↓sSetIx, ↓putIx, ↓sPar2, ↓sPar3, ↓M.then, ↓bind_eq, ↓M.ret, ↓M.bad, ↓M.get, ↓M.esc, ↓M.arg, ↓M.nrm, ↓M.res, ↓M.wipe, look, getE, ↓put, isMu_eq, muB_none, muB_sh, muB_ow, muB_mu, ↓eVar, ↓eC, ↓eOp1, ↓eOp2, ↓eBool_eq, ↓eAnd_eq, ↓eOr_eq, ↓eNot, ↓eAndV_eq, ↓eOrV_eq, ↓eNotV_eq, ↓eIf_eq, ↓eChain, ↓aNil, ↓aCons, ↓lCons, ↓kCons, ↓sCons, ↓eTup_eq, ↓eLst_eq, ↓eLc_eq, ↓eYes, ↓iSeq_eq, ↓Cw.iEnum, ↓iRng1D_eq, ↓iRng2D, ↓eLRg, ↓eTRg, ↓rg1_eq, ↓rg2, ↓eSl, ↓oNone, ↓oSome_eq, ↓eCallB, ↓getAll, ↓eCall, ↓callM, gather, scatter, muI, toRV, ↓eMake, ↓makeM, ↓eMeth_eq, ↓eFld_eq, ↓eMut_eq, finR, muOf, List.set, ↓gN, ↓fstep, ↓gT, ↓gsCons, ↓gsNil, noMu, wipeE, List.all_cons, List.all_nil, Bool.and_true, Bool.true_and, Bool.not_false, Bool.not_true, if_true, if_false, ite_true, ite_false, Bool.false_eq_true, reduceIte, reduceCtorEq, List.nodup_cons, List.nodup_nil, List.not_mem_nil, not_false_eq_true, and_self, and_true, true_and, List.mem_cons, List.mem_singleton, or_false, decide_true, decide_false, List.getElem?_cons_zero, List.getElem?_cons_succ, dEq_int, dNe_int, dEq_str, dCmp_int, dAdd_int, dSub_int, dInt_int, dAbs_int, dLen_lst, dLen_tup, dList_lst, dList_tup, dTuple_lst, dTuple_tup, ↓h1, hy]
end K15

namespace K15
open PySem L2 Cw
variable (a : Nat → Addr)
theorem job_ok {x y z : Int} {cs : List Int} {n : Nat} (h : BagOk x y z cs) (hn : n ≤ 7) :
    ∃ g x' y' z', m_law_job a [bagD x y z cs, .int (n : Int)] = .ok (false, .tup (ii g)) [bagD x' y' z' cs] ∧ Row n g ∧ BagOk x' y' z' cs := by
  obtain ⟨v, x1, y1, z1, t1, v0, v1, b1⟩ := take_ok a h (many := 6) (by decide) (by decide)
  have hr := rgOk_nat n (by omega)
  have hs : (ii (rg n)).length ≤ sizeLine := by rw [ii_length, rg_length]; exact Nat.le_trans hn (by decide)
  by_cases c1 : v = 0
  · refine ⟨rg n, x1, y1, z1, ?_, List.Sublist.refl _, b1⟩
    simp only [m_law_job, g_law_job, ↓noX, ↓fnOf, initE, List.replicate, List.length_cons, List.length_nil, List.cons_append, List.nil_append, Nat.sub_self, Nat.reduceSub, Nat.reduceAdd, ↓sSeq, ↓sIf_eq, ↓sSet, ↓sRet, ↓sRetN, ↓sExpr, ↓sNil, ↓sNever, ↓sFor, ↓sAsg, ↓sFldS, ↓sAugIx, ↓sSetIx, ↓putIx, ↓sPar2, ↓sPar3, ↓M.then, ↓bind_eq, ↓M.ret, ↓M.bad, ↓M.get, ↓M.esc, ↓M.arg, ↓M.nrm, ↓M.res, ↓M.wipe, look, getE, ↓put, isMu_eq, muB_none, muB_sh, muB_ow, muB_mu, ↓eVar, ↓eC, ↓eOp1, ↓eOp2, ↓eBool_eq, ↓eAnd_eq, ↓eOr_eq, ↓eNot, ↓eAndV_eq, ↓eOrV_eq, ↓eNotV_eq, ↓eIf_eq, ↓eChain, ↓aNil, ↓aCons, ↓lCons, ↓kCons, ↓sCons, ↓eTup_eq, ↓eLst_eq, ↓eLc_eq, ↓eYes, ↓iSeq_eq, ↓Cw.iEnum, ↓iRng1D_eq, ↓iRng2D, ↓eLRg, ↓eTRg, ↓rg1_eq, ↓rg2, ↓eSl, ↓oNone, ↓oSome_eq, ↓eCallB, ↓getAll, ↓eCall, ↓callM, gather, scatter, muI, toRV, ↓eMake, ↓makeM, ↓eMeth_eq, ↓eFld_eq, ↓eMut_eq, finR, muOf, List.set, ↓gN, ↓fstep, ↓gT, ↓gsCons, ↓gsNil, noMu, wipeE, List.all_cons, List.all_nil, Bool.and_true, Bool.true_and, Bool.not_false, Bool.not_true, if_true, if_false, ite_true, ite_false, Bool.false_eq_true, reduceIte, reduceCtorEq, List.nodup_cons, List.nodup_nil, List.not_mem_nil, not_false_eq_true, and_self, and_true, true_and, List.mem_cons, List.mem_singleton, or_false, decide_true, decide_false, List.getElem?_cons_zero, List.getElem?_cons_succ, dEq_int, dNe_int, dEq_str, dCmp_int, dAdd_int, dSub_int, dInt_int, dAbs_int, dLen_lst, dLen_tup, dList_lst, dList_tup, dTuple_lst, dTuple_tup, t1, c1, hr, rg_to, rangeD_rg]
  · obtain ⟨ys, x2, y2, z2, t2, s2, b2⟩ := some_lst a b1 hs
    obtain ⟨g, rfl, g2⟩ := sub_ii s2
    have hs2 : (ii g).length ≤ sizeLine := Nat.le_trans s2.length_le hs
    by_cases c2 : v < 3
    · obtain ⟨ys, x3, y3, z3, t3, s3, b3⟩ := some_lst a b2 hs2
      obtain ⟨g', rfl, g3⟩ := sub_ii s3
      refine ⟨g', x3, y3, z3, ?_, g3.trans g2, b3⟩
      simp only [m_law_job, g_law_job, ↓noX, ↓fnOf, initE, List.replicate, List.length_cons, List.length_nil, List.cons_append, List.nil_append, Nat.sub_self, Nat.reduceSub, Nat.reduceAdd, ↓sSeq, ↓sIf_eq, ↓sSet, ↓sRet, ↓sRetN, ↓sExpr, ↓sNil, ↓sNever, ↓sFor, ↓sAsg, ↓sFldS, ↓sAugIx, ↓sSetIx, ↓putIx, ↓sPar2, ↓sPar3, ↓M.then, ↓bind_eq, ↓M.ret, ↓M.bad, ↓M.get, ↓M.esc, ↓M.arg, ↓M.nrm, ↓M.res, ↓M.wipe, look, getE, ↓put, isMu_eq, muB_none, muB_sh, muB_ow, muB_mu, ↓eVar, ↓eC, ↓eOp1, ↓eOp2, ↓eBool_eq, ↓eAnd_eq, ↓eOr_eq, ↓eNot, ↓eAndV_eq, ↓eOrV_eq, ↓eNotV_eq, ↓eIf_eq, ↓eChain, ↓aNil, ↓aCons, ↓lCons, ↓kCons, ↓sCons, ↓eTup_eq, ↓eLst_eq, ↓eLc_eq, ↓eYes, ↓iSeq_eq, ↓Cw.iEnum, ↓iRng1D_eq, ↓iRng2D, ↓eLRg, ↓eTRg, ↓rg1_eq, ↓rg2, ↓eSl, ↓oNone, ↓oSome_eq, ↓eCallB, ↓getAll, ↓eCall, ↓callM, gather, scatter, muI, toRV, ↓eMake, ↓makeM, ↓eMeth_eq, ↓eFld_eq, ↓eMut_eq, finR, muOf, List.set, ↓gN, ↓fstep, ↓gT, ↓gsCons, ↓gsNil, noMu, wipeE, List.all_cons, List.all_nil, Bool.and_true, Bool.true_and, Bool.not_false, Bool.not_true, if_true, if_false, ite_true, ite_false, Bool.false_eq_true, reduceIte, reduceCtorEq, List.nodup_cons, List.nodup_nil, List.not_mem_nil, not_false_eq_true, and_self, and_true, true_and, List.mem_cons, List.mem_singleton, or_false, decide_true, decide_false, List.getElem?_cons_zero, List.getElem?_cons_succ, dEq_int, dNe_int, dEq_str, dCmp_int, dAdd_int, dSub_int, dInt_int, dAbs_int, dLen_lst, dLen_tup, dList_lst, dList_tup, dTuple_lst, dTuple_tup, t1, c1, hr, rg_to, rangeD_rg, t2, t3, c2]
    · refine ⟨g, x2, y2, z2, ?_, g2, b2⟩
      simp only [m_law_job, g_law_job, ↓noX, ↓fnOf, initE, List.replicate, List.length_cons, List.length_nil, List.cons_append, List.nil_append, Nat.sub_self, Nat.reduceSub, Nat.reduceAdd, ↓sSeq, ↓sIf_eq, ↓sSet, ↓sRet, ↓sRetN, ↓sExpr, ↓sNil, ↓sNever, ↓sFor, ↓sAsg, ↓sFldS, ↓sAugIx, ↓sSetIx, ↓putIx, ↓sPar2, ↓sPar3, ↓M.then, ↓bind_eq, ↓M.ret, ↓M.bad, ↓M.get, ↓M.esc, ↓M.arg, ↓M.nrm, ↓M.res, ↓M.wipe, look, getE, ↓put, isMu_eq, muB_none, muB_sh, muB_ow, muB_mu, ↓eVar, ↓eC, ↓eOp1, ↓eOp2, ↓eBool_eq, ↓eAnd_eq, ↓eOr_eq, ↓eNot, ↓eAndV_eq, ↓eOrV_eq, ↓eNotV_eq, ↓eIf_eq, ↓eChain, ↓aNil, ↓aCons, ↓lCons, ↓kCons, ↓sCons, ↓eTup_eq, ↓eLst_eq, ↓eLc_eq, ↓eYes, ↓iSeq_eq, ↓Cw.iEnum, ↓iRng1D_eq, ↓iRng2D, ↓eLRg, ↓eTRg, ↓rg1_eq, ↓rg2, ↓eSl, ↓oNone, ↓oSome_eq, ↓eCallB, ↓getAll, ↓eCall, ↓callM, gather, scatter, muI, toRV, ↓eMake, ↓makeM, ↓eMeth_eq, ↓eFld_eq, ↓eMut_eq, finR, muOf, List.set, ↓gN, ↓fstep, ↓gT, ↓gsCons, ↓gsNil, noMu, wipeE, List.all_cons, List.all_nil, Bool.and_true, Bool.true_and, Bool.not_false, Bool.not_true, if_true, if_false, ite_true, ite_false, Bool.false_eq_true, reduceIte, reduceCtorEq, List.nodup_cons, List.nodup_nil, List.not_mem_nil, not_false_eq_true, and_self, and_true, true_and, List.mem_cons, List.mem_singleton, or_false, decide_true, decide_false, List.getElem?_cons_zero, List.getElem?_cons_succ, dEq_int, dNe_int, dEq_str, dCmp_int, dAdd_int, dSub_int, dInt_int, dAbs_int, dLen_lst, dLen_tup, dList_lst, dList_tup, dTuple_lst, dTuple_tup, t1, c1, hr, rg_to, rangeD_rg, t2, c2]
theorem jobs_ok {x y z : Int} {cs : List Int} {n m : Nat} (h : BagOk x y z cs) (hn : n ≤ 7) (hm : m ≤ 7) :
    ∃ rs x' y' z', m_law_jobs a [bagD x y z cs, .int (n : Int), .int (m : Int)] = .ok (true, .lst (gs rs)) [bagD x' y' z' cs] ∧ rs.length ≤ m ∧ (∀ r, r ∈ rs → Row n r) ∧ BagOk x' y' z' cs := by
  obtain ⟨v, x1, y1, z1, t1, v0, v1, b1⟩ := take_ok a h (many := (m : Int) + 1) (by omega) (by omega)
  obtain ⟨k, rfl⟩ := Int.eq_ofNat_of_zero_le v0
  have hk : k ≤ m := by omega
  have body := forL_inv (a := gN 4) (b := (sIf (eAnd (eBool (eOp2 (dEq true) (eVar 3) (eLst aNil))) (eBool (eOp2 (dEq false) (eCall [true, false] (m_law_take a) (kCons (eVar 0) (sCons (eC (.int 5)) aNil))) (eC (.int 0))))) (sExpr (eMut 3 dApp (lCons (eCall [true, true] (m_law_one_tt a) (kCons (eVar 0) (kCons (eVar 3) aNil))) aNil))) (sExpr (eMut 3 dApp (lCons (eCall [true, false] (m_law_job a) (kCons (eVar 0) (sCons (eVar 1) aNil))) aNil)))))
    (fun done e => ∃ rs x y z o, BagOk x y z cs ∧ (∀ r, r ∈ rs → Row n r) ∧ rs.length = done.length ∧ muB o = false ∧ e = [some (Fl.mu, bagD x y z cs), some (Fl.sh, .int (n : Int)), some (Fl.sh, .int (m : Int)), some (Fl.ow, .lst (gs rs)), o])
    (ds := ii (rg k)) (done := []) (e := [some (Fl.mu, bagD x1 y1 z1 cs), some (Fl.sh, .int (n : Int)), some (Fl.sh, .int (m : Int)), some (Fl.ow, .lst []), none])
    ⟨[], x1, y1, z1, none, b1, fun _ q => absurd q List.not_mem_nil, rfl, rfl, rfl⟩ (by
      rintro d pre post e hsplit ⟨rs, x, y, z, o, hb, hrs, hl, ho, rfl⟩
      have hlen : pre.length < 7 := by
        have := congrArg List.length hsplit
        simp only [List.nil_append, List.length_append, List.length_cons, ii_length, rg_length] at this
        omega
      have hz0 : 0 ≤ sizeLine := Nat.zero_le _
      have hap : ∀ y, dApp (gs rs) [y] = some (gs rs ++ [y]) := fun y => dApp_one _ y (by rw [gs_length, hl]; exact Nat.lt_trans hlen (by decide))
      have hne := dNe_nil (rows_nice hrs (by omega)) (by decide)
      by_cases c1 : rs = []
      · subst c1
        obtain ⟨g, x3, y3, z3, t3, r3, b3⟩ := job_ok a hb hn
        refine ⟨_, [some (Fl.mu, bagD x3 y3 z3 cs), some (Fl.sh, .int (n : Int)), some (Fl.sh, .int (m : Int)), some (Fl.ow, .lst (gs [g])), some (Fl.sh, d)], by simp only [↓noX, ↓fnOf, initE, List.replicate, List.length_cons, List.length_nil, List.cons_append, List.nil_append, Nat.sub_self, Nat.reduceSub, Nat.reduceAdd, ↓sSeq, ↓sIf_eq, ↓sSet, ↓sRet, ↓sRetN, ↓sExpr, ↓sNil, ↓sNever, ↓sFor, ↓sAsg, ↓sFldS, ↓sAugIx, ↓sSetIx, ↓putIx, ↓sPar2, ↓sPar3, ↓M.then, ↓bind_eq, ↓M.ret, ↓M.bad, ↓M.get, ↓M.esc, ↓M.arg, ↓M.nrm, ↓M.res, ↓M.wipe, look, getE, ↓put, isMu_eq, muB_none, muB_sh, muB_ow, muB_mu, ↓eVar, ↓eC, ↓eOp1, ↓eOp2, ↓eBool_eq, ↓eAnd_eq, ↓eOr_eq, ↓eNot, ↓eAndV_eq, ↓eOrV_eq, ↓eNotV_eq, ↓eIf_eq, ↓eChain, ↓aNil, ↓aCons, ↓lCons, ↓kCons, ↓sCons, ↓eTup_eq, ↓eLst_eq, ↓eLc_eq, ↓eYes, ↓iSeq_eq, ↓Cw.iEnum, ↓iRng1D_eq, ↓iRng2D, ↓eLRg, ↓eTRg, ↓rg1_eq, ↓rg2, ↓eSl, ↓oNone, ↓oSome_eq, ↓eCallB, ↓getAll, ↓eCall, ↓callM, gather, scatter, muI, toRV, ↓eMake, ↓makeM, ↓eMeth_eq, ↓eFld_eq, ↓eMut_eq, finR, muOf, List.set, ↓gN, ↓fstep, ↓gT, ↓gsCons, ↓gsNil, noMu, wipeE, List.all_cons, List.all_nil, Bool.and_true, Bool.true_and, Bool.not_false, Bool.not_true, if_true, if_false, ite_true, ite_false, Bool.false_eq_true, reduceIte, reduceCtorEq, List.nodup_cons, List.nodup_nil, List.not_mem_nil, not_false_eq_true, and_self, and_true, true_and, List.mem_cons, List.mem_singleton, or_false, decide_true, decide_false, List.getElem?_cons_zero, List.getElem?_cons_succ, dEq_int, dNe_int, dEq_str, dCmp_int, dAdd_int, dSub_int, dInt_int, dAbs_int, dLen_lst, dLen_tup, dList_lst, dList_tup, dTuple_lst, dTuple_tup, ho]; rfl, .inl ?_, [g], x3, y3, z3, some (Fl.sh, d), b3, by simpa using r3, by rw [List.length_append, ← hl]; rfl, rfl, rfl⟩
        have hap := hap (.tup (ii g))
        have e1 : (gs ([] : List (List Int))).isEmpty = true := rfl
        simp only [↓noX, ↓fnOf, initE, List.replicate, List.length_cons, List.length_nil, List.cons_append, List.nil_append, Nat.sub_self, Nat.reduceSub, Nat.reduceAdd, ↓sSeq, ↓sIf_eq, ↓sSet, ↓sRet, ↓sRetN, ↓sExpr, ↓sNil, ↓sNever, ↓sFor, ↓sAsg, ↓sFldS, ↓sAugIx, ↓sSetIx, ↓putIx, ↓sPar2, ↓sPar3, ↓M.then, ↓bind_eq, ↓M.ret, ↓M.bad, ↓M.get, ↓M.esc, ↓M.arg, ↓M.nrm, ↓M.res, ↓M.wipe, look, getE, ↓put, isMu_eq, muB_none, muB_sh, muB_ow, muB_mu, ↓eVar, ↓eC, ↓eOp1, ↓eOp2, ↓eBool_eq, ↓eAnd_eq, ↓eOr_eq, ↓eNot, ↓eAndV_eq, ↓eOrV_eq, ↓eNotV_eq, ↓eIf_eq, ↓eChain, ↓aNil, ↓aCons, ↓lCons, ↓kCons, ↓sCons, ↓eTup_eq, ↓eLst_eq, ↓eLc_eq, ↓eYes, ↓iSeq_eq, ↓Cw.iEnum, ↓iRng1D_eq, ↓iRng2D, ↓eLRg, ↓eTRg, ↓rg1_eq, ↓rg2, ↓eSl, ↓oNone, ↓oSome_eq, ↓eCallB, ↓getAll, ↓eCall, ↓callM, gather, scatter, muI, toRV, ↓eMake, ↓makeM, ↓eMeth_eq, ↓eFld_eq, ↓eMut_eq, finR, muOf, List.set, ↓gN, ↓fstep, ↓gT, ↓gsCons, ↓gsNil, noMu, wipeE, List.all_cons, List.all_nil, Bool.and_true, Bool.true_and, Bool.not_false, Bool.not_true, if_true, if_false, ite_true, ite_false, Bool.false_eq_true, reduceIte, reduceCtorEq, List.nodup_cons, List.nodup_nil, List.not_mem_nil, not_false_eq_true, and_self, and_true, true_and, List.mem_cons, List.mem_singleton, or_false, decide_true, decide_false, List.getElem?_cons_zero, List.getElem?_cons_succ, dEq_int, dNe_int, dEq_str, dCmp_int, dAdd_int, dSub_int, dInt_int, dAbs_int, dLen_lst, dLen_tup, dList_lst, dList_tup, dTuple_lst, dTuple_tup, hne, e1, t3, hap, hz0]
        rfl
      · have hpos : 0 < (gs rs).length := by rw [gs_length]; exact List.length_pos_iff.mpr c1
        have hem : (gs rs).isEmpty = false := by
          cases rs with
          | nil => exact absurd rfl c1
          | cons _ _ => rfl
        obtain ⟨v, x2, y2, z2, t2, w0, w1, b2⟩ := take_ok a hb (many := 5) (by decide) (by decide)
        by_cases c2 : v = 0
        · obtain ⟨d2, x3, y3, z3, t3, m3, b3⟩ := one_ok a (xs := gs rs) b2 hpos (by rw [gs_length, hl]; omega)
          obtain ⟨g, hg, rfl⟩ := List.mem_map.mp m3
          refine ⟨_, [some (Fl.mu, bagD x3 y3 z3 cs), some (Fl.sh, .int (n : Int)), some (Fl.sh, .int (m : Int)), some (Fl.ow, .lst (gs rs ++ [.tup (ii g)])), some (Fl.sh, d)], by simp only [↓noX, ↓fnOf, initE, List.replicate, List.length_cons, List.length_nil, List.cons_append, List.nil_append, Nat.sub_self, Nat.reduceSub, Nat.reduceAdd, ↓sSeq, ↓sIf_eq, ↓sSet, ↓sRet, ↓sRetN, ↓sExpr, ↓sNil, ↓sNever, ↓sFor, ↓sAsg, ↓sFldS, ↓sAugIx, ↓sSetIx, ↓putIx, ↓sPar2, ↓sPar3, ↓M.then, ↓bind_eq, ↓M.ret, ↓M.bad, ↓M.get, ↓M.esc, ↓M.arg, ↓M.nrm, ↓M.res, ↓M.wipe, look, getE, ↓put, isMu_eq, muB_none, muB_sh, muB_ow, muB_mu, ↓eVar, ↓eC, ↓eOp1, ↓eOp2, ↓eBool_eq, ↓eAnd_eq, ↓eOr_eq, ↓eNot, ↓eAndV_eq, ↓eOrV_eq, ↓eNotV_eq, ↓eIf_eq, ↓eChain, ↓aNil, ↓aCons, ↓lCons, ↓kCons, ↓sCons, ↓eTup_eq, ↓eLst_eq, ↓eLc_eq, ↓eYes, ↓iSeq_eq, ↓Cw.iEnum, ↓iRng1D_eq, ↓iRng2D, ↓eLRg, ↓eTRg, ↓rg1_eq, ↓rg2, ↓eSl, ↓oNone, ↓oSome_eq, ↓eCallB, ↓getAll, ↓eCall, ↓callM, gather, scatter, muI, toRV, ↓eMake, ↓makeM, ↓eMeth_eq, ↓eFld_eq, ↓eMut_eq, finR, muOf, List.set, ↓gN, ↓fstep, ↓gT, ↓gsCons, ↓gsNil, noMu, wipeE, List.all_cons, List.all_nil, Bool.and_true, Bool.true_and, Bool.not_false, Bool.not_true, if_true, if_false, ite_true, ite_false, Bool.false_eq_true, reduceIte, reduceCtorEq, List.nodup_cons, List.nodup_nil, List.not_mem_nil, not_false_eq_true, and_self, and_true, true_and, List.mem_cons, List.mem_singleton, or_false, decide_true, decide_false, List.getElem?_cons_zero, List.getElem?_cons_succ, dEq_int, dNe_int, dEq_str, dCmp_int, dAdd_int, dSub_int, dInt_int, dAbs_int, dLen_lst, dLen_tup, dList_lst, dList_tup, dTuple_lst, dTuple_tup, ho]; rfl, .inl ?_, rs ++ [g], x3, y3, z3, some (Fl.sh, d), b3, ?_, by simp [hl], rfl, by simp [gs]⟩
          · have hap := hap (.tup (ii g))
            simp only [↓noX, ↓fnOf, initE, List.replicate, List.length_cons, List.length_nil, List.cons_append, List.nil_append, Nat.sub_self, Nat.reduceSub, Nat.reduceAdd, ↓sSeq, ↓sIf_eq, ↓sSet, ↓sRet, ↓sRetN, ↓sExpr, ↓sNil, ↓sNever, ↓sFor, ↓sAsg, ↓sFldS, ↓sAugIx, ↓sSetIx, ↓putIx, ↓sPar2, ↓sPar3, ↓M.then, ↓bind_eq, ↓M.ret, ↓M.bad, ↓M.get, ↓M.esc, ↓M.arg, ↓M.nrm, ↓M.res, ↓M.wipe, look, getE, ↓put, isMu_eq, muB_none, muB_sh, muB_ow, muB_mu, ↓eVar, ↓eC, ↓eOp1, ↓eOp2, ↓eBool_eq, ↓eAnd_eq, ↓eOr_eq, ↓eNot, ↓eAndV_eq, ↓eOrV_eq, ↓eNotV_eq, ↓eIf_eq, ↓eChain, ↓aNil, ↓aCons, ↓lCons, ↓kCons, ↓sCons, ↓eTup_eq, ↓eLst_eq, ↓eLc_eq, ↓eYes, ↓iSeq_eq, ↓Cw.iEnum, ↓iRng1D_eq, ↓iRng2D, ↓eLRg, ↓eTRg, ↓rg1_eq, ↓rg2, ↓eSl, ↓oNone, ↓oSome_eq, ↓eCallB, ↓getAll, ↓eCall, ↓callM, gather, scatter, muI, toRV, ↓eMake, ↓makeM, ↓eMeth_eq, ↓eFld_eq, ↓eMut_eq, finR, muOf, List.set, ↓gN, ↓fstep, ↓gT, ↓gsCons, ↓gsNil, noMu, wipeE, List.all_cons, List.all_nil, Bool.and_true, Bool.true_and, Bool.not_false, Bool.not_true, if_true, if_false, ite_true, ite_false, Bool.false_eq_true, reduceIte, reduceCtorEq, List.nodup_cons, List.nodup_nil, List.not_mem_nil, not_false_eq_true, and_self, and_true, true_and, List.mem_cons, List.mem_singleton, or_false, decide_true, decide_false, List.getElem?_cons_zero, List.getElem?_cons_succ, dEq_int, dNe_int, dEq_str, dCmp_int, dAdd_int, dSub_int, dInt_int, dAbs_int, dLen_lst, dLen_tup, dList_lst, dList_tup, dTuple_lst, dTuple_tup, hne, hem, t2, t3, c2, hap, hz0]
          · intro r hr
            rcases List.mem_append.mp hr with q | q
            · exact hrs r q
            · rw [List.mem_singleton.mp q]; exact hrs g hg
        · obtain ⟨g, x3, y3, z3, t3, r3, b3⟩ := job_ok a b2 hn
          refine ⟨_, [some (Fl.mu, bagD x3 y3 z3 cs), some (Fl.sh, .int (n : Int)), some (Fl.sh, .int (m : Int)), some (Fl.ow, .lst (gs rs ++ [.tup (ii g)])), some (Fl.sh, d)], by simp only [↓noX, ↓fnOf, initE, List.replicate, List.length_cons, List.length_nil, List.cons_append, List.nil_append, Nat.sub_self, Nat.reduceSub, Nat.reduceAdd, ↓sSeq, ↓sIf_eq, ↓sSet, ↓sRet, ↓sRetN, ↓sExpr, ↓sNil, ↓sNever, ↓sFor, ↓sAsg, ↓sFldS, ↓sAugIx, ↓sSetIx, ↓putIx, ↓sPar2, ↓sPar3, ↓M.then, ↓bind_eq, ↓M.ret, ↓M.bad, ↓M.get, ↓M.esc, ↓M.arg, ↓M.nrm, ↓M.res, ↓M.wipe, look, getE, ↓put, isMu_eq, muB_none, muB_sh, muB_ow, muB_mu, ↓eVar, ↓eC, ↓eOp1, ↓eOp2, ↓eBool_eq, ↓eAnd_eq, ↓eOr_eq, ↓eNot, ↓eAndV_eq, ↓eOrV_eq, ↓eNotV_eq, ↓eIf_eq, ↓eChain, ↓aNil, ↓aCons, ↓lCons, ↓kCons, ↓sCons, ↓eTup_eq, ↓eLst_eq, ↓eLc_eq, ↓eYes, ↓iSeq_eq, ↓Cw.iEnum, ↓iRng1D_eq, ↓iRng2D, ↓eLRg, ↓eTRg, ↓rg1_eq, ↓rg2, ↓eSl, ↓oNone, ↓oSome_eq, ↓eCallB, ↓getAll, ↓eCall, ↓callM, gather, scatter, muI, toRV, ↓eMake, ↓makeM, ↓eMeth_eq, ↓eFld_eq, ↓eMut_eq, finR, muOf, List.set, ↓gN, ↓fstep, ↓gT, ↓gsCons, ↓gsNil, noMu, wipeE, List.all_cons, List.all_nil, Bool.and_true, Bool.true_and, Bool.not_false, Bool.not_true, if_true, if_false, ite_true, ite_false, Bool.false_eq_true, reduceIte, reduceCtorEq, List.nodup_cons, List.nodup_nil, List.not_mem_nil, not_false_eq_true, and_self, and_true, true_and, List.mem_cons, List.mem_singleton, or_false, decide_true, decide_false, List.getElem?_cons_zero, List.getElem?_cons_succ, dEq_int, dNe_int, dEq_str, dCmp_int, dAdd_int, dSub_int, dInt_int, dAbs_int, dLen_lst, dLen_tup, dList_lst, dList_tup, dTuple_lst, dTuple_tup, ho]; rfl, .inl ?_, rs ++ [g], x3, y3, z3, some (Fl.sh, d), b3, ?_, by simp [hl], rfl, by simp [gs]⟩
          · have hap := hap (.tup (ii g))
            simp only [↓noX, ↓fnOf, initE, List.replicate, List.length_cons, List.length_nil, List.cons_append, List.nil_append, Nat.sub_self, Nat.reduceSub, Nat.reduceAdd, ↓sSeq, ↓sIf_eq, ↓sSet, ↓sRet, ↓sRetN, ↓sExpr, ↓sNil, ↓sNever, ↓sFor, ↓sAsg, ↓sFldS, ↓sAugIx, ↓sSetIx, ↓putIx, ↓sPar2, ↓sPar3, ↓M.then, ↓bind_eq, ↓M.ret, ↓M.bad, ↓M.get, ↓M.esc, ↓M.arg, ↓M.nrm, ↓M.res, ↓M.wipe, look, getE, ↓put, isMu_eq, muB_none, muB_sh, muB_ow, muB_mu, ↓eVar, ↓eC, ↓eOp1, ↓eOp2, ↓eBool_eq, ↓eAnd_eq, ↓eOr_eq, ↓eNot, ↓eAndV_eq, ↓eOrV_eq, ↓eNotV_eq, ↓eIf_eq, ↓eChain, ↓aNil, ↓aCons, ↓lCons, ↓kCons, ↓sCons, ↓eTup_eq, ↓eLst_eq, ↓eLc_eq, ↓eYes, ↓iSeq_eq, ↓Cw.iEnum, ↓iRng1D_eq, ↓iRng2D, ↓eLRg, ↓eTRg, ↓rg1_eq, ↓rg2, ↓eSl, ↓oNone, ↓oSome_eq, ↓eCallB, ↓getAll, ↓eCall, ↓callM, gather, scatter, muI, toRV, ↓eMake, ↓makeM, ↓eMeth_eq, ↓eFld_eq, ↓eMut_eq, finR, muOf, List.set, ↓gN, ↓fstep, ↓gT, ↓gsCons, ↓gsNil, noMu, wipeE, List.all_cons, List.all_nil, Bool.and_true, Bool.true_and, Bool.not_false, Bool.not_true, if_true, if_false, ite_true, ite_false, Bool.false_eq_true, reduceIte, reduceCtorEq, List.nodup_cons, List.nodup_nil, List.not_mem_nil, not_false_eq_true, and_self, and_true, true_and, List.mem_cons, List.mem_singleton, or_false, decide_true, decide_false, List.getElem?_cons_zero, List.getElem?_cons_succ, dEq_int, dNe_int, dEq_str, dCmp_int, dAdd_int, dSub_int, dInt_int, dAbs_int, dLen_lst, dLen_tup, dList_lst, dList_tup, dTuple_lst, dTuple_tup, hne, hem, t2, t3, c2, hap, hz0]
          · intro r hr
            rcases List.mem_append.mp hr with q | q
            · exact hrs r q
            · rw [List.mem_singleton.mp q]; exact r3)
  obtain ⟨e', h1, rs, x2, y2, z2, o, b2, r2, l2, ho, rfl⟩ := body
  refine ⟨rs, x2, y2, z2, ?_, ?_, r2, b2⟩
  · have h62 := in62_nat k (by omega)
    have hz0 : 0 ≤ sizeLine := Nat.zero_le _
    simp only [m_law_jobs, g_law_jobs, ↓noX, ↓fnOf, initE, List.replicate, List.length_cons, List.length_nil, List.cons_append, List.nil_append, Nat.sub_self, Nat.reduceSub, Nat.reduceAdd, ↓sSeq, ↓sIf_eq, ↓sSet, ↓sRet, ↓sRetN, ↓sExpr, ↓sNil, ↓sNever, ↓sFor, ↓sAsg, ↓sFldS, ↓sAugIx, ↓sSetIx, ↓putIx, ↓sPar2, ↓sPar3, ↓M.then, ↓bind_eq, ↓M.ret, ↓M.bad, ↓M.get, ↓M.esc, ↓M.arg, ↓M.nrm, ↓M.res, ↓M.wipe, look, getE, ↓put, isMu_eq, muB_none, muB_sh, muB_ow, muB_mu, ↓eVar, ↓eC, ↓eOp1, ↓eOp2, ↓eBool_eq, ↓eAnd_eq, ↓eOr_eq, ↓eNot, ↓eAndV_eq, ↓eOrV_eq, ↓eNotV_eq, ↓eIf_eq, ↓eChain, ↓aNil, ↓aCons, ↓lCons, ↓kCons, ↓sCons, ↓eTup_eq, ↓eLst_eq, ↓eLc_eq, ↓eYes, ↓iSeq_eq, ↓Cw.iEnum, ↓iRng1D_eq, ↓iRng2D, ↓eLRg, ↓eTRg, ↓rg1_eq, ↓rg2, ↓eSl, ↓oNone, ↓oSome_eq, ↓eCallB, ↓getAll, ↓eCall, ↓callM, gather, scatter, muI, toRV, ↓eMake, ↓makeM, ↓eMeth_eq, ↓eFld_eq, ↓eMut_eq, finR, muOf, List.set, ↓gN, ↓fstep, ↓gT, ↓gsCons, ↓gsNil, noMu, wipeE, List.all_cons, List.all_nil, Bool.and_true, Bool.true_and, Bool.not_false, Bool.not_true, if_true, if_false, ite_true, ite_false, Bool.false_eq_true, reduceIte, reduceCtorEq, List.nodup_cons, List.nodup_nil, List.not_mem_nil, not_false_eq_true, and_self, and_true, true_and, List.mem_cons, List.mem_singleton, or_false, decide_true, decide_false, List.getElem?_cons_zero, List.getElem?_cons_succ, dEq_int, dNe_int, dEq_str, dCmp_int, dAdd_int, dSub_int, dInt_int, dAbs_int, dLen_lst, dLen_tup, dList_lst, dList_tup, dTuple_lst, dTuple_tup, t1, h62, Int.toNat_natCast, rangeD_rg, ↓h1, hz0]
  · rw [l2]; simp only [List.nil_append, ii_length, rg_length]; exact hk
end K15

namespace K15
open PySem L2 Cw
variable (a : Nat → Addr)
theorem blL_map : ∀ bs : List Bool, blL (bs.map D.bl) = some bs
  | [] => rfl
  | b :: bs => by
    show blL (D.bl b :: bs.map D.bl) = _
    unfold blL
    rw [blL_map bs]
theorem dAll_map (bs : List Bool) : dAll [.lst (bs.map D.bl)] = some (false, .bl (bs.all id)) := by
  unfold dAll
  simp only [blL_map]
theorem dAny_map (bs : List Bool) : dAny [.lst (bs.map D.bl)] = some (false, .bl (bs.any id)) := by
  unfold dAny
  simp only [blL_map]
theorem rg_sorted (n : Nat) : (rg n).Pairwise (· < ·) := by
  unfold rg
  rw [List.pairwise_map]
  exact List.Pairwise.imp (fun h => by omega) List.pairwise_lt_range
theorem Row.sorted {n : Nat} {g : List Int} (h : Row n g) : g.Pairwise (· < ·) := (rg_sorted n).sublist h
theorem enumD_mem {ds : List D} {d : D} (h : d ∈ enumD ds) : ∃ (k : Nat) (x : D), ds[k]? = some x ∧ d = .tup [.int (k : Int), x] := by
  obtain ⟨k, hk⟩ := List.mem_iff_getElem?.mp h
  obtain ⟨x, h1, h2⟩ := enumD_get hk
  exact ⟨k, x, h1, h2⟩
def bw (lo hi : Int) : D → D
  | .int i => .bl (decide (lo ≤ i ∧ i ≤ hi))
  | d => d
theorem is_group_row {n : Nat} {g : List Int} (h : Row n g) (hn : n ≤ 7) : m_is_group a [.int (n : Int), .tup (ii g)] = .ok (false, .bl true) [] := by
  have e0 : En := []
  have h1 : lcL [2] (gN 2) eYes (eCall [false, false, false] (m_is_between a) (sCons (eVar 2) (sCons (eC (.int 0)) (sCons (eOp2 dSub (eVar 0) (eC (.int 1))) aNil)))) (ii g) [some (Fl.sh, .int (n : Int)), some (Fl.sh, .tup (ii g)), none, none]
      = .ok ((ii g).map (bw 0 ((n : Int) - 1))) [some (Fl.sh, .int (n : Int)), some (Fl.sh, .tup (ii g)), none, none] := lcL_map _ fun d hd => by
    obtain ⟨i, _, rfl⟩ := List.mem_map.mp hd
    refine ⟨_, [some (Fl.sh, .int (n : Int)), some (Fl.sh, .tup (ii g)), some (Fl.sh, .int i), none], rfl, ?_, rfl, rfl⟩
    simp only [↓noX, ↓fnOf, initE, List.replicate, List.length_cons, List.length_nil, List.cons_append, List.nil_append, Nat.sub_self, Nat.reduceSub, Nat.reduceAdd, ↓sSeq, ↓sIf_eq, ↓sSet, ↓sRet, ↓sRetN, ↓sExpr, ↓sNil, ↓sNever, ↓sFor, ↓sAsg, ↓sFldS, ↓sAugIx, ↓sSetIx, ↓putIx, ↓sPar2, ↓sPar3, ↓M.then, ↓bind_eq, ↓M.ret, ↓M.bad, ↓M.get, ↓M.esc, ↓M.arg, ↓M.nrm, ↓M.res, ↓M.wipe, look, getE, ↓put, isMu_eq, muB_none, muB_sh, muB_ow, muB_mu, ↓eVar, ↓eC, ↓eOp1, ↓eOp2, ↓eBool_eq, ↓eAnd_eq, ↓eOr_eq, ↓eNot, ↓eAndV_eq, ↓eOrV_eq, ↓eNotV_eq, ↓eIf_eq, ↓eChain, ↓aNil, ↓aCons, ↓lCons, ↓kCons, ↓sCons, ↓eTup_eq, ↓eLst_eq, ↓eLc_eq, ↓eYes, ↓iSeq_eq, ↓Cw.iEnum, ↓iRng1D_eq, ↓iRng2D, ↓eLRg, ↓eTRg, ↓rg1_eq, ↓rg2, ↓eSl, ↓oNone, ↓oSome_eq, ↓eCallB, ↓getAll, ↓eCall, ↓callM, gather, scatter, muI, toRV, ↓eMake, ↓makeM, ↓eMeth_eq, ↓eFld_eq, ↓eMut_eq, finR, muOf, List.set, ↓gN, ↓fstep, ↓gT, ↓gsCons, ↓gsNil, noMu, wipeE, List.all_cons, List.all_nil, Bool.and_true, Bool.true_and, Bool.not_false, Bool.not_true, if_true, if_false, ite_true, ite_false, Bool.false_eq_true, reduceIte, reduceCtorEq, List.nodup_cons, List.nodup_nil, List.not_mem_nil, not_false_eq_true, and_self, and_true, true_and, List.mem_cons, List.mem_singleton, or_false, decide_true, decide_false, List.getElem?_cons_zero, List.getElem?_cons_succ, dEq_int, dNe_int, dEq_str, dCmp_int, dAdd_int, dSub_int, dInt_int, dAbs_int, dLen_lst, dLen_tup, dList_lst, dList_tup, dTuple_lst, dTuple_tup, is_between_int, bw]
  have e1 : (ii g).map (bw 0 ((n : Int) - 1)) = (g.map fun _ => true).map D.bl := by
    unfold ii
    rw [List.map_map, List.map_map]
    apply List.map_congr_left
    intro i hi
    have := h.lt hi
    show D.bl (decide (0 ≤ i ∧ i ≤ (n : Int) - 1)) = D.bl true
    rw [decide_eq_true ⟨this.1, by omega⟩]
  have hl : g.length ≤ 7 := Nat.le_trans h.len hn
  have hz : ((g.map fun _ => true).map D.bl).length ≤ sizeLine := by
    rw [List.length_map, List.length_map]
    exact Nat.le_trans hl (by decide)
  have a1 : (g.map fun _ => true).all id = true := by simp
  have h2 : lcL [3] (gN 3) eYes (eOp2 (dCmp fun i j => decide (i < j)) (eOp2 dIx (eVar 1) (eVar 3)) (eOp2 dIx (eVar 1) (eOp2 dAdd (eVar 3) (eC (.int 1))))) (ii (rg (g.length - 1))) [some (Fl.sh, .int (n : Int)), some (Fl.sh, .tup (ii g)), none, none]
      = .ok ((ii (rg (g.length - 1))).map fun _ => .bl true) [some (Fl.sh, .int (n : Int)), some (Fl.sh, .tup (ii g)), none, none] := lcL_map _ fun d hd => by
    obtain ⟨i, hi, rfl⟩ := List.mem_map.mp hd
    obtain ⟨i0, i1⟩ := mem_rg.mp hi
    obtain ⟨k, rfl⟩ := Int.eq_ofNat_of_zero_le i0
    have hk : k + 1 < g.length := by omega
    have q1 : dIx (.tup (ii g)) (.int (k : Int)) = some (false, .int g[k]) := dIx_tup (by
      unfold ii; rw [List.getElem?_map, List.getElem?_eq_getElem (by omega)]; rfl)
    have q2 : dIx (.tup (ii g)) (.int ((k : Int) + 1)) = some (false, .int g[k + 1]) := by
      have := dIx_tup (xs := ii g) (k := k + 1) (d := .int g[k + 1]) (by
        unfold ii; rw [List.getElem?_map, List.getElem?_eq_getElem hk]; rfl)
      simpa using this
    have lt : g[k] < g[k + 1] := (List.pairwise_iff_getElem.mp (Row.sorted h)) k (k + 1) (by omega) hk (by omega)
    refine ⟨_, [some (Fl.sh, .int (n : Int)), some (Fl.sh, .tup (ii g)), none, some (Fl.sh, .int (k : Int))], rfl, ?_, rfl, rfl⟩
    simp only [↓noX, ↓fnOf, initE, List.replicate, List.length_cons, List.length_nil, List.cons_append, List.nil_append, Nat.sub_self, Nat.reduceSub, Nat.reduceAdd, ↓sSeq, ↓sIf_eq, ↓sSet, ↓sRet, ↓sRetN, ↓sExpr, ↓sNil, ↓sNever, ↓sFor, ↓sAsg, ↓sFldS, ↓sAugIx, ↓sSetIx, ↓putIx, ↓sPar2, ↓sPar3, ↓M.then, ↓bind_eq, ↓M.ret, ↓M.bad, ↓M.get, ↓M.esc, ↓M.arg, ↓M.nrm, ↓M.res, ↓M.wipe, look, getE, ↓put, isMu_eq, muB_none, muB_sh, muB_ow, muB_mu, ↓eVar, ↓eC, ↓eOp1, ↓eOp2, ↓eBool_eq, ↓eAnd_eq, ↓eOr_eq, ↓eNot, ↓eAndV_eq, ↓eOrV_eq, ↓eNotV_eq, ↓eIf_eq, ↓eChain, ↓aNil, ↓aCons, ↓lCons, ↓kCons, ↓sCons, ↓eTup_eq, ↓eLst_eq, ↓eLc_eq, ↓eYes, ↓iSeq_eq, ↓Cw.iEnum, ↓iRng1D_eq, ↓iRng2D, ↓eLRg, ↓eTRg, ↓rg1_eq, ↓rg2, ↓eSl, ↓oNone, ↓oSome_eq, ↓eCallB, ↓getAll, ↓eCall, ↓callM, gather, scatter, muI, toRV, ↓eMake, ↓makeM, ↓eMeth_eq, ↓eFld_eq, ↓eMut_eq, finR, muOf, List.set, ↓gN, ↓fstep, ↓gT, ↓gsCons, ↓gsNil, noMu, wipeE, List.all_cons, List.all_nil, Bool.and_true, Bool.true_and, Bool.not_false, Bool.not_true, if_true, if_false, ite_true, ite_false, Bool.false_eq_true, reduceIte, reduceCtorEq, List.nodup_cons, List.nodup_nil, List.not_mem_nil, not_false_eq_true, and_self, and_true, true_and, List.mem_cons, List.mem_singleton, or_false, decide_true, decide_false, List.getElem?_cons_zero, List.getElem?_cons_succ, dEq_int, dNe_int, dEq_str, dCmp_int, dAdd_int, dSub_int, dInt_int, dAbs_int, dLen_lst, dLen_tup, dList_lst, dList_tup, dTuple_lst, dTuple_tup, q1, q2, lt]
  have e2 : ((ii (rg (g.length - 1))).map fun _ => D.bl true) = ((rg (g.length - 1)).map fun _ => true).map D.bl := by
    simp [ii, List.map_map, Function.comp_def]
  have hz2 : (((rg (g.length - 1)).map fun _ => true).map D.bl).length ≤ sizeLine := by
    rw [List.length_map, List.length_map, rg_length]
    exact Nat.le_trans (Nat.sub_le _ _) (Nat.le_trans hl (by decide))
  have a2 : ((rg (g.length - 1)).map fun _ => true).all id = true := by simp
  have h62 : in62 ((g.length : Int) - 1) = true := in62_iff.mpr ⟨by omega, by omega⟩
  have et : ((g.length : Int) - 1).toNat = g.length - 1 := by omega
  simp only [m_is_group, g_is_group, ↓noX, ↓fnOf, initE, List.replicate, List.length_cons, List.length_nil, List.cons_append, List.nil_append, Nat.sub_self, Nat.reduceSub, Nat.reduceAdd, ↓sSeq, ↓sIf_eq, ↓sSet, ↓sRet, ↓sRetN, ↓sExpr, ↓sNil, ↓sNever, ↓sFor, ↓sAsg, ↓sFldS, ↓sAugIx, ↓sSetIx, ↓putIx, ↓sPar2, ↓sPar3, ↓M.then, ↓bind_eq, ↓M.ret, ↓M.bad, ↓M.get, ↓M.esc, ↓M.arg, ↓M.nrm, ↓M.res, ↓M.wipe, look, getE, ↓put, isMu_eq, muB_none, muB_sh, muB_ow, muB_mu, ↓eVar, ↓eC, ↓eOp1, ↓eOp2, ↓eBool_eq, ↓eAnd_eq, ↓eOr_eq, ↓eNot, ↓eAndV_eq, ↓eOrV_eq, ↓eNotV_eq, ↓eIf_eq, ↓eChain, ↓aNil, ↓aCons, ↓lCons, ↓kCons, ↓sCons, ↓eTup_eq, ↓eLst_eq, ↓eLc_eq, ↓eYes, ↓iSeq_eq, ↓Cw.iEnum, ↓iRng1D_eq, ↓iRng2D, ↓eLRg, ↓eTRg, ↓rg1_eq, ↓rg2, ↓eSl, ↓oNone, ↓oSome_eq, ↓eCallB, ↓getAll, ↓eCall, ↓callM, gather, scatter, muI, toRV, ↓eMake, ↓makeM, ↓eMeth_eq, ↓eFld_eq, ↓eMut_eq, finR, muOf, List.set, ↓gN, ↓fstep, ↓gT, ↓gsCons, ↓gsNil, noMu, wipeE, List.all_cons, List.all_nil, Bool.and_true, Bool.true_and, Bool.not_false, Bool.not_true, if_true, if_false, ite_true, ite_false, Bool.false_eq_true, reduceIte, reduceCtorEq, List.nodup_cons, List.nodup_nil, List.not_mem_nil, not_false_eq_true, and_self, and_true, true_and, List.mem_cons, List.mem_singleton, or_false, decide_true, decide_false, List.getElem?_cons_zero, List.getElem?_cons_succ, dEq_int, dNe_int, dEq_str, dCmp_int, dAdd_int, dSub_int, dInt_int, dAbs_int, dLen_lst, dLen_tup, dList_lst, dList_tup, dTuple_lst, dTuple_tup, isi_tt, ↓h1, e1, hz, dAll_map, a1, ii_length, h62, et, rangeD_rg, ↓h2, e2, hz2, a2]
end K15

namespace K15
open PySem L2 Cw
variable (a : Nat → Addr)
def job (n : Nat) (rs : List (List Int)) : D := .ins (a 12) [("size", .int (n : Int)), ("jobs", .tup (gs rs))]
theorem sj : ¬ (("size" : Str) = "jobs") := by decide +kernel
theorem js : (("jobs" : Str) == "size") = false := by decide +kernel
theorem ss : (("size" : Str) == "size") = true := by decide +kernel
theorem jj : (("jobs" : Str) == "jobs") = true := by decide +kernel
theorem fld_size (n : Nat) (rs : List (List Int)) : List.lookup ("size" : Str) [(("size" : Str), D.int (n : Int)), ("jobs", .tup (gs rs))] = some (.int (n : Int)) := by
  simp only [List.lookup, ss]
theorem fld_jobs (n : Nat) (rs : List (List Int)) : List.lookup ("jobs" : Str) [(("size" : Str), D.int (n : Int)), ("jobs", .tup (gs rs))] = some (.tup (gs rs)) := by
  simp only [List.lookup, js, jj]
theorem init_ok {n : Nat} {rs : List (List Int)} (hn : n ≤ 7) (hl : rs.length ≤ 7) (h : ∀ r, r ∈ rs → Row n r) : m_Jobs_UinitU a [.ins (a 12) [], .int (n : Int), .lst (gs rs)] = .ok (false, .non) [job a n rs] := by
  have body := forS_all (a := gT 2 (gsCons (gN 3) (gsCons (gN 4) gsNil))) (b := sIf (eNot (eBool (eCall [false, false] (m_is_group a) (sCons (eVar 1) (sCons (eVar 4) aNil))))) sNever sNil)
    (fun e => ∃ o o', muB o = false ∧ muB o' = false ∧ e = [some (Fl.mu, .ins (a 12) []), some (Fl.sh, .int (n : Int)), some (Fl.sh, .lst (gs rs)), o, o']) (ds := enumD (gs rs))
    (e := [some (Fl.mu, .ins (a 12) []), some (Fl.sh, .int (n : Int)), some (Fl.sh, .lst (gs rs)), none, none]) ⟨none, none, rfl, rfl, rfl⟩ (by
      rintro d e hd ⟨o, o', ho, ho', rfl⟩
      obtain ⟨k, x, hx, rfl⟩ := enumD_mem hd
      obtain ⟨r, hr, rfl⟩ := List.mem_map.mp (List.mem_of_getElem? hx)
      have hg := is_group_row a (h r hr) hn
      exact ⟨_, by simp only [↓noX, ↓fnOf, initE, List.replicate, List.length_cons, List.length_nil, List.cons_append, List.nil_append, Nat.sub_self, Nat.reduceSub, Nat.reduceAdd, ↓sSeq, ↓sIf_eq, ↓sSet, ↓sRet, ↓sRetN, ↓sExpr, ↓sNil, ↓sNever, ↓sFor, ↓sAsg, ↓sFldS, ↓sAugIx, ↓sSetIx, ↓putIx, ↓sPar2, ↓sPar3, ↓M.then, ↓bind_eq, ↓M.ret, ↓M.bad, ↓M.get, ↓M.esc, ↓M.arg, ↓M.nrm, ↓M.res, ↓M.wipe, look, getE, ↓put, isMu_eq, muB_none, muB_sh, muB_ow, muB_mu, ↓eVar, ↓eC, ↓eOp1, ↓eOp2, ↓eBool_eq, ↓eAnd_eq, ↓eOr_eq, ↓eNot, ↓eAndV_eq, ↓eOrV_eq, ↓eNotV_eq, ↓eIf_eq, ↓eChain, ↓aNil, ↓aCons, ↓lCons, ↓kCons, ↓sCons, ↓eTup_eq, ↓eLst_eq, ↓eLc_eq, ↓eYes, ↓iSeq_eq, ↓Cw.iEnum, ↓iRng1D_eq, ↓iRng2D, ↓eLRg, ↓eTRg, ↓rg1_eq, ↓rg2, ↓eSl, ↓oNone, ↓oSome_eq, ↓eCallB, ↓getAll, ↓eCall, ↓callM, gather, scatter, muI, toRV, ↓eMake, ↓makeM, ↓eMeth_eq, ↓eFld_eq, ↓eMut_eq, finR, muOf, List.set, ↓gN, ↓fstep, ↓gT, ↓gsCons, ↓gsNil, noMu, wipeE, List.all_cons, List.all_nil, Bool.and_true, Bool.true_and, Bool.not_false, Bool.not_true, if_true, if_false, ite_true, ite_false, Bool.false_eq_true, reduceIte, reduceCtorEq, List.nodup_cons, List.nodup_nil, List.not_mem_nil, not_false_eq_true, and_self, and_true, true_and, List.mem_cons, List.mem_singleton, or_false, decide_true, decide_false, List.getElem?_cons_zero, List.getElem?_cons_succ, dEq_int, dNe_int, dEq_str, dCmp_int, dAdd_int, dSub_int, dInt_int, dAbs_int, dLen_lst, dLen_tup, dList_lst, dList_tup, dTuple_lst, dTuple_tup, hg, ho, ho'], some (Fl.sh, .int (k : Int)), some (Fl.sh, .tup (ii r)), rfl, rfl, rfl⟩)
  obtain ⟨e', h1, o, o', ho, ho', rfl⟩ := body
  have hb : (0 : Int) ≤ n ∧ (n : Int) ≤ 7 := by omega
  have hb2 : ((rs.length : Nat) : Int) ≤ 7 := by omega
  have z1 : (0 : Nat) < 1000 := by decide
  have z2 : (1 : Nat) < 1000 := by decide
  simp only [m_Jobs_UinitU, g_Jobs_UinitU, ↓noX, ↓fnOf, initE, List.replicate, List.length_cons, List.length_nil, List.cons_append, List.nil_append, Nat.sub_self, Nat.reduceSub, Nat.reduceAdd, ↓sSeq, ↓sIf_eq, ↓sSet, ↓sRet, ↓sRetN, ↓sExpr, ↓sNil, ↓sNever, ↓sFor, ↓sAsg, ↓sFldS, ↓sAugIx, ↓sSetIx, ↓putIx, ↓sPar2, ↓sPar3, ↓M.then, ↓bind_eq, ↓M.ret, ↓M.bad, ↓M.get, ↓M.esc, ↓M.arg, ↓M.nrm, ↓M.res, ↓M.wipe, look, getE, ↓put, isMu_eq, muB_none, muB_sh, muB_ow, muB_mu, ↓eVar, ↓eC, ↓eOp1, ↓eOp2, ↓eBool_eq, ↓eAnd_eq, ↓eOr_eq, ↓eNot, ↓eAndV_eq, ↓eOrV_eq, ↓eNotV_eq, ↓eIf_eq, ↓eChain, ↓aNil, ↓aCons, ↓lCons, ↓kCons, ↓sCons, ↓eTup_eq, ↓eLst_eq, ↓eLc_eq, ↓eYes, ↓iSeq_eq, ↓Cw.iEnum, ↓iRng1D_eq, ↓iRng2D, ↓eLRg, ↓eTRg, ↓rg1_eq, ↓rg2, ↓eSl, ↓oNone, ↓oSome_eq, ↓eCallB, ↓getAll, ↓eCall, ↓callM, gather, scatter, muI, toRV, ↓eMake, ↓makeM, ↓eMeth_eq, ↓eFld_eq, ↓eMut_eq, finR, muOf, List.set, ↓gN, ↓fstep, ↓gT, ↓gsCons, ↓gsNil, noMu, wipeE, List.all_cons, List.all_nil, Bool.and_true, Bool.true_and, Bool.not_false, Bool.not_true, if_true, if_false, ite_true, ite_false, Bool.false_eq_true, reduceIte, reduceCtorEq, List.nodup_cons, List.nodup_nil, List.not_mem_nil, not_false_eq_true, and_self, and_true, true_and, List.mem_cons, List.mem_singleton, or_false, decide_true, decide_false, List.getElem?_cons_zero, List.getElem?_cons_succ, dEq_int, dNe_int, dEq_str, dCmp_int, dAdd_int, dSub_int, dInt_int, dAbs_int, dLen_lst, dLen_tup, dList_lst, dList_tup, dTuple_lst, dTuple_tup, is_between_int, hb, is_listed_lst, gs_length, hb2, ↓h1, z1, z2, putD, sj, job]
end K15

namespace K15
open PySem L2 Cw
variable (a : Nat → Addr)
theorem szL {α : Type} {l : List α} (h : l.length ≤ 64) : l.length ≤ sizeLine := Nat.le_trans h (by decide)
/-! ### who can do a job -/
def anyD (rs : List (List Int)) (g : List Int) : D → Bool
  | .tup (.int k :: _) => hit rs g k.toNat
  | _ => false
def fstD : D → D
  | .tup (x :: _) => x
  | d => d
theorem enum_open (rs : List (List Int)) (g : List Int) : ((enumD (gs rs)).filter (anyD rs g)).map fstD = ii (openI rs g) := by
  unfold enumD openI ii rg
  rw [gs_length, List.filter_map, List.filter_map, List.map_map, List.map_map]
  rfl
theorem openI_len (rs : List (List Int)) (g : List Int) : (openI rs g).length ≤ rs.length := by
  have := List.length_filter_le (fun i : Int => hit rs g i.toNat) (rg rs.length)
  rwa [rg_length] at this
def inD (r : List Int) : D → D
  | .int p => .bl (decide (p ∈ r))
  | d => d
theorem hit_at {rs : List (List Int)} {k : Nat} (h : k < rs.length) (g : List Int) : hit rs g k = (g.map fun p => decide (p ∈ rs[k])).any id := by
  unfold hit
  rw [List.getD_eq_getElem?_getD, List.getElem?_eq_getElem h, List.any_map]
  rfl
theorem openIx_ok {rs : List (List Int)} {g : List Int} (hl : rs.length ≤ 64) (hg : g.length ≤ 64) : m_open_indexes a [.tup (gs rs), .tup (ii g)] = .ok (false, .tup (ii (openI rs g))) [] := by
  have h1 : lcL [2, 3] (gT 2 (gsCons (gN 2) (gsCons (gN 3) gsNil))) (eBool (eCallB dAny (aCons (eLc [4] (iSeq (eVar 1)) (gN 4) eYes (eOp2 (dIn false) (eVar 4) (eVar 3))) aNil))) (eVar 2) (enumD (gs rs)) [some (Fl.sh, .tup (gs rs)), some (Fl.sh, .tup (ii g)), none, none, none]
      = .ok (((enumD (gs rs)).filter (anyD rs g)).map fstD) [some (Fl.sh, .tup (gs rs)), some (Fl.sh, .tup (ii g)), none, none, none] := lcL_pure _ _ fun d hd => by
    obtain ⟨k, x, hx, rfl⟩ := enumD_mem hd
    have hk : k < rs.length := by
      have := (List.getElem?_eq_some_iff.mp hx).1
      rwa [gs_length] at this
    rw [getD_gs hk] at hx
    cases hx
    have h2 : lcL [4] (gN 4) eYes (eOp2 (dIn false) (eVar 4) (eVar 3)) (ii g) [some (Fl.sh, .tup (gs rs)), some (Fl.sh, .tup (ii g)), some (Fl.sh, .int (k : Int)), some (Fl.sh, .tup (ii rs[k])), none]
        = .ok ((ii g).map (inD rs[k])) [some (Fl.sh, .tup (gs rs)), some (Fl.sh, .tup (ii g)), some (Fl.sh, .int (k : Int)), some (Fl.sh, .tup (ii rs[k])), none] := lcL_map _ fun d hd => by
      obtain ⟨p, _, rfl⟩ := List.mem_map.mp hd
      refine ⟨_, [some (Fl.sh, .tup (gs rs)), some (Fl.sh, .tup (ii g)), some (Fl.sh, .int (k : Int)), some (Fl.sh, .tup (ii rs[k])), some (Fl.sh, .int p)], rfl, ?_, rfl, rfl⟩
      simp only [↓noX, ↓fnOf, initE, List.replicate, List.length_cons, List.length_nil, List.cons_append, List.nil_append, Nat.sub_self, Nat.reduceSub, Nat.reduceAdd, ↓sSeq, ↓sIf_eq, ↓sSet, ↓sRet, ↓sRetN, ↓sExpr, ↓sNil, ↓sNever, ↓sFor, ↓sAsg, ↓sFldS, ↓sAugIx, ↓sSetIx, ↓putIx, ↓sPar2, ↓sPar3, ↓M.then, ↓bind_eq, ↓M.ret, ↓M.bad, ↓M.get, ↓M.esc, ↓M.arg, ↓M.nrm, ↓M.res, ↓M.wipe, look, getE, ↓put, isMu_eq, muB_none, muB_sh, muB_ow, muB_mu, ↓eVar, ↓eC, ↓eOp1, ↓eOp2, ↓eBool_eq, ↓eAnd_eq, ↓eOr_eq, ↓eNot, ↓eAndV_eq, ↓eOrV_eq, ↓eNotV_eq, ↓eIf_eq, ↓eChain, ↓aNil, ↓aCons, ↓lCons, ↓kCons, ↓sCons, ↓eTup_eq, ↓eLst_eq, ↓eLc_eq, ↓eYes, ↓iSeq_eq, ↓Cw.iEnum, ↓iRng1D_eq, ↓iRng2D, ↓eLRg, ↓eTRg, ↓rg1_eq, ↓rg2, ↓eSl, ↓oNone, ↓oSome_eq, ↓eCallB, ↓getAll, ↓eCall, ↓callM, gather, scatter, muI, toRV, ↓eMake, ↓makeM, ↓eMeth_eq, ↓eFld_eq, ↓eMut_eq, finR, muOf, List.set, ↓gN, ↓fstep, ↓gT, ↓gsCons, ↓gsNil, noMu, wipeE, List.all_cons, List.all_nil, Bool.and_true, Bool.true_and, Bool.not_false, Bool.not_true, if_true, if_false, ite_true, ite_false, Bool.false_eq_true, reduceIte, reduceCtorEq, List.nodup_cons, List.nodup_nil, List.not_mem_nil, not_false_eq_true, and_self, and_true, true_and, List.mem_cons, List.mem_singleton, or_false, decide_true, decide_false, List.getElem?_cons_zero, List.getElem?_cons_succ, dEq_int, dNe_int, dEq_str, dCmp_int, dAdd_int, dSub_int, dInt_int, dAbs_int, dLen_lst, dLen_tup, dList_lst, dList_tup, dTuple_lst, dTuple_tup, dIn_tup, inD]
    have e2 : (ii g).map (inD rs[k]) = (g.map fun p => decide (p ∈ rs[k])).map D.bl := by
      unfold ii
      rw [List.map_map, List.map_map]
      rfl
    have hz : ((g.map fun p => decide (p ∈ rs[k])).map D.bl).length ≤ sizeLine := szL (by simpa using hg)
    have hh : anyD rs g (.tup [.int (k : Int), .tup (ii rs[k])]) = (g.map fun p => decide (p ∈ rs[k])).any id := hit_at hk g
    refine ⟨[some (Fl.sh, .tup (gs rs)), some (Fl.sh, .tup (ii g)), some (Fl.sh, .int (k : Int)), some (Fl.sh, .tup (ii rs[k])), none], [some (Fl.sh, .tup (gs rs)), some (Fl.sh, .tup (ii g)), some (Fl.sh, .int (k : Int)), some (Fl.sh, .tup (ii rs[k])), none], rfl, ?_, fun _ => ⟨rfl, rfl⟩, fun _ => ⟨_, rfl, rfl, rfl⟩⟩
    rw [hh]
    simp only [↓noX, ↓fnOf, initE, List.replicate, List.length_cons, List.length_nil, List.cons_append, List.nil_append, Nat.sub_self, Nat.reduceSub, Nat.reduceAdd, ↓sSeq, ↓sIf_eq, ↓sSet, ↓sRet, ↓sRetN, ↓sExpr, ↓sNil, ↓sNever, ↓sFor, ↓sAsg, ↓sFldS, ↓sAugIx, ↓sSetIx, ↓putIx, ↓sPar2, ↓sPar3, ↓M.then, ↓bind_eq, ↓M.ret, ↓M.bad, ↓M.get, ↓M.esc, ↓M.arg, ↓M.nrm, ↓M.res, ↓M.wipe, look, getE, ↓put, isMu_eq, muB_none, muB_sh, muB_ow, muB_mu, ↓eVar, ↓eC, ↓eOp1, ↓eOp2, ↓eBool_eq, ↓eAnd_eq, ↓eOr_eq, ↓eNot, ↓eAndV_eq, ↓eOrV_eq, ↓eNotV_eq, ↓eIf_eq, ↓eChain, ↓aNil, ↓aCons, ↓lCons, ↓kCons, ↓sCons, ↓eTup_eq, ↓eLst_eq, ↓eLc_eq, ↓eYes, ↓iSeq_eq, ↓Cw.iEnum, ↓iRng1D_eq, ↓iRng2D, ↓eLRg, ↓eTRg, ↓rg1_eq, ↓rg2, ↓eSl, ↓oNone, ↓oSome_eq, ↓eCallB, ↓getAll, ↓eCall, ↓callM, gather, scatter, muI, toRV, ↓eMake, ↓makeM, ↓eMeth_eq, ↓eFld_eq, ↓eMut_eq, finR, muOf, List.set, ↓gN, ↓fstep, ↓gT, ↓gsCons, ↓gsNil, noMu, wipeE, List.all_cons, List.all_nil, Bool.and_true, Bool.true_and, Bool.not_false, Bool.not_true, if_true, if_false, ite_true, ite_false, Bool.false_eq_true, reduceIte, reduceCtorEq, List.nodup_cons, List.nodup_nil, List.not_mem_nil, not_false_eq_true, and_self, and_true, true_and, List.mem_cons, List.mem_singleton, or_false, decide_true, decide_false, List.getElem?_cons_zero, List.getElem?_cons_succ, dEq_int, dNe_int, dEq_str, dCmp_int, dAdd_int, dSub_int, dInt_int, dAbs_int, dLen_lst, dLen_tup, dList_lst, dList_tup, dTuple_lst, dTuple_tup, ↓h2, e2, hz, dAny_map]
  have hz : (ii (openI rs g)).length ≤ sizeLine := szL (by rw [ii_length]; exact Nat.le_trans (openI_len rs g) hl)
  rw [enum_open] at h1
  simp only [m_open_indexes, g_open_indexes, ↓noX, ↓fnOf, initE, List.replicate, List.length_cons, List.length_nil, List.cons_append, List.nil_append, Nat.sub_self, Nat.reduceSub, Nat.reduceAdd, ↓sSeq, ↓sIf_eq, ↓sSet, ↓sRet, ↓sRetN, ↓sExpr, ↓sNil, ↓sNever, ↓sFor, ↓sAsg, ↓sFldS, ↓sAugIx, ↓sSetIx, ↓putIx, ↓sPar2, ↓sPar3, ↓M.then, ↓bind_eq, ↓M.ret, ↓M.bad, ↓M.get, ↓M.esc, ↓M.arg, ↓M.nrm, ↓M.res, ↓M.wipe, look, getE, ↓put, isMu_eq, muB_none, muB_sh, muB_ow, muB_mu, ↓eVar, ↓eC, ↓eOp1, ↓eOp2, ↓eBool_eq, ↓eAnd_eq, ↓eOr_eq, ↓eNot, ↓eAndV_eq, ↓eOrV_eq, ↓eNotV_eq, ↓eIf_eq, ↓eChain, ↓aNil, ↓aCons, ↓lCons, ↓kCons, ↓sCons, ↓eTup_eq, ↓eLst_eq, ↓eLc_eq, ↓eYes, ↓iSeq_eq, ↓Cw.iEnum, ↓iRng1D_eq, ↓iRng2D, ↓eLRg, ↓eTRg, ↓rg1_eq, ↓rg2, ↓eSl, ↓oNone, ↓oSome_eq, ↓eCallB, ↓getAll, ↓eCall, ↓callM, gather, scatter, muI, toRV, ↓eMake, ↓makeM, ↓eMeth_eq, ↓eFld_eq, ↓eMut_eq, finR, muOf, List.set, ↓gN, ↓fstep, ↓gT, ↓gsCons, ↓gsNil, noMu, wipeE, List.all_cons, List.all_nil, Bool.and_true, Bool.true_and, Bool.not_false, Bool.not_true, if_true, if_false, ite_true, ite_false, Bool.false_eq_true, reduceIte, reduceCtorEq, List.nodup_cons, List.nodup_nil, List.not_mem_nil, not_false_eq_true, and_self, and_true, true_and, List.mem_cons, List.mem_singleton, or_false, decide_true, decide_false, List.getElem?_cons_zero, List.getElem?_cons_succ, dEq_int, dNe_int, dEq_str, dCmp_int, dAdd_int, dSub_int, dInt_int, dAbs_int, dLen_lst, dLen_tup, dList_lst, dList_tup, dTuple_lst, dTuple_tup, ↓h1, hz]
theorem open_to_ok {n : Nat} {rs : List (List Int)} {g : List Int} (hl : rs.length ≤ 64) (hg : g.length ≤ 64) : m_Jobs_open_to a [job a n rs, .tup (ii g)] = .ok (false, .tup (ii (openI rs g))) [] := by
  have h := openIx_ok a (g := g) hl hg
  simp only [m_Jobs_open_to, g_Jobs_open_to, job, ↓noX, ↓fnOf, initE, List.replicate, List.length_cons, List.length_nil, List.cons_append, List.nil_append, Nat.sub_self, Nat.reduceSub, Nat.reduceAdd, ↓sSeq, ↓sIf_eq, ↓sSet, ↓sRet, ↓sRetN, ↓sExpr, ↓sNil, ↓sNever, ↓sFor, ↓sAsg, ↓sFldS, ↓sAugIx, ↓sSetIx, ↓putIx, ↓sPar2, ↓sPar3, ↓M.then, ↓bind_eq, ↓M.ret, ↓M.bad, ↓M.get, ↓M.esc, ↓M.arg, ↓M.nrm, ↓M.res, ↓M.wipe, look, getE, ↓put, isMu_eq, muB_none, muB_sh, muB_ow, muB_mu, ↓eVar, ↓eC, ↓eOp1, ↓eOp2, ↓eBool_eq, ↓eAnd_eq, ↓eOr_eq, ↓eNot, ↓eAndV_eq, ↓eOrV_eq, ↓eNotV_eq, ↓eIf_eq, ↓eChain, ↓aNil, ↓aCons, ↓lCons, ↓kCons, ↓sCons, ↓eTup_eq, ↓eLst_eq, ↓eLc_eq, ↓eYes, ↓iSeq_eq, ↓Cw.iEnum, ↓iRng1D_eq, ↓iRng2D, ↓eLRg, ↓eTRg, ↓rg1_eq, ↓rg2, ↓eSl, ↓oNone, ↓oSome_eq, ↓eCallB, ↓getAll, ↓eCall, ↓callM, gather, scatter, muI, toRV, ↓eMake, ↓makeM, ↓eMeth_eq, ↓eFld_eq, ↓eMut_eq, finR, muOf, List.set, ↓gN, ↓fstep, ↓gT, ↓gsCons, ↓gsNil, noMu, wipeE, List.all_cons, List.all_nil, Bool.and_true, Bool.true_and, Bool.not_false, Bool.not_true, if_true, if_false, ite_true, ite_false, Bool.false_eq_true, reduceIte, reduceCtorEq, List.nodup_cons, List.nodup_nil, List.not_mem_nil, not_false_eq_true, and_self, and_true, true_and, List.mem_cons, List.mem_singleton, or_false, decide_true, decide_false, List.getElem?_cons_zero, List.getElem?_cons_succ, dEq_int, dNe_int, dEq_str, dCmp_int, dAdd_int, dSub_int, dInt_int, dAbs_int, dLen_lst, dLen_tup, dList_lst, dList_tup, dTuple_lst, dTuple_tup, fld_jobs, h]
theorem told_ok {n : Nat} {rs : List (List Int)} : m_law_told a [job a n rs] = .ok (false, .tup [.int (n : Int), .tup (gs rs)]) [] := by
  have hz : 2 ≤ sizeLine := by decide
  simp only [m_law_told, g_law_told, job, ↓noX, ↓fnOf, initE, List.replicate, List.length_cons, List.length_nil, List.cons_append, List.nil_append, Nat.sub_self, Nat.reduceSub, Nat.reduceAdd, ↓sSeq, ↓sIf_eq, ↓sSet, ↓sRet, ↓sRetN, ↓sExpr, ↓sNil, ↓sNever, ↓sFor, ↓sAsg, ↓sFldS, ↓sAugIx, ↓sSetIx, ↓putIx, ↓sPar2, ↓sPar3, ↓M.then, ↓bind_eq, ↓M.ret, ↓M.bad, ↓M.get, ↓M.esc, ↓M.arg, ↓M.nrm, ↓M.res, ↓M.wipe, look, getE, ↓put, isMu_eq, muB_none, muB_sh, muB_ow, muB_mu, ↓eVar, ↓eC, ↓eOp1, ↓eOp2, ↓eBool_eq, ↓eAnd_eq, ↓eOr_eq, ↓eNot, ↓eAndV_eq, ↓eOrV_eq, ↓eNotV_eq, ↓eIf_eq, ↓eChain, ↓aNil, ↓aCons, ↓lCons, ↓kCons, ↓sCons, ↓eTup_eq, ↓eLst_eq, ↓eLc_eq, ↓eYes, ↓iSeq_eq, ↓Cw.iEnum, ↓iRng1D_eq, ↓iRng2D, ↓eLRg, ↓eTRg, ↓rg1_eq, ↓rg2, ↓eSl, ↓oNone, ↓oSome_eq, ↓eCallB, ↓getAll, ↓eCall, ↓callM, gather, scatter, muI, toRV, ↓eMake, ↓makeM, ↓eMeth_eq, ↓eFld_eq, ↓eMut_eq, finR, muOf, List.set, ↓gN, ↓fstep, ↓gT, ↓gsCons, ↓gsNil, noMu, wipeE, List.all_cons, List.all_nil, Bool.and_true, Bool.true_and, Bool.not_false, Bool.not_true, if_true, if_false, ite_true, ite_false, Bool.false_eq_true, reduceIte, reduceCtorEq, List.nodup_cons, List.nodup_nil, List.not_mem_nil, not_false_eq_true, and_self, and_true, true_and, List.mem_cons, List.mem_singleton, or_false, decide_true, decide_false, List.getElem?_cons_zero, List.getElem?_cons_succ, dEq_int, dNe_int, dEq_str, dCmp_int, dAdd_int, dSub_int, dInt_int, dAbs_int, dLen_lst, dLen_tup, dList_lst, dList_tup, dTuple_lst, dTuple_tup, fld_jobs, fld_size, hz]
end K15

namespace K15
open PySem L2 Cw
variable (a : Nat → Addr)
theorem hit_filter {rs : List (List Int)} {k : Nat} (h : k < rs.length) (g : List Int) : hit rs g k = !(ii (g.filter fun p => decide (p ∈ rs[k]))).isEmpty := by
  unfold hit
  rw [List.getD_eq_getElem?_getD, List.getElem?_eq_getElem h]
  show g.any _ = _
  have e : ∀ xs : List Int, (ii xs).isEmpty = xs.isEmpty := fun xs => by cases xs <;> rfl
  rw [e]
  induction g with
  | nil => rfl
  | cons p g ih =>
    rw [List.any_cons, List.filter_cons, ih]
    by_cases hp : p ∈ rs[k] <;> simp [hp]
theorem lawOpen_gen {R Gd : D} {rs : List (List Int)} {g : List Int} (hl : rs.length ≤ 64) (hg : ∀ p, p ∈ g → 0 ≤ p ∧ p < 64) (hgl : g.length ≤ 64) (hL : dLen [R] = some (false, .int (rs.length : Int)))
    (hI : ∀ k (h : k < rs.length), dIx R (.int (k : Int)) = some (false, .tup (ii rs[k]))) (hS : ∀ o2 o3 o4, iSeq (eVar 1) [some (Fl.sh, R), some (Fl.sh, Gd), o2, o3, o4] = .ok (ii g) [some (Fl.sh, R), some (Fl.sh, Gd), o2, o3, o4]) :
    m_law_open a [R, Gd] = .ok (false, .tup (ii (openI rs g))) [] := by
  have z0 : 0 ≤ sizeLine := Nat.zero_le _
  have body := forS_inv (a := gN 3) (b := sIf (eBool (eOp2 (dEq true) (eLc [4] (iSeq (eVar 1)) (gN 4) (eBool (eOp2 (dIn false) (eVar 4) (eOp2 dIx (eVar 0) (eVar 3)))) (eVar 4)) (eLst aNil))) (sExpr (eMut 2 dApp (lCons (eVar 3) aNil))) sNil)
    (fun pre e => ∃ o, muB o = false ∧ e = [some (Fl.sh, R), some (Fl.sh, Gd), some (Fl.ow, .lst (ii ((rg pre.length).filter fun i => hit rs g i.toNat))), o, none]) (ds := ii (rg rs.length))
    (e := [some (Fl.sh, R), some (Fl.sh, Gd), some (Fl.ow, .lst []), none, none]) ⟨none, rfl, rfl⟩ (by
      rintro d pre post e hsplit ⟨o, ho, rfl⟩
      obtain ⟨hk, rfl, hp⟩ := split_rg hsplit
      have h2 : lcL [4] (gN 4) (eBool (eOp2 (dIn false) (eVar 4) (eOp2 dIx (eVar 0) (eVar 3)))) (eVar 4) (ii g) [some (Fl.sh, R), some (Fl.sh, Gd), some (Fl.ow, .lst (ii ((rg pre.length).filter fun i => hit rs g i.toNat))), some (Fl.sh, .int (pre.length : Int)), none]
          = .ok (ii (g.filter fun p => decide (p ∈ rs[pre.length]))) [some (Fl.sh, R), some (Fl.sh, Gd), some (Fl.ow, .lst (ii ((rg pre.length).filter fun i => hit rs g i.toNat))), some (Fl.sh, .int (pre.length : Int)), none] := lcL_filt _ fun i hi => by
        refine ⟨_, [some (Fl.sh, R), some (Fl.sh, Gd), some (Fl.ow, .lst (ii ((rg pre.length).filter fun i => hit rs g i.toNat))), some (Fl.sh, .int (pre.length : Int)), some (Fl.sh, .int i)], rfl, ?_, rfl, rfl, rfl⟩
        simp only [↓noX, ↓fnOf, initE, List.replicate, List.length_cons, List.length_nil, List.cons_append, List.nil_append, Nat.sub_self, Nat.reduceSub, Nat.reduceAdd, ↓sSeq, ↓sIf_eq, ↓sSet, ↓sRet, ↓sRetN, ↓sExpr, ↓sNil, ↓sNever, ↓sFor, ↓sAsg, ↓sFldS, ↓sAugIx, ↓sSetIx, ↓putIx, ↓sPar2, ↓sPar3, ↓M.then, ↓bind_eq, ↓M.ret, ↓M.bad, ↓M.get, ↓M.esc, ↓M.arg, ↓M.nrm, ↓M.res, ↓M.wipe, look, getE, ↓put, isMu_eq, muB_none, muB_sh, muB_ow, muB_mu, ↓eVar, ↓eC, ↓eOp1, ↓eOp2, ↓eBool_eq, ↓eAnd_eq, ↓eOr_eq, ↓eNot, ↓eAndV_eq, ↓eOrV_eq, ↓eNotV_eq, ↓eIf_eq, ↓eChain, ↓aNil, ↓aCons, ↓lCons, ↓kCons, ↓sCons, ↓eTup_eq, ↓eLst_eq, ↓eLc_eq, ↓eYes, ↓iSeq_eq, ↓Cw.iEnum, ↓iRng1D_eq, ↓iRng2D, ↓eLRg, ↓eTRg, ↓rg1_eq, ↓rg2, ↓eSl, ↓oNone, ↓oSome_eq, ↓eCallB, ↓getAll, ↓eCall, ↓callM, gather, scatter, muI, toRV, ↓eMake, ↓makeM, ↓eMeth_eq, ↓eFld_eq, ↓eMut_eq, finR, muOf, List.set, ↓gN, ↓fstep, ↓gT, ↓gsCons, ↓gsNil, noMu, wipeE, List.all_cons, List.all_nil, Bool.and_true, Bool.true_and, Bool.not_false, Bool.not_true, if_true, if_false, ite_true, ite_false, Bool.false_eq_true, reduceIte, reduceCtorEq, List.nodup_cons, List.nodup_nil, List.not_mem_nil, not_false_eq_true, and_self, and_true, true_and, List.mem_cons, List.mem_singleton, or_false, decide_true, decide_false, List.getElem?_cons_zero, List.getElem?_cons_succ, dEq_int, dNe_int, dEq_str, dCmp_int, dAdd_int, dSub_int, dInt_int, dAbs_int, dLen_lst, dLen_tup, dList_lst, dList_tup, dTuple_lst, dTuple_tup, hI _ hk, dIn_tup]
      have hz : (ii (g.filter fun p => decide (p ∈ rs[pre.length]))).length ≤ sizeLine := szL (by rw [ii_length]; exact Nat.le_trans (List.length_filter_le _ _) hgl)
      have hne := dNe_nil (NiceL.ii (xs := g.filter fun p => decide (p ∈ rs[pre.length])) fun i hi => by
        have := hg i (List.mem_filter.mp hi).1
        omega) (by decide)
      rw [← hit_filter hk g] at hne
      have hS := hS (some (Fl.ow, .lst (ii ((rg pre.length).filter fun i => hit rs g i.toNat)))) (some (Fl.sh, .int (pre.length : Int))) none
      have hap := dApp_one (ii ((rg pre.length).filter fun i => hit rs g i.toNat)) (.int (pre.length : Int)) (by
        rw [ii_length]
        refine Nat.lt_of_le_of_lt (List.length_filter_le _ _) ?_
        rw [rg_length]
        exact Nat.lt_of_lt_of_le hk (szL hl))
      have hpre : (pre ++ [D.int (pre.length : Int)]).length = pre.length + 1 := by simp
      cases hh : hit rs g pre.length with
      | true =>
        rw [hh] at hne
        refine ⟨[some (Fl.sh, R), some (Fl.sh, Gd), some (Fl.ow, .lst (ii ((rg pre.length).filter fun i => hit rs g i.toNat) ++ [.int (pre.length : Int)])), some (Fl.sh, .int (pre.length : Int)), none], ?_, some (Fl.sh, .int (pre.length : Int)), rfl, ?_⟩
        · simp only [↓noX, ↓fnOf, initE, List.replicate, List.length_cons, List.length_nil, List.cons_append, List.nil_append, Nat.sub_self, Nat.reduceSub, Nat.reduceAdd, ↓sSeq, ↓sIf_eq, ↓sSet, ↓sRet, ↓sRetN, ↓sExpr, ↓sNil, ↓sNever, ↓sFor, ↓sAsg, ↓sFldS, ↓sAugIx, ↓sSetIx, ↓putIx, ↓sPar2, ↓sPar3, ↓M.then, ↓bind_eq, ↓M.ret, ↓M.bad, ↓M.get, ↓M.esc, ↓M.arg, ↓M.nrm, ↓M.res, ↓M.wipe, look, getE, ↓put, isMu_eq, muB_none, muB_sh, muB_ow, muB_mu, ↓eVar, ↓eC, ↓eOp1, ↓eOp2, ↓eBool_eq, ↓eAnd_eq, ↓eOr_eq, ↓eNot, ↓eAndV_eq, ↓eOrV_eq, ↓eNotV_eq, ↓eIf_eq, ↓eChain, ↓aNil, ↓aCons, ↓lCons, ↓kCons, ↓sCons, ↓eTup_eq, ↓eLst_eq, ↓eLc_eq, ↓eYes, ↓Cw.iEnum, ↓iRng1D_eq, ↓iRng2D, ↓eLRg, ↓eTRg, ↓rg1_eq, ↓rg2, ↓eSl, ↓oNone, ↓oSome_eq, ↓eCallB, ↓getAll, ↓eCall, ↓callM, gather, scatter, muI, toRV, ↓eMake, ↓makeM, ↓eMeth_eq, ↓eFld_eq, ↓eMut_eq, finR, muOf, List.set, ↓gN, ↓fstep, ↓gT, ↓gsCons, ↓gsNil, noMu, wipeE, List.all_cons, List.all_nil, Bool.and_true, Bool.true_and, Bool.not_false, Bool.not_true, if_true, if_false, ite_true, ite_false, Bool.false_eq_true, reduceIte, reduceCtorEq, List.nodup_cons, List.nodup_nil, List.not_mem_nil, not_false_eq_true, and_self, and_true, true_and, List.mem_cons, List.mem_singleton, or_false, decide_true, decide_false, List.getElem?_cons_zero, List.getElem?_cons_succ, dEq_int, dNe_int, dEq_str, dCmp_int, dAdd_int, dSub_int, dInt_int, dAbs_int, dLen_lst, dLen_tup, dList_lst, dList_tup, dTuple_lst, dTuple_tup, ho, ↓hS, ↓h2, hz, hne, hap, z0]
        · rw [hpre, rg_succ, List.filter_append]
          have : [(pre.length : Int)].filter (fun i => hit rs g i.toNat) = [(pre.length : Int)] := by simp [hh]
          rw [this]
          unfold ii
          rw [List.map_append]
          rfl
      | false =>
        rw [hh] at hne
        refine ⟨[some (Fl.sh, R), some (Fl.sh, Gd), some (Fl.ow, .lst (ii ((rg pre.length).filter fun i => hit rs g i.toNat))), some (Fl.sh, .int (pre.length : Int)), none], ?_, some (Fl.sh, .int (pre.length : Int)), rfl, ?_⟩
        · simp only [↓noX, ↓fnOf, initE, List.replicate, List.length_cons, List.length_nil, List.cons_append, List.nil_append, Nat.sub_self, Nat.reduceSub, Nat.reduceAdd, ↓sSeq, ↓sIf_eq, ↓sSet, ↓sRet, ↓sRetN, ↓sExpr, ↓sNil, ↓sNever, ↓sFor, ↓sAsg, ↓sFldS, ↓sAugIx, ↓sSetIx, ↓putIx, ↓sPar2, ↓sPar3, ↓M.then, ↓bind_eq, ↓M.ret, ↓M.bad, ↓M.get, ↓M.esc, ↓M.arg, ↓M.nrm, ↓M.res, ↓M.wipe, look, getE, ↓put, isMu_eq, muB_none, muB_sh, muB_ow, muB_mu, ↓eVar, ↓eC, ↓eOp1, ↓eOp2, ↓eBool_eq, ↓eAnd_eq, ↓eOr_eq, ↓eNot, ↓eAndV_eq, ↓eOrV_eq, ↓eNotV_eq, ↓eIf_eq, ↓eChain, ↓aNil, ↓aCons, ↓lCons, ↓kCons, ↓sCons, ↓eTup_eq, ↓eLst_eq, ↓eLc_eq, ↓eYes, ↓Cw.iEnum, ↓iRng1D_eq, ↓iRng2D, ↓eLRg, ↓eTRg, ↓rg1_eq, ↓rg2, ↓eSl, ↓oNone, ↓oSome_eq, ↓eCallB, ↓getAll, ↓eCall, ↓callM, gather, scatter, muI, toRV, ↓eMake, ↓makeM, ↓eMeth_eq, ↓eFld_eq, ↓eMut_eq, finR, muOf, List.set, ↓gN, ↓fstep, ↓gT, ↓gsCons, ↓gsNil, noMu, wipeE, List.all_cons, List.all_nil, Bool.and_true, Bool.true_and, Bool.not_false, Bool.not_true, if_true, if_false, ite_true, ite_false, Bool.false_eq_true, reduceIte, reduceCtorEq, List.nodup_cons, List.nodup_nil, List.not_mem_nil, not_false_eq_true, and_self, and_true, true_and, List.mem_cons, List.mem_singleton, or_false, decide_true, decide_false, List.getElem?_cons_zero, List.getElem?_cons_succ, dEq_int, dNe_int, dEq_str, dCmp_int, dAdd_int, dSub_int, dInt_int, dAbs_int, dLen_lst, dLen_tup, dList_lst, dList_tup, dTuple_lst, dTuple_tup, ho, ↓hS, ↓h2, hz, hne, z0]
        · rw [hpre, rg_succ, List.filter_append]
          have : [(pre.length : Int)].filter (fun i => hit rs g i.toNat) = [] := by simp [hh]
          rw [this, List.append_nil])
  obtain ⟨e', h1, o, ho, rfl⟩ := body
  have e1 : ii ((rg (ii (rg rs.length)).length).filter fun i => hit rs g i.toNat) = ii (openI rs g) := by rw [ii_length, rg_length]; rfl
  rw [e1] at h1
  have h62 := in62_nat rs.length (by omega)
  simp only [m_law_open, g_law_open, ↓noX, ↓fnOf, initE, List.replicate, List.length_cons, List.length_nil, List.cons_append, List.nil_append, Nat.sub_self, Nat.reduceSub, Nat.reduceAdd, ↓sSeq, ↓sIf_eq, ↓sSet, ↓sRet, ↓sRetN, ↓sExpr, ↓sNil, ↓sNever, ↓sFor, ↓sAsg, ↓sFldS, ↓sAugIx, ↓sSetIx, ↓putIx, ↓sPar2, ↓sPar3, ↓M.then, ↓bind_eq, ↓M.ret, ↓M.bad, ↓M.get, ↓M.esc, ↓M.arg, ↓M.nrm, ↓M.res, ↓M.wipe, look, getE, ↓put, isMu_eq, muB_none, muB_sh, muB_ow, muB_mu, ↓eVar, ↓eC, ↓eOp1, ↓eOp2, ↓eBool_eq, ↓eAnd_eq, ↓eOr_eq, ↓eNot, ↓eAndV_eq, ↓eOrV_eq, ↓eNotV_eq, ↓eIf_eq, ↓eChain, ↓aNil, ↓aCons, ↓lCons, ↓kCons, ↓sCons, ↓eTup_eq, ↓eLst_eq, ↓eLc_eq, ↓eYes, ↓iSeq_eq, ↓Cw.iEnum, ↓iRng1D_eq, ↓iRng2D, ↓eLRg, ↓eTRg, ↓rg1_eq, ↓rg2, ↓eSl, ↓oNone, ↓oSome_eq, ↓eCallB, ↓getAll, ↓eCall, ↓callM, gather, scatter, muI, toRV, ↓eMake, ↓makeM, ↓eMeth_eq, ↓eFld_eq, ↓eMut_eq, finR, muOf, List.set, ↓gN, ↓fstep, ↓gT, ↓gsCons, ↓gsNil, noMu, wipeE, List.all_cons, List.all_nil, Bool.and_true, Bool.true_and, Bool.not_false, Bool.not_true, if_true, if_false, ite_true, ite_false, Bool.false_eq_true, reduceIte, reduceCtorEq, List.nodup_cons, List.nodup_nil, List.not_mem_nil, not_false_eq_true, and_self, and_true, true_and, List.mem_cons, List.mem_singleton, or_false, decide_true, decide_false, List.getElem?_cons_zero, List.getElem?_cons_succ, dEq_int, dNe_int, dEq_str, dCmp_int, dAdd_int, dSub_int, dInt_int, dAbs_int, dLen_lst, dLen_tup, dList_lst, dList_tup, dTuple_lst, dTuple_tup, hL, h62, Int.toNat_natCast, rangeD_rg, ↓h1, z0]
end K15

namespace K15
open PySem L2 Cw
variable (a : Nat → Addr)
def notIn (ys : List Int) (i : Int) : Bool := !decide (i ∈ ys)
theorem apart_ok {xs ys : List Int} (hl : xs.length ≤ 64) : m_apart a [.tup (ii xs), .tup (ii ys)] = .ok (false, .tup (ii (xs.filter (notIn ys)))) [] := by
  have h1 : lcL [2] (gN 2) (eBool (eOp2 (dIn true) (eVar 2) (eVar 1))) (eVar 2) (ii xs) [some (Fl.sh, .tup (ii xs)), some (Fl.sh, .tup (ii ys)), none] = .ok (ii (xs.filter (notIn ys))) [some (Fl.sh, .tup (ii xs)), some (Fl.sh, .tup (ii ys)), none] := lcL_filt _ fun i hi => by
    refine ⟨_, [some (Fl.sh, .tup (ii xs)), some (Fl.sh, .tup (ii ys)), some (Fl.sh, .int i)], rfl, ?_, rfl, rfl, rfl⟩
    simp only [↓noX, ↓fnOf, initE, List.replicate, List.length_cons, List.length_nil, List.cons_append, List.nil_append, Nat.sub_self, Nat.reduceSub, Nat.reduceAdd, ↓sSeq, ↓sIf_eq, ↓sSet, ↓sRet, ↓sRetN, ↓sExpr, ↓sNil, ↓sNever, ↓sFor, ↓sAsg, ↓sFldS, ↓sAugIx, ↓sSetIx, ↓putIx, ↓sPar2, ↓sPar3, ↓M.then, ↓bind_eq, ↓M.ret, ↓M.bad, ↓M.get, ↓M.esc, ↓M.arg, ↓M.nrm, ↓M.res, ↓M.wipe, look, getE, ↓put, isMu_eq, muB_none, muB_sh, muB_ow, muB_mu, ↓eVar, ↓eC, ↓eOp1, ↓eOp2, ↓eBool_eq, ↓eAnd_eq, ↓eOr_eq, ↓eNot, ↓eAndV_eq, ↓eOrV_eq, ↓eNotV_eq, ↓eIf_eq, ↓eChain, ↓aNil, ↓aCons, ↓lCons, ↓kCons, ↓sCons, ↓eTup_eq, ↓eLst_eq, ↓eLc_eq, ↓eYes, ↓iSeq_eq, ↓Cw.iEnum, ↓iRng1D_eq, ↓iRng2D, ↓eLRg, ↓eTRg, ↓rg1_eq, ↓rg2, ↓eSl, ↓oNone, ↓oSome_eq, ↓eCallB, ↓getAll, ↓eCall, ↓callM, gather, scatter, muI, toRV, ↓eMake, ↓makeM, ↓eMeth_eq, ↓eFld_eq, ↓eMut_eq, finR, muOf, List.set, ↓gN, ↓fstep, ↓gT, ↓gsCons, ↓gsNil, noMu, wipeE, List.all_cons, List.all_nil, Bool.and_true, Bool.true_and, Bool.not_false, Bool.not_true, if_true, if_false, ite_true, ite_false, Bool.false_eq_true, reduceIte, reduceCtorEq, List.nodup_cons, List.nodup_nil, List.not_mem_nil, not_false_eq_true, and_self, and_true, true_and, List.mem_cons, List.mem_singleton, or_false, decide_true, decide_false, List.getElem?_cons_zero, List.getElem?_cons_succ, dEq_int, dNe_int, dEq_str, dCmp_int, dAdd_int, dSub_int, dInt_int, dAbs_int, dLen_lst, dLen_tup, dList_lst, dList_tup, dTuple_lst, dTuple_tup, dNotIn_tup, notIn]
  have hz : (ii (xs.filter (notIn ys))).length ≤ sizeLine := szL (by rw [ii_length]; exact Nat.le_trans (List.length_filter_le _ _) hl)
  simp only [m_apart, g_apart, ↓noX, ↓fnOf, initE, List.replicate, List.length_cons, List.length_nil, List.cons_append, List.nil_append, Nat.sub_self, Nat.reduceSub, Nat.reduceAdd, ↓sSeq, ↓sIf_eq, ↓sSet, ↓sRet, ↓sRetN, ↓sExpr, ↓sNil, ↓sNever, ↓sFor, ↓sAsg, ↓sFldS, ↓sAugIx, ↓sSetIx, ↓putIx, ↓sPar2, ↓sPar3, ↓M.then, ↓bind_eq, ↓M.ret, ↓M.bad, ↓M.get, ↓M.esc, ↓M.arg, ↓M.nrm, ↓M.res, ↓M.wipe, look, getE, ↓put, isMu_eq, muB_none, muB_sh, muB_ow, muB_mu, ↓eVar, ↓eC, ↓eOp1, ↓eOp2, ↓eBool_eq, ↓eAnd_eq, ↓eOr_eq, ↓eNot, ↓eAndV_eq, ↓eOrV_eq, ↓eNotV_eq, ↓eIf_eq, ↓eChain, ↓aNil, ↓aCons, ↓lCons, ↓kCons, ↓sCons, ↓eTup_eq, ↓eLst_eq, ↓eLc_eq, ↓eYes, ↓iSeq_eq, ↓Cw.iEnum, ↓iRng1D_eq, ↓iRng2D, ↓eLRg, ↓eTRg, ↓rg1_eq, ↓rg2, ↓eSl, ↓oNone, ↓oSome_eq, ↓eCallB, ↓getAll, ↓eCall, ↓callM, gather, scatter, muI, toRV, ↓eMake, ↓makeM, ↓eMeth_eq, ↓eFld_eq, ↓eMut_eq, finR, muOf, List.set, ↓gN, ↓fstep, ↓gT, ↓gsCons, ↓gsNil, noMu, wipeE, List.all_cons, List.all_nil, Bool.and_true, Bool.true_and, Bool.not_false, Bool.not_true, if_true, if_false, ite_true, ite_false, Bool.false_eq_true, reduceIte, reduceCtorEq, List.nodup_cons, List.nodup_nil, List.not_mem_nil, not_false_eq_true, and_self, and_true, true_and, List.mem_cons, List.mem_singleton, or_false, decide_true, decide_false, List.getElem?_cons_zero, List.getElem?_cons_succ, dEq_int, dNe_int, dEq_str, dCmp_int, dAdd_int, dSub_int, dInt_int, dAbs_int, dLen_lst, dLen_tup, dList_lst, dList_tup, dTuple_lst, dTuple_tup, ↓h1, hz]
theorem rest_ok {n : Nat} {g : List Int} (hn : n ≤ 64) : m_rest a [.int (n : Int), .tup (ii g)] = .ok (false, .tup (ii ((rg n).filter (notIn g)))) [] := by
  have hr := rgOk_nat n (by omega)
  have h := apart_ok a (xs := rg n) (ys := g) (by rw [rg_length]; exact hn)
  simp only [m_rest, g_rest, ↓noX, ↓fnOf, initE, List.replicate, List.length_cons, List.length_nil, List.cons_append, List.nil_append, Nat.sub_self, Nat.reduceSub, Nat.reduceAdd, ↓sSeq, ↓sIf_eq, ↓sSet, ↓sRet, ↓sRetN, ↓sExpr, ↓sNil, ↓sNever, ↓sFor, ↓sAsg, ↓sFldS, ↓sAugIx, ↓sSetIx, ↓putIx, ↓sPar2, ↓sPar3, ↓M.then, ↓bind_eq, ↓M.ret, ↓M.bad, ↓M.get, ↓M.esc, ↓M.arg, ↓M.nrm, ↓M.res, ↓M.wipe, look, getE, ↓put, isMu_eq, muB_none, muB_sh, muB_ow, muB_mu, ↓eVar, ↓eC, ↓eOp1, ↓eOp2, ↓eBool_eq, ↓eAnd_eq, ↓eOr_eq, ↓eNot, ↓eAndV_eq, ↓eOrV_eq, ↓eNotV_eq, ↓eIf_eq, ↓eChain, ↓aNil, ↓aCons, ↓lCons, ↓kCons, ↓sCons, ↓eTup_eq, ↓eLst_eq, ↓eLc_eq, ↓eYes, ↓iSeq_eq, ↓Cw.iEnum, ↓iRng1D_eq, ↓iRng2D, ↓eLRg, ↓eTRg, ↓rg1_eq, ↓rg2, ↓eSl, ↓oNone, ↓oSome_eq, ↓eCallB, ↓getAll, ↓eCall, ↓callM, gather, scatter, muI, toRV, ↓eMake, ↓makeM, ↓eMeth_eq, ↓eFld_eq, ↓eMut_eq, finR, muOf, List.set, ↓gN, ↓fstep, ↓gT, ↓gsCons, ↓gsNil, noMu, wipeE, List.all_cons, List.all_nil, Bool.and_true, Bool.true_and, Bool.not_false, Bool.not_true, if_true, if_false, ite_true, ite_false, Bool.false_eq_true, reduceIte, reduceCtorEq, List.nodup_cons, List.nodup_nil, List.not_mem_nil, not_false_eq_true, and_self, and_true, true_and, List.mem_cons, List.mem_singleton, or_false, decide_true, decide_false, List.getElem?_cons_zero, List.getElem?_cons_succ, dEq_int, dNe_int, dEq_str, dCmp_int, dAdd_int, dSub_int, dInt_int, dAbs_int, dLen_lst, dLen_tup, dList_lst, dList_tup, dTuple_lst, dTuple_tup, hr, rg_to, rangeD_rg, h]
theorem lawRest_ok {n : Nat} {g : List Int} (hn : n ≤ 64) : m_law_rest a [.int (n : Int), .tup (ii g)] = .ok (false, .tup (ii ((rg n).filter (notIn g)))) [] := by
  have h1 : lcL [2] (gN 2) (eBool (eOp2 (dIn true) (eVar 2) (eVar 1))) (eVar 2) (ii (rg n)) [some (Fl.sh, .int (n : Int)), some (Fl.sh, .tup (ii g)), none] = .ok (ii ((rg n).filter (notIn g))) [some (Fl.sh, .int (n : Int)), some (Fl.sh, .tup (ii g)), none] := lcL_filt _ fun i hi => by
    refine ⟨_, [some (Fl.sh, .int (n : Int)), some (Fl.sh, .tup (ii g)), some (Fl.sh, .int i)], rfl, ?_, rfl, rfl, rfl⟩
    simp only [↓noX, ↓fnOf, initE, List.replicate, List.length_cons, List.length_nil, List.cons_append, List.nil_append, Nat.sub_self, Nat.reduceSub, Nat.reduceAdd, ↓sSeq, ↓sIf_eq, ↓sSet, ↓sRet, ↓sRetN, ↓sExpr, ↓sNil, ↓sNever, ↓sFor, ↓sAsg, ↓sFldS, ↓sAugIx, ↓sSetIx, ↓putIx, ↓sPar2, ↓sPar3, ↓M.then, ↓bind_eq, ↓M.ret, ↓M.bad, ↓M.get, ↓M.esc, ↓M.arg, ↓M.nrm, ↓M.res, ↓M.wipe, look, getE, ↓put, isMu_eq, muB_none, muB_sh, muB_ow, muB_mu, ↓eVar, ↓eC, ↓eOp1, ↓eOp2, ↓eBool_eq, ↓eAnd_eq, ↓eOr_eq, ↓eNot, ↓eAndV_eq, ↓eOrV_eq, ↓eNotV_eq, ↓eIf_eq, ↓eChain, ↓aNil, ↓aCons, ↓lCons, ↓kCons, ↓sCons, ↓eTup_eq, ↓eLst_eq, ↓eLc_eq, ↓eYes, ↓iSeq_eq, ↓Cw.iEnum, ↓iRng1D_eq, ↓iRng2D, ↓eLRg, ↓eTRg, ↓rg1_eq, ↓rg2, ↓eSl, ↓oNone, ↓oSome_eq, ↓eCallB, ↓getAll, ↓eCall, ↓callM, gather, scatter, muI, toRV, ↓eMake, ↓makeM, ↓eMeth_eq, ↓eFld_eq, ↓eMut_eq, finR, muOf, List.set, ↓gN, ↓fstep, ↓gT, ↓gsCons, ↓gsNil, noMu, wipeE, List.all_cons, List.all_nil, Bool.and_true, Bool.true_and, Bool.not_false, Bool.not_true, if_true, if_false, ite_true, ite_false, Bool.false_eq_true, reduceIte, reduceCtorEq, List.nodup_cons, List.nodup_nil, List.not_mem_nil, not_false_eq_true, and_self, and_true, true_and, List.mem_cons, List.mem_singleton, or_false, decide_true, decide_false, List.getElem?_cons_zero, List.getElem?_cons_succ, dEq_int, dNe_int, dEq_str, dCmp_int, dAdd_int, dSub_int, dInt_int, dAbs_int, dLen_lst, dLen_tup, dList_lst, dList_tup, dTuple_lst, dTuple_tup, dNotIn_tup, notIn]
  have hz : (ii ((rg n).filter (notIn g))).length ≤ sizeLine := szL (by rw [ii_length]; exact Nat.le_trans (List.length_filter_le _ _) (by rw [rg_length]; exact hn))
  have h62 := in62_nat n (by omega)
  simp only [m_law_rest, g_law_rest, ↓noX, ↓fnOf, initE, List.replicate, List.length_cons, List.length_nil, List.cons_append, List.nil_append, Nat.sub_self, Nat.reduceSub, Nat.reduceAdd, ↓sSeq, ↓sIf_eq, ↓sSet, ↓sRet, ↓sRetN, ↓sExpr, ↓sNil, ↓sNever, ↓sFor, ↓sAsg, ↓sFldS, ↓sAugIx, ↓sSetIx, ↓putIx, ↓sPar2, ↓sPar3, ↓M.then, ↓bind_eq, ↓M.ret, ↓M.bad, ↓M.get, ↓M.esc, ↓M.arg, ↓M.nrm, ↓M.res, ↓M.wipe, look, getE, ↓put, isMu_eq, muB_none, muB_sh, muB_ow, muB_mu, ↓eVar, ↓eC, ↓eOp1, ↓eOp2, ↓eBool_eq, ↓eAnd_eq, ↓eOr_eq, ↓eNot, ↓eAndV_eq, ↓eOrV_eq, ↓eNotV_eq, ↓eIf_eq, ↓eChain, ↓aNil, ↓aCons, ↓lCons, ↓kCons, ↓sCons, ↓eTup_eq, ↓eLst_eq, ↓eLc_eq, ↓eYes, ↓iSeq_eq, ↓Cw.iEnum, ↓iRng1D_eq, ↓iRng2D, ↓eLRg, ↓eTRg, ↓rg1_eq, ↓rg2, ↓eSl, ↓oNone, ↓oSome_eq, ↓eCallB, ↓getAll, ↓eCall, ↓callM, gather, scatter, muI, toRV, ↓eMake, ↓makeM, ↓eMeth_eq, ↓eFld_eq, ↓eMut_eq, finR, muOf, List.set, ↓gN, ↓fstep, ↓gT, ↓gsCons, ↓gsNil, noMu, wipeE, List.all_cons, List.all_nil, Bool.and_true, Bool.true_and, Bool.not_false, Bool.not_true, if_true, if_false, ite_true, ite_false, Bool.false_eq_true, reduceIte, reduceCtorEq, List.nodup_cons, List.nodup_nil, List.not_mem_nil, not_false_eq_true, and_self, and_true, true_and, List.mem_cons, List.mem_singleton, or_false, decide_true, decide_false, List.getElem?_cons_zero, List.getElem?_cons_succ, dEq_int, dNe_int, dEq_str, dCmp_int, dAdd_int, dSub_int, dInt_int, dAbs_int, dLen_lst, dLen_tup, dList_lst, dList_tup, dTuple_lst, dTuple_tup, h62, Int.toNat_natCast, rangeD_rg, ↓h1, hz]
theorem outside_ok {n k : Nat} {rs : List (List Int)} (hn : n ≤ 64) (hk : k < rs.length) : m_Jobs_outside a [job a n rs, .int (k : Int)] = .ok (false, .tup (ii ((rg n).filter (notIn rs[k])))) [] := by
  have h := rest_ok a (g := rs[k]) hn
  have hi := dIx_tup (getD_gs hk)
  simp only [m_Jobs_outside, g_Jobs_outside, job, ↓noX, ↓fnOf, initE, List.replicate, List.length_cons, List.length_nil, List.cons_append, List.nil_append, Nat.sub_self, Nat.reduceSub, Nat.reduceAdd, ↓sSeq, ↓sIf_eq, ↓sSet, ↓sRet, ↓sRetN, ↓sExpr, ↓sNil, ↓sNever, ↓sFor, ↓sAsg, ↓sFldS, ↓sAugIx, ↓sSetIx, ↓putIx, ↓sPar2, ↓sPar3, ↓M.then, ↓bind_eq, ↓M.ret, ↓M.bad, ↓M.get, ↓M.esc, ↓M.arg, ↓M.nrm, ↓M.res, ↓M.wipe, look, getE, ↓put, isMu_eq, muB_none, muB_sh, muB_ow, muB_mu, ↓eVar, ↓eC, ↓eOp1, ↓eOp2, ↓eBool_eq, ↓eAnd_eq, ↓eOr_eq, ↓eNot, ↓eAndV_eq, ↓eOrV_eq, ↓eNotV_eq, ↓eIf_eq, ↓eChain, ↓aNil, ↓aCons, ↓lCons, ↓kCons, ↓sCons, ↓eTup_eq, ↓eLst_eq, ↓eLc_eq, ↓eYes, ↓iSeq_eq, ↓Cw.iEnum, ↓iRng1D_eq, ↓iRng2D, ↓eLRg, ↓eTRg, ↓rg1_eq, ↓rg2, ↓eSl, ↓oNone, ↓oSome_eq, ↓eCallB, ↓getAll, ↓eCall, ↓callM, gather, scatter, muI, toRV, ↓eMake, ↓makeM, ↓eMeth_eq, ↓eFld_eq, ↓eMut_eq, finR, muOf, List.set, ↓gN, ↓fstep, ↓gT, ↓gsCons, ↓gsNil, noMu, wipeE, List.all_cons, List.all_nil, Bool.and_true, Bool.true_and, Bool.not_false, Bool.not_true, if_true, if_false, ite_true, ite_false, Bool.false_eq_true, reduceIte, reduceCtorEq, List.nodup_cons, List.nodup_nil, List.not_mem_nil, not_false_eq_true, and_self, and_true, true_and, List.mem_cons, List.mem_singleton, or_false, decide_true, decide_false, List.getElem?_cons_zero, List.getElem?_cons_succ, dEq_int, dNe_int, dEq_str, dCmp_int, dAdd_int, dSub_int, dInt_int, dAbs_int, dLen_lst, dLen_tup, dList_lst, dList_tup, dTuple_lst, dTuple_tup, fld_jobs, fld_size, hi, h]
/-- row k put otherwise -/
def wR (rs : List (List Int)) (k : Nat) (r : List Int) : List (List Int) := rs.take k ++ r :: rs.drop (k + 1)
theorem wR_len {rs : List (List Int)} {k : Nat} (h : k < rs.length) (r : List Int) : (wR rs k r).length = rs.length := by
  unfold wR
  simp
  omega
theorem wR_rows {n : Nat} {rs : List (List Int)} {k : Nat} {r : List Int} (h : ∀ r, r ∈ rs → Row n r) (hr : Row n r) : ∀ q, q ∈ wR rs k r → Row n q := by
  intro q hq
  unfold wR at hq
  rcases List.mem_append.mp hq with z | z
  · exact h q (List.mem_of_mem_take z)
  · rcases List.mem_cons.mp z with z | z
    · rw [z]; exact hr
    · exact h q (List.mem_of_mem_drop z)
theorem wR_at {rs : List (List Int)} {k : Nat} (h : k < rs.length) (r : List Int) : (wR rs k r)[k]? = some r := by
  unfold wR
  have e : (rs.take k).length = k := by rw [List.length_take]; omega
  rw [List.getElem?_append_right (by omega), e, Nat.sub_self]
  rfl
theorem wR_get {rs : List (List Int)} {k : Nat} (h : k < rs.length) (r : List Int) (h2 : k < (wR rs k r).length) : (wR rs k r)[k] = r := (List.getElem?_eq_some_iff.mp (wR_at h r)).2
theorem gs_wR (rs : List (List Int)) (k : Nat) (r : List Int) : gs (wR rs k r) = (gs rs).take k ++ [.tup (ii r)] ++ (gs rs).drop (k + 1) := by
  unfold gs wR
  rw [List.map_append, List.map_cons, List.map_take, List.map_drop, List.append_assoc]
  rfl
theorem z64 : 64 ≤ sizeLine := by decide
theorem changed_ok {n k : Nat} {rs : List (List Int)} {r : List Int} (hn : n ≤ 7) (hl : rs.length ≤ 7) (h : ∀ r, r ∈ rs → Row n r) (hk : k < rs.length) (hr : Row n r) :
    m_Jobs_changed a [job a n rs, .int (k : Int), .tup (ii r)] = .ok (true, job a n (wR rs k r)) [] := by
  have hi := init_ok a hn (by rw [wR_len hk]; exact hl) (wR_rows (k := k) h hr)
  rw [gs_wR] at hi
  have e1 : dAdd (.lst ((gs rs).take k)) (.lst [.tup (ii r)]) = some (true, .lst ((gs rs).take k ++ [.tup (ii r)])) := dAdd_lst _ _ (by
    rw [List.length_take, gs_length]; simp only [List.length_cons, List.length_nil]; have := z64; omega)
  have e2 : dAdd (.lst ((gs rs).take k ++ [.tup (ii r)])) (.lst ((gs rs).drop (k + 1))) = some (true, .lst ((gs rs).take k ++ [.tup (ii r)] ++ (gs rs).drop (k + 1))) := dAdd_lst _ _ (by
    rw [List.length_append, List.length_take, List.length_drop, gs_length]; simp only [List.length_cons, List.length_nil]; have := z64; omega)
  have c1 := cut_to (gs rs) k
  have c2 := cut_from (gs rs) (k + 1)
  have c3 : ((k : Int) + 1) = ((k + 1 : Nat) : Int) := by omega
  have z1 : 1 ≤ sizeLine := by decide
  rw [← c3] at c2
  simp only [m_Jobs_changed, g_Jobs_changed, ↓noX, ↓fnOf, initE, List.replicate, List.length_cons, List.length_nil, List.cons_append, List.nil_append, Nat.sub_self, Nat.reduceSub, Nat.reduceAdd, ↓sSeq, ↓sIf_eq, ↓sSet, ↓sRet, ↓sRetN, ↓sExpr, ↓sNil, ↓sNever, ↓sFor, ↓sAsg, ↓sFldS, ↓sAugIx, ↓sSetIx, ↓putIx, ↓sPar2, ↓sPar3, ↓M.then, ↓bind_eq, ↓M.ret, ↓M.bad, ↓M.get, ↓M.esc, ↓M.arg, ↓M.nrm, ↓M.res, ↓M.wipe, look, getE, ↓put, isMu_eq, muB_none, muB_sh, muB_ow, muB_mu, ↓eVar, ↓eC, ↓eOp1, ↓eOp2, ↓eBool_eq, ↓eAnd_eq, ↓eOr_eq, ↓eNot, ↓eAndV_eq, ↓eOrV_eq, ↓eNotV_eq, ↓eIf_eq, ↓eChain, ↓aNil, ↓aCons, ↓lCons, ↓kCons, ↓sCons, ↓eTup_eq, ↓eLst_eq, ↓eLc_eq, ↓eYes, ↓iSeq_eq, ↓Cw.iEnum, ↓iRng1D_eq, ↓iRng2D, ↓eLRg, ↓eTRg, ↓rg1_eq, ↓rg2, ↓eSl, ↓oNone, ↓oSome_eq, ↓eCallB, ↓getAll, ↓eCall, ↓callM, gather, scatter, muI, toRV, ↓eMake, ↓makeM, ↓eMeth_eq, ↓eFld_eq, ↓eMut_eq, finR, muOf, List.set, ↓gN, ↓fstep, ↓gT, ↓gsCons, ↓gsNil, noMu, wipeE, List.all_cons, List.all_nil, Bool.and_true, Bool.true_and, Bool.not_false, Bool.not_true, if_true, if_false, ite_true, ite_false, Bool.false_eq_true, reduceIte, reduceCtorEq, List.nodup_cons, List.nodup_nil, List.not_mem_nil, not_false_eq_true, and_self, and_true, true_and, List.mem_cons, List.mem_singleton, or_false, decide_true, decide_false, List.getElem?_cons_zero, List.getElem?_cons_succ, dEq_int, dNe_int, dEq_str, dCmp_int, dAdd_int, dSub_int, dInt_int, dAbs_int, dLen_lst, dLen_tup, dList_lst, dList_tup, dTuple_lst, dTuple_tup, fld_jobs, fld_size, dSl, c1, c2, e1, e2, hi, z1]
  simp only [job, ↓noX, ↓fnOf, initE, List.replicate, List.length_cons, List.length_nil, List.cons_append, List.nil_append, Nat.sub_self, Nat.reduceSub, Nat.reduceAdd, ↓sSeq, ↓sIf_eq, ↓sSet, ↓sRet, ↓sRetN, ↓sExpr, ↓sNil, ↓sNever, ↓sFor, ↓sAsg, ↓sFldS, ↓sAugIx, ↓sSetIx, ↓putIx, ↓sPar2, ↓sPar3, ↓M.then, ↓bind_eq, ↓M.ret, ↓M.bad, ↓M.get, ↓M.esc, ↓M.arg, ↓M.nrm, ↓M.res, ↓M.wipe, look, getE, ↓put, isMu_eq, muB_none, muB_sh, muB_ow, muB_mu, ↓eVar, ↓eC, ↓eOp1, ↓eOp2, ↓eBool_eq, ↓eAnd_eq, ↓eOr_eq, ↓eNot, ↓eAndV_eq, ↓eOrV_eq, ↓eNotV_eq, ↓eIf_eq, ↓eChain, ↓aNil, ↓aCons, ↓lCons, ↓kCons, ↓sCons, ↓eTup_eq, ↓eLst_eq, ↓eLc_eq, ↓eYes, ↓iSeq_eq, ↓Cw.iEnum, ↓iRng1D_eq, ↓iRng2D, ↓eLRg, ↓eTRg, ↓rg1_eq, ↓rg2, ↓eSl, ↓oNone, ↓oSome_eq, ↓eCallB, ↓getAll, ↓eCall, ↓callM, gather, scatter, muI, toRV, ↓eMake, ↓makeM, ↓eMeth_eq, ↓eFld_eq, ↓eMut_eq, finR, muOf, List.set, ↓gN, ↓fstep, ↓gT, ↓gsCons, ↓gsNil, noMu, wipeE, List.all_cons, List.all_nil, Bool.and_true, Bool.true_and, Bool.not_false, Bool.not_true, if_true, if_false, ite_true, ite_false, Bool.false_eq_true, reduceIte, reduceCtorEq, List.nodup_cons, List.nodup_nil, List.not_mem_nil, not_false_eq_true, and_self, and_true, true_and, List.mem_cons, List.mem_singleton, or_false, decide_true, decide_false, List.getElem?_cons_zero, List.getElem?_cons_succ, dEq_int, dNe_int, dEq_str, dCmp_int, dAdd_int, dSub_int, dInt_int, dAbs_int, dLen_lst, dLen_tup, dList_lst, dList_tup, dTuple_lst, dTuple_tup, fld_jobs, fld_size, dSl, c1, c2, e1, e2, hi, z1]
theorem with_ok {k : Nat} {rs : List (List Int)} {r : List Int} (hl : rs.length ≤ 7) (hk : k < rs.length) : m_law_with a [.lst (gs rs), .int (k : Int), .tup (ii r)] = .ok (false, .tup (gs (wR rs k r))) [] := by
  have e1 : dAdd (.tup ((gs rs).take k)) (.tup [.tup (ii r)]) = some (false, .tup ((gs rs).take k ++ [.tup (ii r)])) := dAdd_tup _ _ (by
    rw [List.length_take, gs_length]; simp only [List.length_cons, List.length_nil]; have := z64; omega)
  have e2 : dAdd (.tup ((gs rs).take k ++ [.tup (ii r)])) (.tup ((gs rs).drop (k + 1))) = some (false, .tup ((gs rs).take k ++ [.tup (ii r)] ++ (gs rs).drop (k + 1))) := dAdd_tup _ _ (by
    rw [List.length_append, List.length_take, List.length_drop, gs_length]; simp only [List.length_cons, List.length_nil]; have := z64; omega)
  have c1 := cut_to (gs rs) k
  have c2 := cut_from (gs rs) (k + 1)
  have c3 : ((k : Int) + 1) = ((k + 1 : Nat) : Int) := by omega
  have z1 : 1 ≤ sizeLine := by decide
  rw [← c3] at c2
  rw [gs_wR]
  simp only [m_law_with, g_law_with, ↓noX, ↓fnOf, initE, List.replicate, List.length_cons, List.length_nil, List.cons_append, List.nil_append, Nat.sub_self, Nat.reduceSub, Nat.reduceAdd, ↓sSeq, ↓sIf_eq, ↓sSet, ↓sRet, ↓sRetN, ↓sExpr, ↓sNil, ↓sNever, ↓sFor, ↓sAsg, ↓sFldS, ↓sAugIx, ↓sSetIx, ↓putIx, ↓sPar2, ↓sPar3, ↓M.then, ↓bind_eq, ↓M.ret, ↓M.bad, ↓M.get, ↓M.esc, ↓M.arg, ↓M.nrm, ↓M.res, ↓M.wipe, look, getE, ↓put, isMu_eq, muB_none, muB_sh, muB_ow, muB_mu, ↓eVar, ↓eC, ↓eOp1, ↓eOp2, ↓eBool_eq, ↓eAnd_eq, ↓eOr_eq, ↓eNot, ↓eAndV_eq, ↓eOrV_eq, ↓eNotV_eq, ↓eIf_eq, ↓eChain, ↓aNil, ↓aCons, ↓lCons, ↓kCons, ↓sCons, ↓eTup_eq, ↓eLst_eq, ↓eLc_eq, ↓eYes, ↓iSeq_eq, ↓Cw.iEnum, ↓iRng1D_eq, ↓iRng2D, ↓eLRg, ↓eTRg, ↓rg1_eq, ↓rg2, ↓eSl, ↓oNone, ↓oSome_eq, ↓eCallB, ↓getAll, ↓eCall, ↓callM, gather, scatter, muI, toRV, ↓eMake, ↓makeM, ↓eMeth_eq, ↓eFld_eq, ↓eMut_eq, finR, muOf, List.set, ↓gN, ↓fstep, ↓gT, ↓gsCons, ↓gsNil, noMu, wipeE, List.all_cons, List.all_nil, Bool.and_true, Bool.true_and, Bool.not_false, Bool.not_true, if_true, if_false, ite_true, ite_false, Bool.false_eq_true, reduceIte, reduceCtorEq, List.nodup_cons, List.nodup_nil, List.not_mem_nil, not_false_eq_true, and_self, and_true, true_and, List.mem_cons, List.mem_singleton, or_false, decide_true, decide_false, List.getElem?_cons_zero, List.getElem?_cons_succ, dEq_int, dNe_int, dEq_str, dCmp_int, dAdd_int, dSub_int, dInt_int, dAbs_int, dLen_lst, dLen_tup, dList_lst, dList_tup, dTuple_lst, dTuple_tup, dSl, c1, c2, e1, e2, z1]
theorem intL_ii : ∀ xs : List Int, intL (ii xs) = some xs
  | [] => rfl
  | x :: xs => by
    show intL (D.int x :: ii xs) = _
    unfold intL
    rw [intL_ii xs]
def morI (n : Nat) (xs : List Int) (p : Int) : List Int := (rg n).filter fun q => decide (q ∈ xs) || decide (q = p)
theorem sortU_put {n : Nat} {xs : List Int} {p : Int} (h : Row n xs) (h0 : 0 ≤ p) (h1 : p < n) : sortU (xs ++ [p]) = morI n xs p := by
  refine asc_one (asc_sortU _) ((rg_sorted n).sublist List.filter_sublist) fun x => ?_
  rw [mem_sortU]
  unfold morI
  rw [List.mem_filter]
  simp only [List.mem_append, List.mem_singleton, Bool.or_eq_true, decide_eq_true_eq]
  constructor
  · rintro (z | z)
    · exact ⟨h.subset z, .inl z⟩
    · exact ⟨mem_rg.mpr (by omega), .inr z⟩
  · exact fun z => z.2
theorem together_ok {n : Nat} {xs : List Int} {p : Int} (hn : n ≤ 7) (h : Row n xs) (h0 : 0 ≤ p) (h1 : p < n) : m_together a [.tup (ii xs), .tup [.int p]] = .ok (false, .tup (ii (morI n xs p))) [] := by
  have hl := h.len
  have e1 : dAdd (.tup (ii xs)) (.tup [.int p]) = some (false, .tup (ii xs ++ [.int p])) := dAdd_tup _ _ (by
    rw [ii_length]; simp only [List.length_cons, List.length_nil]; have := z64; omega)
  have e2 : ii xs ++ [.int p] = ii (xs ++ [p]) := by unfold ii; rw [List.map_append]; rfl
  have e3 : dSortSet (.tup (ii (xs ++ [p]))) = some (true, .lst (ii (morI n xs p))) := by
    unfold dSortSet
    simp only [intL_ii]
    rw [if_pos (by rw [List.length_append]; simp only [List.length_cons, List.length_nil]; omega), sortU_put h h0 h1]
    rfl
  simp only [m_together, g_together, ↓noX, ↓fnOf, initE, List.replicate, List.length_cons, List.length_nil, List.cons_append, List.nil_append, Nat.sub_self, Nat.reduceSub, Nat.reduceAdd, ↓sSeq, ↓sIf_eq, ↓sSet, ↓sRet, ↓sRetN, ↓sExpr, ↓sNil, ↓sNever, ↓sFor, ↓sAsg, ↓sFldS, ↓sAugIx, ↓sSetIx, ↓putIx, ↓sPar2, ↓sPar3, ↓M.then, ↓bind_eq, ↓M.ret, ↓M.bad, ↓M.get, ↓M.esc, ↓M.arg, ↓M.nrm, ↓M.res, ↓M.wipe, look, getE, ↓put, isMu_eq, muB_none, muB_sh, muB_ow, muB_mu, ↓eVar, ↓eC, ↓eOp1, ↓eOp2, ↓eBool_eq, ↓eAnd_eq, ↓eOr_eq, ↓eNot, ↓eAndV_eq, ↓eOrV_eq, ↓eNotV_eq, ↓eIf_eq, ↓eChain, ↓aNil, ↓aCons, ↓lCons, ↓kCons, ↓sCons, ↓eTup_eq, ↓eLst_eq, ↓eLc_eq, ↓eYes, ↓iSeq_eq, ↓Cw.iEnum, ↓iRng1D_eq, ↓iRng2D, ↓eLRg, ↓eTRg, ↓rg1_eq, ↓rg2, ↓eSl, ↓oNone, ↓oSome_eq, ↓eCallB, ↓getAll, ↓eCall, ↓callM, gather, scatter, muI, toRV, ↓eMake, ↓makeM, ↓eMeth_eq, ↓eFld_eq, ↓eMut_eq, finR, muOf, List.set, ↓gN, ↓fstep, ↓gT, ↓gsCons, ↓gsNil, noMu, wipeE, List.all_cons, List.all_nil, Bool.and_true, Bool.true_and, Bool.not_false, Bool.not_true, if_true, if_false, ite_true, ite_false, Bool.false_eq_true, reduceIte, reduceCtorEq, List.nodup_cons, List.nodup_nil, List.not_mem_nil, not_false_eq_true, and_self, and_true, true_and, List.mem_cons, List.mem_singleton, or_false, decide_true, decide_false, List.getElem?_cons_zero, List.getElem?_cons_succ, dEq_int, dNe_int, dEq_str, dCmp_int, dAdd_int, dSub_int, dInt_int, dAbs_int, dLen_lst, dLen_tup, dList_lst, dList_tup, dTuple_lst, dTuple_tup, e1, e2, e3]
theorem morI_row (n : Nat) (xs : List Int) (p : Int) : Row n (morI n xs p) := List.filter_sublist
theorem lessI_row {n : Nat} {xs : List Int} (h : Row n xs) (ys : List Int) : Row n (xs.filter (notIn ys)) := List.filter_sublist.trans h
theorem lk_changed (n : Nat) (rs : List (List Int)) : List.lookup ("changed" : Str) [(("size" : Str), D.int (n : Int)), ("jobs", .tup (gs rs))] = none := by
  have e1 : (("changed" : Str) == "size") = false := by decide +kernel
  have e2 : (("changed" : Str) == "jobs") = false := by decide +kernel
  simp only [List.lookup, e1, e2]
theorem put_ok {n k : Nat} {rs : List (List Int)} {p : Int} (hn : n ≤ 7) (hl : rs.length ≤ 7) (h : ∀ r, r ∈ rs → Row n r) (hk : k < rs.length) (h0 : 0 ≤ p) (h1 : p < n) :
    m_Jobs_put a [job a n rs, .int (k : Int), .int p] = .ok (true, job a n (wR rs k (morI n rs[k] p))) [] := by
  have hc := changed_ok a hn hl h hk (morI_row n rs[k] p)
  have ht := together_ok a hn (h rs[k] (List.getElem_mem hk)) h0 h1
  have hi := dIx_tup (getD_gs hk)
  have z1 : 1 ≤ sizeLine := by decide
  simp only [job] at hc ⊢
  simp only [m_Jobs_put, g_Jobs_put, ↓noX, ↓fnOf, initE, List.replicate, List.length_cons, List.length_nil, List.cons_append, List.nil_append, Nat.sub_self, Nat.reduceSub, Nat.reduceAdd, ↓sSeq, ↓sIf_eq, ↓sSet, ↓sRet, ↓sRetN, ↓sExpr, ↓sNil, ↓sNever, ↓sFor, ↓sAsg, ↓sFldS, ↓sAugIx, ↓sSetIx, ↓putIx, ↓sPar2, ↓sPar3, ↓M.then, ↓bind_eq, ↓M.ret, ↓M.bad, ↓M.get, ↓M.esc, ↓M.arg, ↓M.nrm, ↓M.res, ↓M.wipe, look, getE, ↓put, isMu_eq, muB_none, muB_sh, muB_ow, muB_mu, ↓eVar, ↓eC, ↓eOp1, ↓eOp2, ↓eBool_eq, ↓eAnd_eq, ↓eOr_eq, ↓eNot, ↓eAndV_eq, ↓eOrV_eq, ↓eNotV_eq, ↓eIf_eq, ↓eChain, ↓aNil, ↓aCons, ↓lCons, ↓kCons, ↓sCons, ↓eTup_eq, ↓eLst_eq, ↓eLc_eq, ↓eYes, ↓iSeq_eq, ↓Cw.iEnum, ↓iRng1D_eq, ↓iRng2D, ↓eLRg, ↓eTRg, ↓rg1_eq, ↓rg2, ↓eSl, ↓oNone, ↓oSome_eq, ↓eCallB, ↓getAll, ↓eCall, ↓callM, gather, scatter, muI, toRV, ↓eMake, ↓makeM, ↓eMeth_eq, ↓eFld_eq, ↓eMut_eq, finR, muOf, List.set, ↓gN, ↓fstep, ↓gT, ↓gsCons, ↓gsNil, noMu, wipeE, List.all_cons, List.all_nil, Bool.and_true, Bool.true_and, Bool.not_false, Bool.not_true, if_true, if_false, ite_true, ite_false, Bool.false_eq_true, reduceIte, reduceCtorEq, List.nodup_cons, List.nodup_nil, List.not_mem_nil, not_false_eq_true, and_self, and_true, true_and, List.mem_cons, List.mem_singleton, or_false, decide_true, decide_false, List.getElem?_cons_zero, List.getElem?_cons_succ, dEq_int, dNe_int, dEq_str, dCmp_int, dAdd_int, dSub_int, dInt_int, dAbs_int, dLen_lst, dLen_tup, dList_lst, dList_tup, dTuple_lst, dTuple_tup, fld_jobs, lk_changed, hi, ht, hc, z1]
theorem struck_ok {n k : Nat} {rs : List (List Int)} {p : Int} (hn : n ≤ 7) (hl : rs.length ≤ 7) (h : ∀ r, r ∈ rs → Row n r) (hk : k < rs.length) :
    m_Jobs_struck a [job a n rs, .int (k : Int), .int p] = .ok (true, job a n (wR rs k (rs[k].filter (notIn [p])))) [] := by
  have hr := h rs[k] (List.getElem_mem hk)
  have hc := changed_ok a hn hl h hk (lessI_row hr [p])
  have ht := apart_ok a (xs := rs[k]) (ys := [p]) (by have := hr.len; omega)
  have e : ii [p] = [.int p] := rfl
  rw [e] at ht
  have hi := dIx_tup (getD_gs hk)
  have z1 : 1 ≤ sizeLine := by decide
  simp only [job] at hc ⊢
  simp only [m_Jobs_struck, g_Jobs_struck, ↓noX, ↓fnOf, initE, List.replicate, List.length_cons, List.length_nil, List.cons_append, List.nil_append, Nat.sub_self, Nat.reduceSub, Nat.reduceAdd, ↓sSeq, ↓sIf_eq, ↓sSet, ↓sRet, ↓sRetN, ↓sExpr, ↓sNil, ↓sNever, ↓sFor, ↓sAsg, ↓sFldS, ↓sAugIx, ↓sSetIx, ↓putIx, ↓sPar2, ↓sPar3, ↓M.then, ↓bind_eq, ↓M.ret, ↓M.bad, ↓M.get, ↓M.esc, ↓M.arg, ↓M.nrm, ↓M.res, ↓M.wipe, look, getE, ↓put, isMu_eq, muB_none, muB_sh, muB_ow, muB_mu, ↓eVar, ↓eC, ↓eOp1, ↓eOp2, ↓eBool_eq, ↓eAnd_eq, ↓eOr_eq, ↓eNot, ↓eAndV_eq, ↓eOrV_eq, ↓eNotV_eq, ↓eIf_eq, ↓eChain, ↓aNil, ↓aCons, ↓lCons, ↓kCons, ↓sCons, ↓eTup_eq, ↓eLst_eq, ↓eLc_eq, ↓eYes, ↓iSeq_eq, ↓Cw.iEnum, ↓iRng1D_eq, ↓iRng2D, ↓eLRg, ↓eTRg, ↓rg1_eq, ↓rg2, ↓eSl, ↓oNone, ↓oSome_eq, ↓eCallB, ↓getAll, ↓eCall, ↓callM, gather, scatter, muI, toRV, ↓eMake, ↓makeM, ↓eMeth_eq, ↓eFld_eq, ↓eMut_eq, finR, muOf, List.set, ↓gN, ↓fstep, ↓gT, ↓gsCons, ↓gsNil, noMu, wipeE, List.all_cons, List.all_nil, Bool.and_true, Bool.true_and, Bool.not_false, Bool.not_true, if_true, if_false, ite_true, ite_false, Bool.false_eq_true, reduceIte, reduceCtorEq, List.nodup_cons, List.nodup_nil, List.not_mem_nil, not_false_eq_true, and_self, and_true, true_and, List.mem_cons, List.mem_singleton, or_false, decide_true, decide_false, List.getElem?_cons_zero, List.getElem?_cons_succ, dEq_int, dNe_int, dEq_str, dCmp_int, dAdd_int, dSub_int, dInt_int, dAbs_int, dLen_lst, dLen_tup, dList_lst, dList_tup, dTuple_lst, dTuple_tup, fld_jobs, lk_changed, hi, ht, hc, z1]
end K15

namespace K15
open PySem L2 Cw
variable (a : Nat → Addr)
def pickR (rs : List (List Int)) (ixs : List Int) : List (List Int) := ixs.map fun i => rs.getD i.toNat []
def pickD (rs : List (List Int)) : D → D
  | .int i => .tup (ii (rs.getD i.toNat []))
  | d => d
theorem pick_ii (rs : List (List Int)) (ixs : List Int) : (ii ixs).map (pickD rs) = gs (pickR rs ixs) := by
  unfold ii gs pickR
  rw [List.map_map, List.map_map]
  rfl
theorem pickR_rows {n : Nat} {rs : List (List Int)} {ixs : List Int} (h : ∀ r, r ∈ rs → Row n r) : ∀ r, r ∈ pickR rs ixs → Row n r := by
  intro r hr
  obtain ⟨i, _, rfl⟩ := List.mem_map.mp hr
  rw [List.getD_eq_getElem?_getD]
  cases w : rs[i.toNat]? with
  | none => exact List.nil_sublist _
  | some x => exact h x (List.mem_of_getElem? w)
theorem dIx_pick {X : D} {xs : List D} {rs : List (List Int)} {i : Int} (h0 : 0 ≤ i) (h1 : i < rs.length) (hx : ∀ k (h : k < rs.length), dIx X (.int (k : Int)) = some (false, .tup (ii rs[k]))) : dIx X (.int i) = some (false, pickD rs (.int i)) := by
  obtain ⟨k, rfl⟩ := Int.eq_ofNat_of_zero_le h0
  have hk : k < rs.length := by omega
  rw [hx k hk]
  show _ = some (false, D.tup (ii (rs.getD (k : Int).toNat [])))
  rw [List.getD_eq_getElem?_getD, Int.toNat_natCast, List.getElem?_eq_getElem hk]
  rfl
theorem picked_ok {n : Nat} {rs : List (List Int)} {ixs : List Int} (hn : n ≤ 7) (hl : ixs.length ≤ 7) (h : ∀ r, r ∈ rs → Row n r) (hx : ∀ i, i ∈ ixs → 0 ≤ i ∧ i < rs.length) :
    m_Jobs_picked a [job a n rs, .tup (ii ixs)] = .ok (true, job a n (pickR rs ixs)) [] := by
  have hi := init_ok a hn (rs := pickR rs ixs) (by unfold pickR; rw [List.length_map]; exact hl) (pickR_rows h)
  have h1 : lcL [2] (gN 2) eYes (eOp2 dIx (eFld (a 12) "jobs" (eVar 0)) (eVar 2)) (ii ixs) [some (Fl.sh, job a n rs), some (Fl.sh, .tup (ii ixs)), none] = .ok ((ii ixs).map (pickD rs)) [some (Fl.sh, job a n rs), some (Fl.sh, .tup (ii ixs)), none] := lcL_map _ fun d hd => by
    obtain ⟨i, hi, rfl⟩ := List.mem_map.mp hd
    have q := dIx_pick (X := .tup (gs rs)) (xs := []) (hx i hi).1 (hx i hi).2 fun k h => dIx_tup (getD_gs h)
    refine ⟨_, [some (Fl.sh, job a n rs), some (Fl.sh, .tup (ii ixs)), some (Fl.sh, .int i)], rfl, ?_, rfl, rfl⟩
    simp only [job, ↓noX, ↓fnOf, initE, List.replicate, List.length_cons, List.length_nil, List.cons_append, List.nil_append, Nat.sub_self, Nat.reduceSub, Nat.reduceAdd, ↓sSeq, ↓sIf_eq, ↓sSet, ↓sRet, ↓sRetN, ↓sExpr, ↓sNil, ↓sNever, ↓sFor, ↓sAsg, ↓sFldS, ↓sAugIx, ↓sSetIx, ↓putIx, ↓sPar2, ↓sPar3, ↓M.then, ↓bind_eq, ↓M.ret, ↓M.bad, ↓M.get, ↓M.esc, ↓M.arg, ↓M.nrm, ↓M.res, ↓M.wipe, look, getE, ↓put, isMu_eq, muB_none, muB_sh, muB_ow, muB_mu, ↓eVar, ↓eC, ↓eOp1, ↓eOp2, ↓eBool_eq, ↓eAnd_eq, ↓eOr_eq, ↓eNot, ↓eAndV_eq, ↓eOrV_eq, ↓eNotV_eq, ↓eIf_eq, ↓eChain, ↓aNil, ↓aCons, ↓lCons, ↓kCons, ↓sCons, ↓eTup_eq, ↓eLst_eq, ↓eLc_eq, ↓eYes, ↓iSeq_eq, ↓Cw.iEnum, ↓iRng1D_eq, ↓iRng2D, ↓eLRg, ↓eTRg, ↓rg1_eq, ↓rg2, ↓eSl, ↓oNone, ↓oSome_eq, ↓eCallB, ↓getAll, ↓eCall, ↓callM, gather, scatter, muI, toRV, ↓eMake, ↓makeM, ↓eMeth_eq, ↓eFld_eq, ↓eMut_eq, finR, muOf, List.set, ↓gN, ↓fstep, ↓gT, ↓gsCons, ↓gsNil, noMu, wipeE, List.all_cons, List.all_nil, Bool.and_true, Bool.true_and, Bool.not_false, Bool.not_true, if_true, if_false, ite_true, ite_false, Bool.false_eq_true, reduceIte, reduceCtorEq, List.nodup_cons, List.nodup_nil, List.not_mem_nil, not_false_eq_true, and_self, and_true, true_and, List.mem_cons, List.mem_singleton, or_false, decide_true, decide_false, List.getElem?_cons_zero, List.getElem?_cons_succ, dEq_int, dNe_int, dEq_str, dCmp_int, dAdd_int, dSub_int, dInt_int, dAbs_int, dLen_lst, dLen_tup, dList_lst, dList_tup, dTuple_lst, dTuple_tup, fld_jobs, q]
  rw [pick_ii] at h1
  have hz : (gs (pickR rs ixs)).length ≤ sizeLine := szL (by rw [gs_length]; unfold pickR; rw [List.length_map]; omega)
  simp only [job] at h1 hi ⊢
  simp only [m_Jobs_picked, g_Jobs_picked, ↓noX, ↓fnOf, initE, List.replicate, List.length_cons, List.length_nil, List.cons_append, List.nil_append, Nat.sub_self, Nat.reduceSub, Nat.reduceAdd, ↓sSeq, ↓sIf_eq, ↓sSet, ↓sRet, ↓sRetN, ↓sExpr, ↓sNil, ↓sNever, ↓sFor, ↓sAsg, ↓sFldS, ↓sAugIx, ↓sSetIx, ↓putIx, ↓sPar2, ↓sPar3, ↓M.then, ↓bind_eq, ↓M.ret, ↓M.bad, ↓M.get, ↓M.esc, ↓M.arg, ↓M.nrm, ↓M.res, ↓M.wipe, look, getE, ↓put, isMu_eq, muB_none, muB_sh, muB_ow, muB_mu, ↓eVar, ↓eC, ↓eOp1, ↓eOp2, ↓eBool_eq, ↓eAnd_eq, ↓eOr_eq, ↓eNot, ↓eAndV_eq, ↓eOrV_eq, ↓eNotV_eq, ↓eIf_eq, ↓eChain, ↓aNil, ↓aCons, ↓lCons, ↓kCons, ↓sCons, ↓eTup_eq, ↓eLst_eq, ↓eLc_eq, ↓eYes, ↓iSeq_eq, ↓Cw.iEnum, ↓iRng1D_eq, ↓iRng2D, ↓eLRg, ↓eTRg, ↓rg1_eq, ↓rg2, ↓eSl, ↓oNone, ↓oSome_eq, ↓eCallB, ↓getAll, ↓eCall, ↓callM, gather, scatter, muI, toRV, ↓eMake, ↓makeM, ↓eMeth_eq, ↓eFld_eq, ↓eMut_eq, finR, muOf, List.set, ↓gN, ↓fstep, ↓gT, ↓gsCons, ↓gsNil, noMu, wipeE, List.all_cons, List.all_nil, Bool.and_true, Bool.true_and, Bool.not_false, Bool.not_true, if_true, if_false, ite_true, ite_false, Bool.false_eq_true, reduceIte, reduceCtorEq, List.nodup_cons, List.nodup_nil, List.not_mem_nil, not_false_eq_true, and_self, and_true, true_and, List.mem_cons, List.mem_singleton, or_false, decide_true, decide_false, List.getElem?_cons_zero, List.getElem?_cons_succ, dEq_int, dNe_int, dEq_str, dCmp_int, dAdd_int, dSub_int, dInt_int, dAbs_int, dLen_lst, dLen_tup, dList_lst, dList_tup, dTuple_lst, dTuple_tup, fld_jobs, fld_size, ↓h1, hz, hi]
theorem eq_ok {n : Nat} {rs : List (List Int)} (hn : n ≤ 7) (hl : rs.length ≤ 7) (h : ∀ r, r ∈ rs → Row n r) : m_Jobs_UeqU a [job a n rs, job a n rs] = .ok (false, .bl true) [] := by
  have he := (rows_nice h (by omega)).tup.eq (by decide)
  have hc : a 12 ∈ Cs a := by unfold Cs; exact List.mem_singleton.mpr rfl
  have hi := isi_cc (Cs a) (a 12) [("size", .int (n : Int)), ("jobs", .tup (gs rs))] hc
  simp only [m_Jobs_UeqU, g_Jobs_UeqU, job, ↓noX, ↓fnOf, initE, List.replicate, List.length_cons, List.length_nil, List.cons_append, List.nil_append, Nat.sub_self, Nat.reduceSub, Nat.reduceAdd, ↓sSeq, ↓sIf_eq, ↓sSet, ↓sRet, ↓sRetN, ↓sExpr, ↓sNil, ↓sNever, ↓sFor, ↓sAsg, ↓sFldS, ↓sAugIx, ↓sSetIx, ↓putIx, ↓sPar2, ↓sPar3, ↓M.then, ↓bind_eq, ↓M.ret, ↓M.bad, ↓M.get, ↓M.esc, ↓M.arg, ↓M.nrm, ↓M.res, ↓M.wipe, look, getE, ↓put, isMu_eq, muB_none, muB_sh, muB_ow, muB_mu, ↓eVar, ↓eC, ↓eOp1, ↓eOp2, ↓eBool_eq, ↓eAnd_eq, ↓eOr_eq, ↓eNot, ↓eAndV_eq, ↓eOrV_eq, ↓eNotV_eq, ↓eIf_eq, ↓eChain, ↓aNil, ↓aCons, ↓lCons, ↓kCons, ↓sCons, ↓eTup_eq, ↓eLst_eq, ↓eLc_eq, ↓eYes, ↓iSeq_eq, ↓Cw.iEnum, ↓iRng1D_eq, ↓iRng2D, ↓eLRg, ↓eTRg, ↓rg1_eq, ↓rg2, ↓eSl, ↓oNone, ↓oSome_eq, ↓eCallB, ↓getAll, ↓eCall, ↓callM, gather, scatter, muI, toRV, ↓eMake, ↓makeM, ↓eMeth_eq, ↓eFld_eq, ↓eMut_eq, finR, muOf, List.set, ↓gN, ↓fstep, ↓gT, ↓gsCons, ↓gsNil, noMu, wipeE, List.all_cons, List.all_nil, Bool.and_true, Bool.true_and, Bool.not_false, Bool.not_true, if_true, if_false, ite_true, ite_false, Bool.false_eq_true, reduceIte, reduceCtorEq, List.nodup_cons, List.nodup_nil, List.not_mem_nil, not_false_eq_true, and_self, and_true, true_and, List.mem_cons, List.mem_singleton, or_false, decide_true, decide_false, List.getElem?_cons_zero, List.getElem?_cons_succ, dEq_int, dNe_int, dEq_str, dCmp_int, dAdd_int, dSub_int, dInt_int, dAbs_int, dLen_lst, dLen_tup, dList_lst, dList_tup, dTuple_lst, dTuple_tup, fld_jobs, fld_size, he, hi]
theorem wR_wR {rs : List (List Int)} {k : Nat} (h : k < rs.length) (r r' : List Int) : wR (wR rs k r) k r' = wR rs k r' := by
  have e : (rs.take k).length = k := by rw [List.length_take]; omega
  unfold wR
  rw [List.take_left' e, ← List.singleton_append (l := rs.drop (k + 1)), ← List.append_assoc, List.drop_left' (by rw [List.length_append, e]; rfl)]
theorem notIn_one (p : Int) : notIn [p] = fun i => !decide (i = p) := by
  funext i
  unfold notIn
  rw [show decide (i ∈ [p]) = decide (i = p) from by rw [Bool.eq_iff_iff, decide_eq_true_eq, decide_eq_true_eq]; exact List.mem_singleton]
end K15

namespace K15
open PySem L2 Cw
variable (a : Nat → Addr)
theorem lk_put (n : Nat) (rs : List (List Int)) : List.lookup ("put" : Str) [(("size" : Str), D.int (n : Int)), ("jobs", .tup (gs rs))] = none := by
  have e1 : (("put" : Str) == "size") = false := by decide +kernel
  have e2 : (("put" : Str) == "jobs") = false := by decide +kernel
  simp only [List.lookup, e1, e2]
theorem lk_struck (n : Nat) (rs : List (List Int)) : List.lookup ("struck" : Str) [(("size" : Str), D.int (n : Int)), ("jobs", .tup (gs rs))] = none := by
  have e1 : (("struck" : Str) == "size") = false := by decide +kernel
  have e2 : (("struck" : Str) == "jobs") = false := by decide +kernel
  simp only [List.lookup, e1, e2]
theorem lk_open_to (n : Nat) (rs : List (List Int)) : List.lookup ("open_to" : Str) [(("size" : Str), D.int (n : Int)), ("jobs", .tup (gs rs))] = none := by
  have e1 : (("open_to" : Str) == "size") = false := by decide +kernel
  have e2 : (("open_to" : Str) == "jobs") = false := by decide +kernel
  simp only [List.lookup, e1, e2]
theorem lk_outside (n : Nat) (rs : List (List Int)) : List.lookup ("outside" : Str) [(("size" : Str), D.int (n : Int)), ("jobs", .tup (gs rs))] = none := by
  have e1 : (("outside" : Str) == "size") = false := by decide +kernel
  have e2 : (("outside" : Str) == "jobs") = false := by decide +kernel
  simp only [List.lookup, e1, e2]
theorem lk_picked (n : Nat) (rs : List (List Int)) : List.lookup ("picked" : Str) [(("size" : Str), D.int (n : Int)), ("jobs", .tup (gs rs))] = none := by
  have e1 : (("picked" : Str) == "size") = false := by decide +kernel
  have e2 : (("picked" : Str) == "jobs") = false := by decide +kernel
  simp only [List.lookup, e1, e2]
/-- what is told of a list of rows -/
theorem told_nice {n : Nat} {rs : List (List Int)} (hn : n ≤ 7) (hl : rs.length ≤ 7) (h : ∀ r, r ∈ rs → Row n r) : Nice 3 3000 (.tup [.int (n : Int), .tup (gs rs)]) := by
  have h1 := (rows_nice h (by omega)).tup
  have h2 : Nice 0 41 (.int (n : Int)) := Nice.int (by omega)
  have := (NiceL.cons h2 (NiceL.cons h1 NiceL.nil)).tup
  refine this.mono (by decide) ?_
  have : rs.length * (n * 42 + 1) ≤ 7 * 295 := Nat.mul_le_mul hl (by omega)
  omega
theorem two_nice {k m : Nat} {x y : D} (hx : Nice k m x) (hy : Nice k m y) : Nice (k + 1) (2 * m + 2) (.lst [x, y]) := by
  have := (NiceL.cons hx (NiceL.cons hy NiceL.nil)).lst
  exact this.mono (by omega) (by omega)
theorem ints_nice {xs : List Int} (hl : xs.length ≤ 64) (h : ∀ i, i ∈ xs → 0 ≤ i ∧ i < 64) : Nice 1 2688 (.tup (ii xs)) := by
  have := (NiceL.ii (xs := xs) fun i hi => by have := h i hi; omega).tup
  exact this.mono (by omega) (by omega)
theorem openI_small {rs : List (List Int)} {g : List Int} (hl : rs.length ≤ 64) : ∀ i, i ∈ openI rs g → 0 ≤ i ∧ i < 64 := by
  intro i hi
  have := mem_rg.mp (List.mem_filter.mp hi).1
  omega
theorem open_nice {rs : List (List Int)} (g : List Int) (hl : rs.length ≤ 64) : Nice 1 2688 (.tup (ii (openI rs g))) := ints_nice (Nat.le_trans (openI_len rs g) hl) (openI_small hl)
theorem rest_nice {n : Nat} (g : List Int) (hn : n ≤ 64) : Nice 1 2688 (.tup (ii ((rg n).filter (notIn g)))) := ints_nice (Nat.le_trans (List.length_filter_le _ _) (by rw [rg_length]; exact hn)) fun i hi => by
  have := mem_rg.mp (List.mem_filter.mp hi).1
  omega
theorem iSeq_l (o2 o3 o4 : Option (Fl × D)) (R : D) (g : List Int) : iSeq (eVar 1) [some (Fl.sh, R), some (Fl.sh, .lst (ii g)), o2, o3, o4] = .ok (ii g) [some (Fl.sh, R), some (Fl.sh, .lst (ii g)), o2, o3, o4] := by
  simp only [↓noX, ↓fnOf, initE, List.replicate, List.length_cons, List.length_nil, List.cons_append, List.nil_append, Nat.sub_self, Nat.reduceSub, Nat.reduceAdd, ↓sSeq, ↓sIf_eq, ↓sSet, ↓sRet, ↓sRetN, ↓sExpr, ↓sNil, ↓sNever, ↓sFor, ↓sAsg, ↓sFldS, ↓sAugIx, ↓sSetIx, ↓putIx, ↓sPar2, ↓sPar3, ↓M.then, ↓bind_eq, ↓M.ret, ↓M.bad, ↓M.get, ↓M.esc, ↓M.arg, ↓M.nrm, ↓M.res, ↓M.wipe, look, getE, ↓put, isMu_eq, muB_none, muB_sh, muB_ow, muB_mu, ↓eVar, ↓eC, ↓eOp1, ↓eOp2, ↓eBool_eq, ↓eAnd_eq, ↓eOr_eq, ↓eNot, ↓eAndV_eq, ↓eOrV_eq, ↓eNotV_eq, ↓eIf_eq, ↓eChain, ↓aNil, ↓aCons, ↓lCons, ↓kCons, ↓sCons, ↓eTup_eq, ↓eLst_eq, ↓eLc_eq, ↓eYes, ↓iSeq_eq, ↓Cw.iEnum, ↓iRng1D_eq, ↓iRng2D, ↓eLRg, ↓eTRg, ↓rg1_eq, ↓rg2, ↓eSl, ↓oNone, ↓oSome_eq, ↓eCallB, ↓getAll, ↓eCall, ↓callM, gather, scatter, muI, toRV, ↓eMake, ↓makeM, ↓eMeth_eq, ↓eFld_eq, ↓eMut_eq, finR, muOf, List.set, ↓gN, ↓fstep, ↓gT, ↓gsCons, ↓gsNil, noMu, wipeE, List.all_cons, List.all_nil, Bool.and_true, Bool.true_and, Bool.not_false, Bool.not_true, if_true, if_false, ite_true, ite_false, Bool.false_eq_true, reduceIte, reduceCtorEq, List.nodup_cons, List.nodup_nil, List.not_mem_nil, not_false_eq_true, and_self, and_true, true_and, List.mem_cons, List.mem_singleton, or_false, decide_true, decide_false, List.getElem?_cons_zero, List.getElem?_cons_succ, dEq_int, dNe_int, dEq_str, dCmp_int, dAdd_int, dSub_int, dInt_int, dAbs_int, dLen_lst, dLen_tup, dList_lst, dList_tup, dTuple_lst, dTuple_tup]
theorem iSeq_t (o2 o3 o4 : Option (Fl × D)) (R : D) (g : List Int) : iSeq (eVar 1) [some (Fl.sh, R), some (Fl.sh, .tup (ii g)), o2, o3, o4] = .ok (ii g) [some (Fl.sh, R), some (Fl.sh, .tup (ii g)), o2, o3, o4] := by
  simp only [↓noX, ↓fnOf, initE, List.replicate, List.length_cons, List.length_nil, List.cons_append, List.nil_append, Nat.sub_self, Nat.reduceSub, Nat.reduceAdd, ↓sSeq, ↓sIf_eq, ↓sSet, ↓sRet, ↓sRetN, ↓sExpr, ↓sNil, ↓sNever, ↓sFor, ↓sAsg, ↓sFldS, ↓sAugIx, ↓sSetIx, ↓putIx, ↓sPar2, ↓sPar3, ↓M.then, ↓bind_eq, ↓M.ret, ↓M.bad, ↓M.get, ↓M.esc, ↓M.arg, ↓M.nrm, ↓M.res, ↓M.wipe, look, getE, ↓put, isMu_eq, muB_none, muB_sh, muB_ow, muB_mu, ↓eVar, ↓eC, ↓eOp1, ↓eOp2, ↓eBool_eq, ↓eAnd_eq, ↓eOr_eq, ↓eNot, ↓eAndV_eq, ↓eOrV_eq, ↓eNotV_eq, ↓eIf_eq, ↓eChain, ↓aNil, ↓aCons, ↓lCons, ↓kCons, ↓sCons, ↓eTup_eq, ↓eLst_eq, ↓eLc_eq, ↓eYes, ↓iSeq_eq, ↓Cw.iEnum, ↓iRng1D_eq, ↓iRng2D, ↓eLRg, ↓eTRg, ↓rg1_eq, ↓rg2, ↓eSl, ↓oNone, ↓oSome_eq, ↓eCallB, ↓getAll, ↓eCall, ↓callM, gather, scatter, muI, toRV, ↓eMake, ↓makeM, ↓eMeth_eq, ↓eFld_eq, ↓eMut_eq, finR, muOf, List.set, ↓gN, ↓fstep, ↓gT, ↓gsCons, ↓gsNil, noMu, wipeE, List.all_cons, List.all_nil, Bool.and_true, Bool.true_and, Bool.not_false, Bool.not_true, if_true, if_false, ite_true, ite_false, Bool.false_eq_true, reduceIte, reduceCtorEq, List.nodup_cons, List.nodup_nil, List.not_mem_nil, not_false_eq_true, and_self, and_true, true_and, List.mem_cons, List.mem_singleton, or_false, decide_true, decide_false, List.getElem?_cons_zero, List.getElem?_cons_succ, dEq_int, dNe_int, dEq_str, dCmp_int, dAdd_int, dSub_int, dInt_int, dAbs_int, dLen_lst, dLen_tup, dList_lst, dList_tup, dTuple_lst, dTuple_tup]
theorem lawOpen_tt {rs : List (List Int)} {g : List Int} (hl : rs.length ≤ 64) (hg : ∀ p, p ∈ g → 0 ≤ p ∧ p < 64) (hgl : g.length ≤ 64) : m_law_open a [.tup (gs rs), .tup (ii g)] = .ok (false, .tup (ii (openI rs g))) [] :=
  lawOpen_gen a hl hg hgl (by rw [dLen_tup, gs_length]) (fun k h => dIx_tup (getD_gs h)) fun o2 o3 o4 => iSeq_t o2 o3 o4 _ _
theorem lawOpen_lt {rs : List (List Int)} {g : List Int} (hl : rs.length ≤ 64) (hg : ∀ p, p ∈ g → 0 ≤ p ∧ p < 64) (hgl : g.length ≤ 64) : m_law_open a [.lst (gs rs), .tup (ii g)] = .ok (false, .tup (ii (openI rs g))) [] :=
  lawOpen_gen a hl hg hgl (by rw [dLen_lst, gs_length]) (fun k h => dIx_lst (getD_gs h)) fun o2 o3 o4 => iSeq_t o2 o3 o4 _ _
theorem lawOpen_ll {rs : List (List Int)} {g : List Int} (hl : rs.length ≤ 64) (hg : ∀ p, p ∈ g → 0 ≤ p ∧ p < 64) (hgl : g.length ≤ 64) : m_law_open a [.lst (gs rs), .lst (ii g)] = .ok (false, .tup (ii (openI rs g))) [] :=
  lawOpen_gen a hl hg hgl (by rw [dLen_lst, gs_length]) (fun k h => dIx_lst (getD_gs h)) fun o2 o3 o4 => iSeq_l o2 o3 o4 _ _
theorem changed_right_ok {x y z : Int} {cs : List Int} {n k : Nat} {rs : List (List Int)} (h : BagOk x y z cs) (h0 : 0 < n) (hn : n ≤ 7) (hl : rs.length ≤ 7) (hrs : ∀ r, r ∈ rs → Row n r) (hk : k < rs.length) :
    ∃ x' y' z', m_law_changed_right a [bagD x y z cs, job a n rs, .int (n : Int), .lst (gs rs), .int (k : Int)] = .ok (false, .bl true) [bagD x' y' z' cs] ∧ BagOk x' y' z' cs := by
  obtain ⟨p, x1, y1, z1, t1, p0, p1, b1⟩ := take_ok a h (many := (n : Int)) (by omega) (by omega)
  obtain ⟨o, x2, y2, z2, t2, o0, o1, b2⟩ := take_ok a b1 (many := (n : Int)) (by omega) (by omega)
  have hrow := hrs rs[k] (List.getElem_mem hk)
  obtain ⟨more, hmore⟩ : ∃ l, l = morI n rs[k] p := ⟨_, rfl⟩
  obtain ⟨less, hless⟩ : ∃ l, l = rs[k].filter (notIn [p]) := ⟨_, rfl⟩
  have mrow : Row n more := by rw [hmore]; exact morI_row n rs[k] p
  have lrow : Row n less := by rw [hless]; exact lessI_row hrow [p]
  obtain ⟨back, hback⟩ : ∃ l, l = more.filter (notIn [o]) := ⟨_, rfl⟩
  obtain ⟨again, hagain⟩ : ∃ l, l = morI n less o := ⟨_, rfl⟩
  have brow : Row n back := by rw [hback]; exact lessI_row mrow [o]
  have arow : Row n again := by rw [hagain]; exact morI_row n less o
  have kput := put_ok a hn hl hrs hk p0 p1
  have kstr := struck_ok a (p := p) hn hl hrs hk
  rw [← hmore] at kput
  rw [← hless] at kstr
  have kback := struck_ok a (p := o) (rs := wR rs k more) (k := k) hn (by rw [wR_len hk]; exact hl) (wR_rows hrs mrow) (by rw [wR_len hk]; exact hk)
  have kagain := put_ok a (p := o) (rs := wR rs k less) (k := k) hn (by rw [wR_len hk]; exact hl) (wR_rows hrs lrow) (by rw [wR_len hk]; exact hk) o0 o1
  rw [wR_get hk, wR_wR hk, ← hback] at kback
  rw [wR_get hk, wR_wR hk, ← hagain] at kagain
  have hix := dIx_lst (getD_gs hk)
  have hr := rgOk_nat n (by omega)
  have c1 : lcL [16] (gN 16) (eOr (eBool (eOp2 (dIn false) (eVar 16) (eOp2 dIx (eVar 3) (eVar 4)))) (eBool (eOp2 (dEq false) (eVar 16) (eVar 5)))) (eVar 16) (ii (rg n)) [some (Fl.mu, bagD x2 y2 z2 cs), some (Fl.sh, job a n rs), some (Fl.sh, .int (n : Int)), some (Fl.sh, .lst (gs rs)), some (Fl.sh, .int (k : Int)), some (Fl.sh, .int p), some (Fl.sh, .int o), some (Fl.sh, .lst (ii (rg n))), none, none, none, none, none, none, none, none, none] = .ok (ii (morI n rs[k] p)) [some (Fl.mu, bagD x2 y2 z2 cs), some (Fl.sh, job a n rs), some (Fl.sh, .int (n : Int)), some (Fl.sh, .lst (gs rs)), some (Fl.sh, .int (k : Int)), some (Fl.sh, .int p), some (Fl.sh, .int o), some (Fl.sh, .lst (ii (rg n))), none, none, none, none, none, none, none, none, none] := lcL_filt (fun q => decide (q ∈ rs[k]) || decide (q = p)) fun i hi => by
    refine ⟨_, [some (Fl.mu, bagD x2 y2 z2 cs), some (Fl.sh, job a n rs), some (Fl.sh, .int (n : Int)), some (Fl.sh, .lst (gs rs)), some (Fl.sh, .int (k : Int)), some (Fl.sh, .int p), some (Fl.sh, .int o), some (Fl.sh, .lst (ii (rg n))), none, none, none, none, none, none, none, none, some (Fl.sh, .int i)], rfl, ?_, rfl, rfl, rfl⟩
    by_cases ci : i ∈ rs[k]
    · simp only [↓noX, ↓fnOf, initE, List.replicate, List.length_cons, List.length_nil, List.cons_append, List.nil_append, Nat.sub_self, Nat.reduceSub, Nat.reduceAdd, ↓sSeq, ↓sIf_eq, ↓sSet, ↓sRet, ↓sRetN, ↓sExpr, ↓sNil, ↓sNever, ↓sFor, ↓sAsg, ↓sFldS, ↓sAugIx, ↓sSetIx, ↓putIx, ↓sPar2, ↓sPar3, ↓M.then, ↓bind_eq, ↓M.ret, ↓M.bad, ↓M.get, ↓M.esc, ↓M.arg, ↓M.nrm, ↓M.res, ↓M.wipe, look, getE, ↓put, isMu_eq, muB_none, muB_sh, muB_ow, muB_mu, ↓eVar, ↓eC, ↓eOp1, ↓eOp2, ↓eBool_eq, ↓eAnd_eq, ↓eOr_eq, ↓eNot, ↓eAndV_eq, ↓eOrV_eq, ↓eNotV_eq, ↓eIf_eq, ↓eChain, ↓aNil, ↓aCons, ↓lCons, ↓kCons, ↓sCons, ↓eTup_eq, ↓eLst_eq, ↓eLc_eq, ↓eYes, ↓iSeq_eq, ↓Cw.iEnum, ↓iRng1D_eq, ↓iRng2D, ↓eLRg, ↓eTRg, ↓rg1_eq, ↓rg2, ↓eSl, ↓oNone, ↓oSome_eq, ↓eCallB, ↓getAll, ↓eCall, ↓callM, gather, scatter, muI, toRV, ↓eMake, ↓makeM, ↓eMeth_eq, ↓eFld_eq, ↓eMut_eq, finR, muOf, List.set, ↓gN, ↓fstep, ↓gT, ↓gsCons, ↓gsNil, noMu, wipeE, List.all_cons, List.all_nil, Bool.and_true, Bool.true_and, Bool.not_false, Bool.not_true, if_true, if_false, ite_true, ite_false, Bool.false_eq_true, reduceIte, reduceCtorEq, List.nodup_cons, List.nodup_nil, List.not_mem_nil, not_false_eq_true, and_self, and_true, true_and, List.mem_cons, List.mem_singleton, or_false, decide_true, decide_false, List.getElem?_cons_zero, List.getElem?_cons_succ, dEq_int, dNe_int, dEq_str, dCmp_int, dAdd_int, dSub_int, dInt_int, dAbs_int, dLen_lst, dLen_tup, dList_lst, dList_tup, dTuple_lst, dTuple_tup, hix, dIn_tup, ci, Bool.true_or]
    · simp only [↓noX, ↓fnOf, initE, List.replicate, List.length_cons, List.length_nil, List.cons_append, List.nil_append, Nat.sub_self, Nat.reduceSub, Nat.reduceAdd, ↓sSeq, ↓sIf_eq, ↓sSet, ↓sRet, ↓sRetN, ↓sExpr, ↓sNil, ↓sNever, ↓sFor, ↓sAsg, ↓sFldS, ↓sAugIx, ↓sSetIx, ↓putIx, ↓sPar2, ↓sPar3, ↓M.then, ↓bind_eq, ↓M.ret, ↓M.bad, ↓M.get, ↓M.esc, ↓M.arg, ↓M.nrm, ↓M.res, ↓M.wipe, look, getE, ↓put, isMu_eq, muB_none, muB_sh, muB_ow, muB_mu, ↓eVar, ↓eC, ↓eOp1, ↓eOp2, ↓eBool_eq, ↓eAnd_eq, ↓eOr_eq, ↓eNot, ↓eAndV_eq, ↓eOrV_eq, ↓eNotV_eq, ↓eIf_eq, ↓eChain, ↓aNil, ↓aCons, ↓lCons, ↓kCons, ↓sCons, ↓eTup_eq, ↓eLst_eq, ↓eLc_eq, ↓eYes, ↓iSeq_eq, ↓Cw.iEnum, ↓iRng1D_eq, ↓iRng2D, ↓eLRg, ↓eTRg, ↓rg1_eq, ↓rg2, ↓eSl, ↓oNone, ↓oSome_eq, ↓eCallB, ↓getAll, ↓eCall, ↓callM, gather, scatter, muI, toRV, ↓eMake, ↓makeM, ↓eMeth_eq, ↓eFld_eq, ↓eMut_eq, finR, muOf, List.set, ↓gN, ↓fstep, ↓gT, ↓gsCons, ↓gsNil, noMu, wipeE, List.all_cons, List.all_nil, Bool.and_true, Bool.true_and, Bool.not_false, Bool.not_true, if_true, if_false, ite_true, ite_false, Bool.false_eq_true, reduceIte, reduceCtorEq, List.nodup_cons, List.nodup_nil, List.not_mem_nil, not_false_eq_true, and_self, and_true, true_and, List.mem_cons, List.mem_singleton, or_false, decide_true, decide_false, List.getElem?_cons_zero, List.getElem?_cons_succ, dEq_int, dNe_int, dEq_str, dCmp_int, dAdd_int, dSub_int, dInt_int, dAbs_int, dLen_lst, dLen_tup, dList_lst, dList_tup, dTuple_lst, dTuple_tup, hix, dIn_tup, ci, Bool.false_or]
  have c2 : lcL [16] (gN 16) (eBool (eOp2 (dEq true) (eVar 16) (eVar 5))) (eVar 16) (ii rs[k]) [some (Fl.mu, bagD x2 y2 z2 cs), some (Fl.sh, job a n rs), some (Fl.sh, .int (n : Int)), some (Fl.sh, .lst (gs rs)), some (Fl.sh, .int (k : Int)), some (Fl.sh, .int p), some (Fl.sh, .int o), some (Fl.sh, .lst (ii (rg n))), some (Fl.sh, .tup (ii more)), none, none, none, none, none, none, none, none] = .ok (ii (rs[k].filter fun i => !decide (i = p))) [some (Fl.mu, bagD x2 y2 z2 cs), some (Fl.sh, job a n rs), some (Fl.sh, .int (n : Int)), some (Fl.sh, .lst (gs rs)), some (Fl.sh, .int (k : Int)), some (Fl.sh, .int p), some (Fl.sh, .int o), some (Fl.sh, .lst (ii (rg n))), some (Fl.sh, .tup (ii more)), none, none, none, none, none, none, none, none] := lcL_filt (fun i => !decide (i = p)) fun i hi => by
    refine ⟨_, [some (Fl.mu, bagD x2 y2 z2 cs), some (Fl.sh, job a n rs), some (Fl.sh, .int (n : Int)), some (Fl.sh, .lst (gs rs)), some (Fl.sh, .int (k : Int)), some (Fl.sh, .int p), some (Fl.sh, .int o), some (Fl.sh, .lst (ii (rg n))), some (Fl.sh, .tup (ii more)), none, none, none, none, none, none, none, some (Fl.sh, .int i)], rfl, ?_, rfl, rfl, rfl⟩
    simp only [↓noX, ↓fnOf, initE, List.replicate, List.length_cons, List.length_nil, List.cons_append, List.nil_append, Nat.sub_self, Nat.reduceSub, Nat.reduceAdd, ↓sSeq, ↓sIf_eq, ↓sSet, ↓sRet, ↓sRetN, ↓sExpr, ↓sNil, ↓sNever, ↓sFor, ↓sAsg, ↓sFldS, ↓sAugIx, ↓sSetIx, ↓putIx, ↓sPar2, ↓sPar3, ↓M.then, ↓bind_eq, ↓M.ret, ↓M.bad, ↓M.get, ↓M.esc, ↓M.arg, ↓M.nrm, ↓M.res, ↓M.wipe, look, getE, ↓put, isMu_eq, muB_none, muB_sh, muB_ow, muB_mu, ↓eVar, ↓eC, ↓eOp1, ↓eOp2, ↓eBool_eq, ↓eAnd_eq, ↓eOr_eq, ↓eNot, ↓eAndV_eq, ↓eOrV_eq, ↓eNotV_eq, ↓eIf_eq, ↓eChain, ↓aNil, ↓aCons, ↓lCons, ↓kCons, ↓sCons, ↓eTup_eq, ↓eLst_eq, ↓eLc_eq, ↓eYes, ↓iSeq_eq, ↓Cw.iEnum, ↓iRng1D_eq, ↓iRng2D, ↓eLRg, ↓eTRg, ↓rg1_eq, ↓rg2, ↓eSl, ↓oNone, ↓oSome_eq, ↓eCallB, ↓getAll, ↓eCall, ↓callM, gather, scatter, muI, toRV, ↓eMake, ↓makeM, ↓eMeth_eq, ↓eFld_eq, ↓eMut_eq, finR, muOf, List.set, ↓gN, ↓fstep, ↓gT, ↓gsCons, ↓gsNil, noMu, wipeE, List.all_cons, List.all_nil, Bool.and_true, Bool.true_and, Bool.not_false, Bool.not_true, if_true, if_false, ite_true, ite_false, Bool.false_eq_true, reduceIte, reduceCtorEq, List.nodup_cons, List.nodup_nil, List.not_mem_nil, not_false_eq_true, and_self, and_true, true_and, List.mem_cons, List.mem_singleton, or_false, decide_true, decide_false, List.getElem?_cons_zero, List.getElem?_cons_succ, dEq_int, dNe_int, dEq_str, dCmp_int, dAdd_int, dSub_int, dInt_int, dAbs_int, dLen_lst, dLen_tup, dList_lst, dList_tup, dTuple_lst, dTuple_tup]
  have c3 : lcL [16] (gN 16) (eBool (eOp2 (dEq true) (eVar 16) (eVar 6))) (eVar 16) (ii more) [some (Fl.mu, bagD x2 y2 z2 cs), some (Fl.sh, job a n rs), some (Fl.sh, .int (n : Int)), some (Fl.sh, .lst (gs rs)), some (Fl.sh, .int (k : Int)), some (Fl.sh, .int p), some (Fl.sh, .int o), some (Fl.sh, .lst (ii (rg n))), some (Fl.sh, .tup (ii more)), some (Fl.sh, .tup (ii less)), some (Fl.sh, job a n (wR rs k more)), some (Fl.sh, job a n (wR rs k less)), some (Fl.sh, .lst [.tup [.int (n : Int), .tup (gs (wR rs k more))], .tup [.int (n : Int), .tup (gs (wR rs k less))]]), none, none, none, none] = .ok (ii (more.filter fun i => !decide (i = o))) [some (Fl.mu, bagD x2 y2 z2 cs), some (Fl.sh, job a n rs), some (Fl.sh, .int (n : Int)), some (Fl.sh, .lst (gs rs)), some (Fl.sh, .int (k : Int)), some (Fl.sh, .int p), some (Fl.sh, .int o), some (Fl.sh, .lst (ii (rg n))), some (Fl.sh, .tup (ii more)), some (Fl.sh, .tup (ii less)), some (Fl.sh, job a n (wR rs k more)), some (Fl.sh, job a n (wR rs k less)), some (Fl.sh, .lst [.tup [.int (n : Int), .tup (gs (wR rs k more))], .tup [.int (n : Int), .tup (gs (wR rs k less))]]), none, none, none, none] := lcL_filt (fun i => !decide (i = o)) fun i hi => by
    refine ⟨_, [some (Fl.mu, bagD x2 y2 z2 cs), some (Fl.sh, job a n rs), some (Fl.sh, .int (n : Int)), some (Fl.sh, .lst (gs rs)), some (Fl.sh, .int (k : Int)), some (Fl.sh, .int p), some (Fl.sh, .int o), some (Fl.sh, .lst (ii (rg n))), some (Fl.sh, .tup (ii more)), some (Fl.sh, .tup (ii less)), some (Fl.sh, job a n (wR rs k more)), some (Fl.sh, job a n (wR rs k less)), some (Fl.sh, .lst [.tup [.int (n : Int), .tup (gs (wR rs k more))], .tup [.int (n : Int), .tup (gs (wR rs k less))]]), none, none, none, some (Fl.sh, .int i)], rfl, ?_, rfl, rfl, rfl⟩
    simp only [↓noX, ↓fnOf, initE, List.replicate, List.length_cons, List.length_nil, List.cons_append, List.nil_append, Nat.sub_self, Nat.reduceSub, Nat.reduceAdd, ↓sSeq, ↓sIf_eq, ↓sSet, ↓sRet, ↓sRetN, ↓sExpr, ↓sNil, ↓sNever, ↓sFor, ↓sAsg, ↓sFldS, ↓sAugIx, ↓sSetIx, ↓putIx, ↓sPar2, ↓sPar3, ↓M.then, ↓bind_eq, ↓M.ret, ↓M.bad, ↓M.get, ↓M.esc, ↓M.arg, ↓M.nrm, ↓M.res, ↓M.wipe, look, getE, ↓put, isMu_eq, muB_none, muB_sh, muB_ow, muB_mu, ↓eVar, ↓eC, ↓eOp1, ↓eOp2, ↓eBool_eq, ↓eAnd_eq, ↓eOr_eq, ↓eNot, ↓eAndV_eq, ↓eOrV_eq, ↓eNotV_eq, ↓eIf_eq, ↓eChain, ↓aNil, ↓aCons, ↓lCons, ↓kCons, ↓sCons, ↓eTup_eq, ↓eLst_eq, ↓eLc_eq, ↓eYes, ↓iSeq_eq, ↓Cw.iEnum, ↓iRng1D_eq, ↓iRng2D, ↓eLRg, ↓eTRg, ↓rg1_eq, ↓rg2, ↓eSl, ↓oNone, ↓oSome_eq, ↓eCallB, ↓getAll, ↓eCall, ↓callM, gather, scatter, muI, toRV, ↓eMake, ↓makeM, ↓eMeth_eq, ↓eFld_eq, ↓eMut_eq, finR, muOf, List.set, ↓gN, ↓fstep, ↓gT, ↓gsCons, ↓gsNil, noMu, wipeE, List.all_cons, List.all_nil, Bool.and_true, Bool.true_and, Bool.not_false, Bool.not_true, if_true, if_false, ite_true, ite_false, Bool.false_eq_true, reduceIte, reduceCtorEq, List.nodup_cons, List.nodup_nil, List.not_mem_nil, not_false_eq_true, and_self, and_true, true_and, List.mem_cons, List.mem_singleton, or_false, decide_true, decide_false, List.getElem?_cons_zero, List.getElem?_cons_succ, dEq_int, dNe_int, dEq_str, dCmp_int, dAdd_int, dSub_int, dInt_int, dAbs_int, dLen_lst, dLen_tup, dList_lst, dList_tup, dTuple_lst, dTuple_tup]
  have c4 : lcL [16] (gN 16) (eOr (eBool (eOp2 (dIn false) (eVar 16) (eVar 9))) (eBool (eOp2 (dEq false) (eVar 16) (eVar 6)))) (eVar 16) (ii (rg n)) [some (Fl.mu, bagD x2 y2 z2 cs), some (Fl.sh, job a n rs), some (Fl.sh, .int (n : Int)), some (Fl.sh, .lst (gs rs)), some (Fl.sh, .int (k : Int)), some (Fl.sh, .int p), some (Fl.sh, .int o), some (Fl.sh, .lst (ii (rg n))), some (Fl.sh, .tup (ii more)), some (Fl.sh, .tup (ii less)), some (Fl.sh, job a n (wR rs k more)), some (Fl.sh, job a n (wR rs k less)), some (Fl.sh, .lst [.tup [.int (n : Int), .tup (gs (wR rs k more))], .tup [.int (n : Int), .tup (gs (wR rs k less))]]), some (Fl.sh, .tup (ii back)), none, none, none] = .ok (ii (morI n less o)) [some (Fl.mu, bagD x2 y2 z2 cs), some (Fl.sh, job a n rs), some (Fl.sh, .int (n : Int)), some (Fl.sh, .lst (gs rs)), some (Fl.sh, .int (k : Int)), some (Fl.sh, .int p), some (Fl.sh, .int o), some (Fl.sh, .lst (ii (rg n))), some (Fl.sh, .tup (ii more)), some (Fl.sh, .tup (ii less)), some (Fl.sh, job a n (wR rs k more)), some (Fl.sh, job a n (wR rs k less)), some (Fl.sh, .lst [.tup [.int (n : Int), .tup (gs (wR rs k more))], .tup [.int (n : Int), .tup (gs (wR rs k less))]]), some (Fl.sh, .tup (ii back)), none, none, none] := lcL_filt (fun q => decide (q ∈ less) || decide (q = o)) fun i hi => by
    refine ⟨_, [some (Fl.mu, bagD x2 y2 z2 cs), some (Fl.sh, job a n rs), some (Fl.sh, .int (n : Int)), some (Fl.sh, .lst (gs rs)), some (Fl.sh, .int (k : Int)), some (Fl.sh, .int p), some (Fl.sh, .int o), some (Fl.sh, .lst (ii (rg n))), some (Fl.sh, .tup (ii more)), some (Fl.sh, .tup (ii less)), some (Fl.sh, job a n (wR rs k more)), some (Fl.sh, job a n (wR rs k less)), some (Fl.sh, .lst [.tup [.int (n : Int), .tup (gs (wR rs k more))], .tup [.int (n : Int), .tup (gs (wR rs k less))]]), some (Fl.sh, .tup (ii back)), none, none, some (Fl.sh, .int i)], rfl, ?_, rfl, rfl, rfl⟩
    by_cases ci : i ∈ less
    · simp only [↓noX, ↓fnOf, initE, List.replicate, List.length_cons, List.length_nil, List.cons_append, List.nil_append, Nat.sub_self, Nat.reduceSub, Nat.reduceAdd, ↓sSeq, ↓sIf_eq, ↓sSet, ↓sRet, ↓sRetN, ↓sExpr, ↓sNil, ↓sNever, ↓sFor, ↓sAsg, ↓sFldS, ↓sAugIx, ↓sSetIx, ↓putIx, ↓sPar2, ↓sPar3, ↓M.then, ↓bind_eq, ↓M.ret, ↓M.bad, ↓M.get, ↓M.esc, ↓M.arg, ↓M.nrm, ↓M.res, ↓M.wipe, look, getE, ↓put, isMu_eq, muB_none, muB_sh, muB_ow, muB_mu, ↓eVar, ↓eC, ↓eOp1, ↓eOp2, ↓eBool_eq, ↓eAnd_eq, ↓eOr_eq, ↓eNot, ↓eAndV_eq, ↓eOrV_eq, ↓eNotV_eq, ↓eIf_eq, ↓eChain, ↓aNil, ↓aCons, ↓lCons, ↓kCons, ↓sCons, ↓eTup_eq, ↓eLst_eq, ↓eLc_eq, ↓eYes, ↓iSeq_eq, ↓Cw.iEnum, ↓iRng1D_eq, ↓iRng2D, ↓eLRg, ↓eTRg, ↓rg1_eq, ↓rg2, ↓eSl, ↓oNone, ↓oSome_eq, ↓eCallB, ↓getAll, ↓eCall, ↓callM, gather, scatter, muI, toRV, ↓eMake, ↓makeM, ↓eMeth_eq, ↓eFld_eq, ↓eMut_eq, finR, muOf, List.set, ↓gN, ↓fstep, ↓gT, ↓gsCons, ↓gsNil, noMu, wipeE, List.all_cons, List.all_nil, Bool.and_true, Bool.true_and, Bool.not_false, Bool.not_true, if_true, if_false, ite_true, ite_false, Bool.false_eq_true, reduceIte, reduceCtorEq, List.nodup_cons, List.nodup_nil, List.not_mem_nil, not_false_eq_true, and_self, and_true, true_and, List.mem_cons, List.mem_singleton, or_false, decide_true, decide_false, List.getElem?_cons_zero, List.getElem?_cons_succ, dEq_int, dNe_int, dEq_str, dCmp_int, dAdd_int, dSub_int, dInt_int, dAbs_int, dLen_lst, dLen_tup, dList_lst, dList_tup, dTuple_lst, dTuple_tup, dIn_tup, ci, Bool.true_or]
    · simp only [↓noX, ↓fnOf, initE, List.replicate, List.length_cons, List.length_nil, List.cons_append, List.nil_append, Nat.sub_self, Nat.reduceSub, Nat.reduceAdd, ↓sSeq, ↓sIf_eq, ↓sSet, ↓sRet, ↓sRetN, ↓sExpr, ↓sNil, ↓sNever, ↓sFor, ↓sAsg, ↓sFldS, ↓sAugIx, ↓sSetIx, ↓putIx, ↓sPar2, ↓sPar3, ↓M.then, ↓bind_eq, ↓M.ret, ↓M.bad, ↓M.get, ↓M.esc, ↓M.arg, ↓M.nrm, ↓M.res, ↓M.wipe, look, getE, ↓put, isMu_eq, muB_none, muB_sh, muB_ow, muB_mu, ↓eVar, ↓eC, ↓eOp1, ↓eOp2, ↓eBool_eq, ↓eAnd_eq, ↓eOr_eq, ↓eNot, ↓eAndV_eq, ↓eOrV_eq, ↓eNotV_eq, ↓eIf_eq, ↓eChain, ↓aNil, ↓aCons, ↓lCons, ↓kCons, ↓sCons, ↓eTup_eq, ↓eLst_eq, ↓eLc_eq, ↓eYes, ↓iSeq_eq, ↓Cw.iEnum, ↓iRng1D_eq, ↓iRng2D, ↓eLRg, ↓eTRg, ↓rg1_eq, ↓rg2, ↓eSl, ↓oNone, ↓oSome_eq, ↓eCallB, ↓getAll, ↓eCall, ↓callM, gather, scatter, muI, toRV, ↓eMake, ↓makeM, ↓eMeth_eq, ↓eFld_eq, ↓eMut_eq, finR, muOf, List.set, ↓gN, ↓fstep, ↓gT, ↓gsCons, ↓gsNil, noMu, wipeE, List.all_cons, List.all_nil, Bool.and_true, Bool.true_and, Bool.not_false, Bool.not_true, if_true, if_false, ite_true, ite_false, Bool.false_eq_true, reduceIte, reduceCtorEq, List.nodup_cons, List.nodup_nil, List.not_mem_nil, not_false_eq_true, and_self, and_true, true_and, List.mem_cons, List.mem_singleton, or_false, decide_true, decide_false, List.getElem?_cons_zero, List.getElem?_cons_succ, dEq_int, dNe_int, dEq_str, dCmp_int, dAdd_int, dSub_int, dInt_int, dAbs_int, dLen_lst, dLen_tup, dList_lst, dList_tup, dTuple_lst, dTuple_tup, dIn_tup, ci, Bool.false_or]
  rw [← hmore] at c1
  rw [← notIn_one, ← hless] at c2
  rw [← notIn_one, ← hback] at c3
  rw [← hagain] at c4
  have zn : ∀ {l : List Int}, Row n l → (ii l).length ≤ sizeLine := fun {l} hl => szL (by rw [ii_length]; have := hl.len; omega)
  have w1 := with_ok a (r := more) hl hk
  have w2 := with_ok a (r := less) hl hk
  have w3 := with_ok a (r := back) hl hk
  have w4 := with_ok a (r := again) hl hk
  have tn := fun {r : List Int} (hr : Row n r) => told_nice (rs := wR rs k r) hn (by rw [wR_len hk]; exact hl) (wR_rows hrs hr)
  have al1 := alike_same a (two_nice (tn mrow) (tn lrow)) (by decide) (by decide)
  have al2 := alike_same a (two_nice (tn brow) (tn arow)) (by decide) (by decide)
  have told := fun r => told_ok a (n := n) (rs := wR rs k r)
  have z1 : 1 ≤ sizeLine := by decide
  have z2 : 2 ≤ sizeLine := by decide
  have z3 : 3 ≤ sizeLine := by decide
  obtain ⟨ys, x3, y3, z3', t3, s3, b3⟩ := some_lst a b2 (xs := ii (rg n)) (szL (by rw [ii_length, rg_length]; omega))
  obtain ⟨g, rfl, g3⟩ := sub_ii s3
  have grow : Row n g := g3
  have gs1 : ∀ p, p ∈ g → 0 ≤ p ∧ p < 64 := fun p hp => by have := grow.lt hp; omega
  have gl : g.length ≤ 64 := by have := grow.len; omega
  have wl := fun r => wR_len hk r
  have lo := fun r => lawOpen_tt a (rs := wR rs k r) (g := g) (by rw [wl]; omega) gs1 gl
  have ot := fun r => open_to_ok a (n := n) (rs := wR rs k r) (g := g) (by rw [wl]; omega) gl
  have al3 := alike_same a (two_nice (open_nice (rs := wR rs k more) g (by rw [wl]; omega)) (open_nice (rs := wR rs k less) g (by rw [wl]; omega))) (by decide) (by decide)
  have ou := fun r => outside_ok a (n := n) (k := k) (rs := wR rs k r) (by omega) (by rw [wl]; exact hk)
  have ou1 := ou more
  have ou2 := ou less
  rw [wR_get hk] at ou1 ou2
  have lr := fun r => lawRest_ok a (n := n) (g := r) (by omega)
  have al4 := alike_same a (two_nice (rest_nice (n := n) more (by omega)) (rest_nice (n := n) less (by omega))) (by decide) (by decide)
  refine ⟨x3, y3, z3', ?_, b3⟩
  have zm := zn mrow
  have zl := zn lrow
  have zb := zn brow
  have za := zn arow
  simp only [job] at *
  simp only [m_law_changed_right, g_law_changed_right, ↓noX, ↓fnOf, initE, List.replicate, List.length_cons, List.length_nil, List.cons_append, List.nil_append, Nat.sub_self, Nat.reduceSub, Nat.reduceAdd, ↓sSeq, ↓sIf_eq, ↓sSet, ↓sRet, ↓sRetN, ↓sExpr, ↓sNil, ↓sNever, ↓sFor, ↓sAsg, ↓sFldS, ↓sAugIx, ↓sSetIx, ↓putIx, ↓sPar2, ↓sPar3, ↓M.then, ↓bind_eq, ↓M.ret, ↓M.bad, ↓M.get, ↓M.esc, ↓M.arg, ↓M.nrm, ↓M.res, ↓M.wipe, look, getE, ↓put, isMu_eq, muB_none, muB_sh, muB_ow, muB_mu, ↓eVar, ↓eC, ↓eOp1, ↓eOp2, ↓eBool_eq, ↓eAnd_eq, ↓eOr_eq, ↓eNot, ↓eAndV_eq, ↓eOrV_eq, ↓eNotV_eq, ↓eIf_eq, ↓eChain, ↓aNil, ↓aCons, ↓lCons, ↓kCons, ↓sCons, ↓eTup_eq, ↓eLst_eq, ↓eLc_eq, ↓eYes, ↓iSeq_eq, ↓Cw.iEnum, ↓iRng1D_eq, ↓iRng2D, ↓eLRg, ↓eTRg, ↓rg1_eq, ↓rg2, ↓eSl, ↓oNone, ↓oSome_eq, ↓eCallB, ↓getAll, ↓eCall, ↓callM, gather, scatter, muI, toRV, ↓eMake, ↓makeM, ↓eMeth_eq, ↓eFld_eq, ↓eMut_eq, finR, muOf, List.set, ↓gN, ↓fstep, ↓gT, ↓gsCons, ↓gsNil, noMu, wipeE, List.all_cons, List.all_nil, Bool.and_true, Bool.true_and, Bool.not_false, Bool.not_true, if_true, if_false, ite_true, ite_false, Bool.false_eq_true, reduceIte, reduceCtorEq, List.nodup_cons, List.nodup_nil, List.not_mem_nil, not_false_eq_true, and_self, and_true, true_and, List.mem_cons, List.mem_singleton, or_false, decide_true, decide_false, List.getElem?_cons_zero, List.getElem?_cons_succ, dEq_int, dNe_int, dEq_str, dCmp_int, dAdd_int, dSub_int, dInt_int, dAbs_int, dLen_lst, dLen_tup, dList_lst, dList_tup, dTuple_lst, dTuple_tup, t1, t2, hr, rg_to, rangeD_rg, z3, ↓c1, zm, hix, ↓c2, zl, lk_put, lk_struck, lk_open_to, lk_outside, kput, kstr, w1, w2, z2, told, al1, ↓c3, zb, ↓c4, za, w3, w4, kback, kagain, al2, t3, lo, ot, al3, ou1, ou2, lr, al4]
end K15

namespace K15
open PySem L2 Cw
variable (a : Nat → Addr)
def Fk (f : Fl) : Prop := f = .sh ∨ f = .ow

def St (sc : D) (cs : List Int) (n : Nat) (rs : List (List Int))  (e : En) : Prop := ∃ x y z o2 f4 f5 f6 o7 o8 o9 o10 o11 o12 o13, BagOk x y z cs ∧ muB o2 = false ∧ Fk f4 ∧ Fk f5 ∧ Fk f6 ∧ muB o7 = false ∧ muB o8 = false ∧ muB o9 = false ∧ muB o10 = false ∧ muB o11 = false ∧ muB o12 = false ∧ muB o13 = false ∧
  e = [some (Fl.sh, sc), some (Fl.ow, bagD x y z cs), o2, some (Fl.sh, .int (n : Int)), some (f4, .lst (gs rs)), some (f5, job a n rs), some (f6, .lst (ii (rg n))), o7, o8, o9, o10, o11, o12, o13]

def St7 (sc : D) (cs : List Int) (n : Nat) (rs : List (List Int)) (g : List Int) (e : En) : Prop := ∃ x y z o2 f4 f5 f6 o8 o9 o10 o11 o12 o13, BagOk x y z cs ∧ muB o2 = false ∧ Fk f4 ∧ Fk f5 ∧ Fk f6 ∧ muB o8 = false ∧ muB o9 = false ∧ muB o10 = false ∧ muB o11 = false ∧ muB o12 = false ∧ muB o13 = false ∧
  e = [some (Fl.sh, sc), some (Fl.ow, bagD x y z cs), o2, some (Fl.sh, .int (n : Int)), some (f4, .lst (gs rs)), some (f5, job a n rs), some (f6, .lst (ii (rg n))), some (Fl.sh, .tup (ii g)), o8, o9, o10, o11, o12, o13]

def StK (sc : D) (cs : List Int) (n : Nat) (rs : List (List Int)) (ixs : List Int) (e : En) : Prop := ∃ x y z o2 f4 f5 f6 o7 o8 o9 o11 o13, BagOk x y z cs ∧ muB o2 = false ∧ Fk f4 ∧ Fk f5 ∧ Fk f6 ∧ muB o7 = false ∧ muB o8 = false ∧ muB o9 = false ∧ muB o11 = false ∧ muB o13 = false ∧
  e = [some (Fl.sh, sc), some (Fl.ow, bagD x y z cs), o2, some (Fl.sh, .int (n : Int)), some (f4, .lst (gs rs)), some (f5, job a n rs), some (f6, .lst (ii (rg n))), o7, o8, o9, some (Fl.sh, .tup (ii ixs)), o11, some (Fl.sh, .tup [.int (n : Int), .tup (gs (pickR rs ixs))]), o13]
theorem lp0 {sc : D} {cs : List Int} {n : Nat} {rs : List (List Int)} {g : List Int} (hn : n ≤ 7) (hl : rs.length ≤ 7) (hrs : ∀ r, r ∈ rs → Row n r) (hg : Row n g) {e : En} {d : D} (h : St7 a sc cs n rs g e) : ∃ e2, fstep (gN 8) (b_law_0 a) d e = .nx e2 ∧ St7 a sc cs n rs g e2 := by
  obtain ⟨x, y, z, o2, f4, f5, f6, o8, o9, o10, o11, o12, o13, hb, h2, hf4, hf5, hf6, h8, h9, h10, h11, h12, h13, rfl⟩ := h
  have gl : g.length ≤ 64 := by have := hg.len; omega
  have gs1 : ∀ p, p ∈ g → 0 ≤ p ∧ p < 64 := fun p hp => by have := hg.lt hp; omega
  have ot := open_to_ok a (n := n) (rs := rs) (g := g) (by omega) gl
  have lo := lawOpen_lt a (rs := rs) (g := g) (by omega) gs1 gl
  have al := alike_same a (open_nice (rs := rs) g (by omega)) (by decide) (by decide)
  refine ⟨_, ?_, x, y, z, o2, .sh, .sh, f6, some (Fl.sh, d), o9, o10, o11, o12, o13, hb, h2, .inl rfl, .inl rfl, hf6, rfl, h9, h10, h11, h12, h13, rfl⟩
  simp only [job] at *
  rcases hf4 with rfl | rfl <;> rcases hf5 with rfl | rfl <;> simp only [b_law_0, ↓noX, ↓fnOf, initE, List.replicate, List.length_cons, List.length_nil, List.cons_append, List.nil_append, Nat.sub_self, Nat.reduceSub, Nat.reduceAdd, ↓sSeq, ↓sIf_eq, ↓sSet, ↓sRet, ↓sRetN, ↓sExpr, ↓sNil, ↓sNever, ↓sFor, ↓sAsg, ↓sFldS, ↓sAugIx, ↓sSetIx, ↓putIx, ↓sPar2, ↓sPar3, ↓M.then, ↓bind_eq, ↓M.ret, ↓M.bad, ↓M.get, ↓M.esc, ↓M.arg, ↓M.nrm, ↓M.res, ↓M.wipe, look, getE, ↓put, isMu_eq, muB_none, muB_sh, muB_ow, muB_mu, ↓eVar, ↓eC, ↓eOp1, ↓eOp2, ↓eBool_eq, ↓eAnd_eq, ↓eOr_eq, ↓eNot, ↓eAndV_eq, ↓eOrV_eq, ↓eNotV_eq, ↓eIf_eq, ↓eChain, ↓aNil, ↓aCons, ↓lCons, ↓kCons, ↓sCons, ↓eTup_eq, ↓eLst_eq, ↓eLc_eq, ↓eYes, ↓iSeq_eq, ↓Cw.iEnum, ↓iRng1D_eq, ↓iRng2D, ↓eLRg, ↓eTRg, ↓rg1_eq, ↓rg2, ↓eSl, ↓oNone, ↓oSome_eq, ↓eCallB, ↓getAll, ↓eCall, ↓callM, gather, scatter, muI, toRV, ↓eMake, ↓makeM, ↓eMeth_eq, ↓eFld_eq, ↓eMut_eq, finR, muOf, List.set, ↓gN, ↓fstep, ↓gT, ↓gsCons, ↓gsNil, noMu, wipeE, List.all_cons, List.all_nil, Bool.and_true, Bool.true_and, Bool.not_false, Bool.not_true, if_true, if_false, ite_true, ite_false, Bool.false_eq_true, reduceIte, reduceCtorEq, List.nodup_cons, List.nodup_nil, List.not_mem_nil, not_false_eq_true, and_self, and_true, true_and, List.mem_cons, List.mem_singleton, or_false, decide_true, decide_false, List.getElem?_cons_zero, List.getElem?_cons_succ, dEq_int, dNe_int, dEq_str, dCmp_int, dAdd_int, dSub_int, dInt_int, dAbs_int, dLen_lst, dLen_tup, dList_lst, dList_tup, dTuple_lst, dTuple_tup, h8, lk_open_to, ot, lo, al]
theorem lp1 {sc : D} {cs : List Int} {n : Nat} {rs : List (List Int)} {g : List Int} (hn : n ≤ 7) (hl : rs.length ≤ 7) (hrs : ∀ r, r ∈ rs → Row n r) (hg : Row n g) {e : En} (h : St a sc cs n rs e) : ∃ e2, fstep (gN 7) (b_law_1 a) (.tup (ii g)) e = .nx e2 ∧ St a sc cs n rs e2 := by
  obtain ⟨x, y, z, o2, f4, f5, f6, o7, o8, o9, o10, o11, o12, o13, hb, h2, hf4, hf5, hf6, h7, h8, h9, h10, h11, h12, h13, rfl⟩ := h
  obtain ⟨e', k1, k2⟩ := forS_all (a := gN 8) (b := b_law_0 a) (St7 a sc cs n rs g) (ds := ii (rg 2)) (e := [some (Fl.sh, sc), some (Fl.ow, bagD x y z cs), o2, some (Fl.sh, .int (n : Int)), some (f4, .lst (gs rs)), some (f5, job a n rs), some (f6, .lst (ii (rg n))), some (Fl.sh, .tup (ii g)), o8, o9, o10, o11, o12, o13]) ⟨x, y, z, o2, f4, f5, f6, o8, o9, o10, o11, o12, o13, hb, h2, hf4, hf5, hf6, h8, h9, h10, h11, h12, h13, rfl⟩ fun d e _ h => lp0 a hn hl hrs hg h
  refine ⟨e', ?_, ?_⟩
  · have h62 := in62_nat 2 (by decide)
    have e2 : rangeD 0 (2 : Int).toNat = ii (rg 2) := rangeD_rg 2
    simp only [b_law_1, ↓noX, ↓fnOf, initE, List.replicate, List.length_cons, List.length_nil, List.cons_append, List.nil_append, Nat.sub_self, Nat.reduceSub, Nat.reduceAdd, ↓sSeq, ↓sIf_eq, ↓sSet, ↓sRet, ↓sRetN, ↓sExpr, ↓sNil, ↓sNever, ↓sFor, ↓sAsg, ↓sFldS, ↓sAugIx, ↓sSetIx, ↓putIx, ↓sPar2, ↓sPar3, ↓M.then, ↓bind_eq, ↓M.ret, ↓M.bad, ↓M.get, ↓M.esc, ↓M.arg, ↓M.nrm, ↓M.res, ↓M.wipe, look, getE, ↓put, isMu_eq, muB_none, muB_sh, muB_ow, muB_mu, ↓eVar, ↓eC, ↓eOp1, ↓eOp2, ↓eBool_eq, ↓eAnd_eq, ↓eOr_eq, ↓eNot, ↓eAndV_eq, ↓eOrV_eq, ↓eNotV_eq, ↓eIf_eq, ↓eChain, ↓aNil, ↓aCons, ↓lCons, ↓kCons, ↓sCons, ↓eTup_eq, ↓eLst_eq, ↓eLc_eq, ↓eYes, ↓iSeq_eq, ↓Cw.iEnum, ↓iRng1D_eq, ↓iRng2D, ↓eLRg, ↓eTRg, ↓rg1_eq, ↓rg2, ↓eSl, ↓oNone, ↓oSome_eq, ↓eCallB, ↓getAll, ↓eCall, ↓callM, gather, scatter, muI, toRV, ↓eMake, ↓makeM, ↓eMeth_eq, ↓eFld_eq, ↓eMut_eq, finR, muOf, List.set, ↓gN, ↓fstep, ↓gT, ↓gsCons, ↓gsNil, noMu, wipeE, List.all_cons, List.all_nil, Bool.and_true, Bool.true_and, Bool.not_false, Bool.not_true, if_true, if_false, ite_true, ite_false, Bool.false_eq_true, reduceIte, reduceCtorEq, List.nodup_cons, List.nodup_nil, List.not_mem_nil, not_false_eq_true, and_self, and_true, true_and, List.mem_cons, List.mem_singleton, or_false, decide_true, decide_false, List.getElem?_cons_zero, List.getElem?_cons_succ, dEq_int, dNe_int, dEq_str, dCmp_int, dAdd_int, dSub_int, dInt_int, dAbs_int, dLen_lst, dLen_tup, dList_lst, dList_tup, dTuple_lst, dTuple_tup, h7, show in62 2 = true from h62, e2, ↓k1]
  · obtain ⟨x, y, z, o2, f4, f5, f6, o8, o9, o10, o11, o12, o13, hb, h2, hf4, hf5, hf6, h8, h9, h10, h11, h12, h13, rfl⟩ := k2
    exact ⟨x, y, z, o2, f4, f5, f6, some (Fl.sh, .tup (ii g)), o8, o9, o10, o11, o12, o13, hb, h2, hf4, hf5, hf6, rfl, h8, h9, h10, h11, h12, h13, rfl⟩
theorem lp3 {sc : D} {cs : List Int} {n : Nat} {rs : List (List Int)} {ixs : List Int} (hn : n ≤ 7) (hl : rs.length ≤ 7) (hrs : ∀ r, r ∈ rs → Row n r) (hx : ∀ i, i ∈ ixs → 0 ≤ i ∧ i < rs.length) (hxl : ixs.length ≤ 7) {e : En} {d : D} (h : StK a sc cs n rs ixs e) : ∃ e2, fstep (gN 8) (b_law_3 a) d e = .nx e2 ∧ StK a sc cs n rs ixs e2 := by
  obtain ⟨x, y, z, o2, f4, f5, f6, o7, o8, o9, o11, o13, hb, h2, hf4, hf5, hf6, h7, h8, h9, h11, h13, rfl⟩ := h
  have pk := picked_ok a hn hxl hrs hx
  have tl := told_ok a (n := n) (rs := pickR rs ixs)
  have al := alike_same a (told_nice (rs := pickR rs ixs) hn (by unfold pickR; rw [List.length_map]; exact hxl) (pickR_rows hrs)) (by decide) (by decide)
  refine ⟨_, ?_, x, y, z, o2, f4, .sh, f6, o7, some (Fl.sh, d), o9, o11, o13, hb, h2, hf4, .inl rfl, hf6, h7, rfl, h9, h11, h13, rfl⟩
  simp only [job] at *
  rcases hf5 with rfl | rfl <;> simp only [b_law_3, ↓noX, ↓fnOf, initE, List.replicate, List.length_cons, List.length_nil, List.cons_append, List.nil_append, Nat.sub_self, Nat.reduceSub, Nat.reduceAdd, ↓sSeq, ↓sIf_eq, ↓sSet, ↓sRet, ↓sRetN, ↓sExpr, ↓sNil, ↓sNever, ↓sFor, ↓sAsg, ↓sFldS, ↓sAugIx, ↓sSetIx, ↓putIx, ↓sPar2, ↓sPar3, ↓M.then, ↓bind_eq, ↓M.ret, ↓M.bad, ↓M.get, ↓M.esc, ↓M.arg, ↓M.nrm, ↓M.res, ↓M.wipe, look, getE, ↓put, isMu_eq, muB_none, muB_sh, muB_ow, muB_mu, ↓eVar, ↓eC, ↓eOp1, ↓eOp2, ↓eBool_eq, ↓eAnd_eq, ↓eOr_eq, ↓eNot, ↓eAndV_eq, ↓eOrV_eq, ↓eNotV_eq, ↓eIf_eq, ↓eChain, ↓aNil, ↓aCons, ↓lCons, ↓kCons, ↓sCons, ↓eTup_eq, ↓eLst_eq, ↓eLc_eq, ↓eYes, ↓iSeq_eq, ↓Cw.iEnum, ↓iRng1D_eq, ↓iRng2D, ↓eLRg, ↓eTRg, ↓rg1_eq, ↓rg2, ↓eSl, ↓oNone, ↓oSome_eq, ↓eCallB, ↓getAll, ↓eCall, ↓callM, gather, scatter, muI, toRV, ↓eMake, ↓makeM, ↓eMeth_eq, ↓eFld_eq, ↓eMut_eq, finR, muOf, List.set, ↓gN, ↓fstep, ↓gT, ↓gsCons, ↓gsNil, noMu, wipeE, List.all_cons, List.all_nil, Bool.and_true, Bool.true_and, Bool.not_false, Bool.not_true, if_true, if_false, ite_true, ite_false, Bool.false_eq_true, reduceIte, reduceCtorEq, List.nodup_cons, List.nodup_nil, List.not_mem_nil, not_false_eq_true, and_self, and_true, true_and, List.mem_cons, List.mem_singleton, or_false, decide_true, decide_false, List.getElem?_cons_zero, List.getElem?_cons_succ, dEq_int, dNe_int, dEq_str, dCmp_int, dAdd_int, dSub_int, dInt_int, dAbs_int, dLen_lst, dLen_tup, dList_lst, dList_tup, dTuple_lst, dTuple_tup, h8, lk_picked, pk, tl, al]
theorem lp4 {sc : D} {cs : List Int} {n : Nat} {rs : List (List Int)} (hn : n ≤ 7) (hl : rs.length ≤ 7) (hrs : ∀ r, r ∈ rs → Row n r) {e : En} {d : D} (h : St a sc cs n rs e) : ∃ e2, fstep (gN 9) (b_law_4 a) d e = .nx e2 ∧ St a sc cs n rs e2 := by
  obtain ⟨x, y, z, o2, f4, f5, f6, o7, o8, o9, o10, o11, o12, o13, hb, h2, hf4, hf5, hf6, h7, h8, h9, h10, h11, h12, h13, rfl⟩ := h
  obtain ⟨ys, x1, y1, z1, t1, s1, b1⟩ := some_lst a hb (xs := ii (rg rs.length)) (szL (by rw [ii_length, rg_length]; omega))
  obtain ⟨ixs, rfl, g1⟩ := sub_ii s1
  have hx : ∀ i, i ∈ ixs → 0 ≤ i ∧ i < rs.length := fun i hi => Row.lt (n := rs.length) g1 hi
  have hxl : ixs.length ≤ 7 := by have := Row.len (n := rs.length) g1; omega
  obtain ⟨e', k1, k2⟩ := forS_all (a := gN 8) (b := b_law_3 a) (StK a sc cs n rs ixs) (ds := ii (rg 2)) (e := [some (Fl.sh, sc), some (Fl.ow, bagD x1 y1 z1 cs), o2, some (Fl.sh, .int (n : Int)), some (f4, .lst (gs rs)), some (f5, job a n rs), some (f6, .lst (ii (rg n))), o7, o8, some (Fl.sh, d), some (Fl.sh, .tup (ii ixs)), none, some (Fl.sh, .tup [.int (n : Int), .tup (gs (pickR rs ixs))]), o13]) ⟨x1, y1, z1, o2, f4, f5, f6, o7, o8, some (Fl.sh, d), none, o13, b1, h2, hf4, hf5, hf6, h7, h8, rfl, rfl, h13, rfl⟩ fun d e _ h => lp3 a hn hl hrs hx hxl h
  have hc : lcL [11] (gN 11) eYes (v_law_2 a) (ii ixs) [some (Fl.sh, sc), some (Fl.ow, bagD x1 y1 z1 cs), o2, some (Fl.sh, .int (n : Int)), some (f4, .lst (gs rs)), some (f5, job a n rs), some (f6, .lst (ii (rg n))), o7, o8, some (Fl.sh, d), some (Fl.sh, .tup (ii ixs)), none, o12, o13] = .ok ((ii ixs).map (pickD rs)) [some (Fl.sh, sc), some (Fl.ow, bagD x1 y1 z1 cs), o2, some (Fl.sh, .int (n : Int)), some (f4, .lst (gs rs)), some (f5, job a n rs), some (f6, .lst (ii (rg n))), o7, o8, some (Fl.sh, d), some (Fl.sh, .tup (ii ixs)), none, o12, o13] := lcL_map _ fun d' hd => by
    obtain ⟨i, hi, rfl⟩ := List.mem_map.mp hd
    have q := dIx_pick (X := .lst (gs rs)) (xs := []) (hx i hi).1 (hx i hi).2 fun k h => dIx_lst (getD_gs h)
    refine ⟨_, [some (Fl.sh, sc), some (Fl.ow, bagD x1 y1 z1 cs), o2, some (Fl.sh, .int (n : Int)), some (f4, .lst (gs rs)), some (f5, job a n rs), some (f6, .lst (ii (rg n))), o7, o8, some (Fl.sh, d), some (Fl.sh, .tup (ii ixs)), some (Fl.sh, .int i), o12, o13], rfl, ?_, rfl, rfl⟩
    simp only [v_law_2, ↓noX, ↓fnOf, initE, List.replicate, List.length_cons, List.length_nil, List.cons_append, List.nil_append, Nat.sub_self, Nat.reduceSub, Nat.reduceAdd, ↓sSeq, ↓sIf_eq, ↓sSet, ↓sRet, ↓sRetN, ↓sExpr, ↓sNil, ↓sNever, ↓sFor, ↓sAsg, ↓sFldS, ↓sAugIx, ↓sSetIx, ↓putIx, ↓sPar2, ↓sPar3, ↓M.then, ↓bind_eq, ↓M.ret, ↓M.bad, ↓M.get, ↓M.esc, ↓M.arg, ↓M.nrm, ↓M.res, ↓M.wipe, look, getE, ↓put, isMu_eq, muB_none, muB_sh, muB_ow, muB_mu, ↓eVar, ↓eC, ↓eOp1, ↓eOp2, ↓eBool_eq, ↓eAnd_eq, ↓eOr_eq, ↓eNot, ↓eAndV_eq, ↓eOrV_eq, ↓eNotV_eq, ↓eIf_eq, ↓eChain, ↓aNil, ↓aCons, ↓lCons, ↓kCons, ↓sCons, ↓eTup_eq, ↓eLst_eq, ↓eLc_eq, ↓eYes, ↓iSeq_eq, ↓Cw.iEnum, ↓iRng1D_eq, ↓iRng2D, ↓eLRg, ↓eTRg, ↓rg1_eq, ↓rg2, ↓eSl, ↓oNone, ↓oSome_eq, ↓eCallB, ↓getAll, ↓eCall, ↓callM, gather, scatter, muI, toRV, ↓eMake, ↓makeM, ↓eMeth_eq, ↓eFld_eq, ↓eMut_eq, finR, muOf, List.set, ↓gN, ↓fstep, ↓gT, ↓gsCons, ↓gsNil, noMu, wipeE, List.all_cons, List.all_nil, Bool.and_true, Bool.true_and, Bool.not_false, Bool.not_true, if_true, if_false, ite_true, ite_false, Bool.false_eq_true, reduceIte, reduceCtorEq, List.nodup_cons, List.nodup_nil, List.not_mem_nil, not_false_eq_true, and_self, and_true, true_and, List.mem_cons, List.mem_singleton, or_false, decide_true, decide_false, List.getElem?_cons_zero, List.getElem?_cons_succ, dEq_int, dNe_int, dEq_str, dCmp_int, dAdd_int, dSub_int, dInt_int, dAbs_int, dLen_lst, dLen_tup, dList_lst, dList_tup, dTuple_lst, dTuple_tup, q, pickD]
  rw [pick_ii] at hc
  have hz : (gs (pickR rs ixs)).length ≤ sizeLine := szL (by rw [gs_length]; unfold pickR; rw [List.length_map]; omega)
  have hz' := hz
  rw [gs_length] at hz'
  have hr := rgOk_nat rs.length (by omega)
  have z2 : 2 ≤ sizeLine := by decide
  refine ⟨e', ?_, ?_⟩
  · have h62 := in62_nat 2 (by decide)
    have e2 : rangeD 0 (2 : Int).toNat = ii (rg 2) := rangeD_rg 2
    simp only [b_law_4, ↓noX, ↓fnOf, initE, List.replicate, List.length_cons, List.length_nil, List.cons_append, List.nil_append, Nat.sub_self, Nat.reduceSub, Nat.reduceAdd, ↓sSeq, ↓sIf_eq, ↓sSet, ↓sRet, ↓sRetN, ↓sExpr, ↓sNil, ↓sNever, ↓sFor, ↓sAsg, ↓sFldS, ↓sAugIx, ↓sSetIx, ↓putIx, ↓sPar2, ↓sPar3, ↓M.then, ↓bind_eq, ↓M.ret, ↓M.bad, ↓M.get, ↓M.esc, ↓M.arg, ↓M.nrm, ↓M.res, ↓M.wipe, look, getE, ↓put, isMu_eq, muB_none, muB_sh, muB_ow, muB_mu, ↓eVar, ↓eC, ↓eOp1, ↓eOp2, ↓eBool_eq, ↓eAnd_eq, ↓eOr_eq, ↓eNot, ↓eAndV_eq, ↓eOrV_eq, ↓eNotV_eq, ↓eIf_eq, ↓eChain, ↓aNil, ↓aCons, ↓lCons, ↓kCons, ↓sCons, ↓eTup_eq, ↓eLst_eq, ↓eLc_eq, ↓eYes, ↓iSeq_eq, ↓Cw.iEnum, ↓iRng1D_eq, ↓iRng2D, ↓eLRg, ↓eTRg, ↓rg1_eq, ↓rg2, ↓eSl, ↓oNone, ↓oSome_eq, ↓eCallB, ↓getAll, ↓eCall, ↓callM, gather, scatter, muI, toRV, ↓eMake, ↓makeM, ↓eMeth_eq, ↓eFld_eq, ↓eMut_eq, finR, muOf, List.set, ↓gN, ↓fstep, ↓gT, ↓gsCons, ↓gsNil, noMu, wipeE, List.all_cons, List.all_nil, Bool.and_true, Bool.true_and, Bool.not_false, Bool.not_true, if_true, if_false, ite_true, ite_false, Bool.false_eq_true, reduceIte, reduceCtorEq, List.nodup_cons, List.nodup_nil, List.not_mem_nil, not_false_eq_true, and_self, and_true, true_and, List.mem_cons, List.mem_singleton, or_false, decide_true, decide_false, List.getElem?_cons_zero, List.getElem?_cons_succ, dEq_int, dNe_int, dEq_str, dCmp_int, dAdd_int, dSub_int, dInt_int, dAbs_int, dLen_lst, dLen_tup, dList_lst, dList_tup, dTuple_lst, dTuple_tup, h9, h10, h11, h12, gs_length, hr, rg_to, rangeD_rg, t1, ↓hc, hz, hz', z2, show in62 2 = true from h62, e2, ↓k1]
  · obtain ⟨x, y, z, o2, f4, f5, f6, o7, o8, o9, o11, o13, hb, h2, hf4, hf5, hf6, h7, h8, h9, h11, h13, rfl⟩ := k2
    exact ⟨x, y, z, o2, f4, f5, f6, o7, o8, o9, some (Fl.sh, .tup (ii ixs)), o11, some (Fl.sh, .tup [.int (n : Int), .tup (gs (pickR rs ixs))]), o13, hb, h2, hf4, hf5, hf6, h7, h8, h9, rfl, h11, rfl, h13, rfl⟩
theorem lp6 {sc : D} {cs : List Int} {n : Nat} {rs : List (List Int)} (hn : n ≤ 7) (hl : rs.length ≤ 7) (hrs : ∀ r, r ∈ rs → Row n r) {e : En} {k : Nat} (hk : k < rs.length) (h : St a sc cs n rs e) : ∃ e2, fstep (gN 11) (b_law_6 a) (.int (k : Int)) e = .nx e2 ∧ St a sc cs n rs e2 := by
  obtain ⟨x, y, z, o2, f4, f5, f6, o7, o8, o9, o10, o11, o12, o13, hb, h2, hf4, hf5, hf6, h7, h8, h9, h10, h11, h12, h13, rfl⟩ := h
  have ou := outside_ok a (n := n) (k := k) (rs := rs) (by omega) hk
  have lr := lawRest_ok a (n := n) (g := rs[k]) (by omega)
  have al := alike_same a (rest_nice (n := n) rs[k] (by omega)) (by decide) (by decide)
  have hix := dIx_lst (getD_gs hk)
  refine ⟨_, ?_, x, y, z, o2, f4, .sh, f6, o7, o8, o9, o10, some (Fl.sh, .int (k : Int)), o12, o13, hb, h2, hf4, .inl rfl, hf6, h7, h8, h9, h10, rfl, h12, h13, rfl⟩
  simp only [job] at *
  rcases hf5 with rfl | rfl <;> simp only [b_law_6, ↓noX, ↓fnOf, initE, List.replicate, List.length_cons, List.length_nil, List.cons_append, List.nil_append, Nat.sub_self, Nat.reduceSub, Nat.reduceAdd, ↓sSeq, ↓sIf_eq, ↓sSet, ↓sRet, ↓sRetN, ↓sExpr, ↓sNil, ↓sNever, ↓sFor, ↓sAsg, ↓sFldS, ↓sAugIx, ↓sSetIx, ↓putIx, ↓sPar2, ↓sPar3, ↓M.then, ↓bind_eq, ↓M.ret, ↓M.bad, ↓M.get, ↓M.esc, ↓M.arg, ↓M.nrm, ↓M.res, ↓M.wipe, look, getE, ↓put, isMu_eq, muB_none, muB_sh, muB_ow, muB_mu, ↓eVar, ↓eC, ↓eOp1, ↓eOp2, ↓eBool_eq, ↓eAnd_eq, ↓eOr_eq, ↓eNot, ↓eAndV_eq, ↓eOrV_eq, ↓eNotV_eq, ↓eIf_eq, ↓eChain, ↓aNil, ↓aCons, ↓lCons, ↓kCons, ↓sCons, ↓eTup_eq, ↓eLst_eq, ↓eLc_eq, ↓eYes, ↓iSeq_eq, ↓Cw.iEnum, ↓iRng1D_eq, ↓iRng2D, ↓eLRg, ↓eTRg, ↓rg1_eq, ↓rg2, ↓eSl, ↓oNone, ↓oSome_eq, ↓eCallB, ↓getAll, ↓eCall, ↓callM, gather, scatter, muI, toRV, ↓eMake, ↓makeM, ↓eMeth_eq, ↓eFld_eq, ↓eMut_eq, finR, muOf, List.set, ↓gN, ↓fstep, ↓gT, ↓gsCons, ↓gsNil, noMu, wipeE, List.all_cons, List.all_nil, Bool.and_true, Bool.true_and, Bool.not_false, Bool.not_true, if_true, if_false, ite_true, ite_false, Bool.false_eq_true, reduceIte, reduceCtorEq, List.nodup_cons, List.nodup_nil, List.not_mem_nil, not_false_eq_true, and_self, and_true, true_and, List.mem_cons, List.mem_singleton, or_false, decide_true, decide_false, List.getElem?_cons_zero, List.getElem?_cons_succ, dEq_int, dNe_int, dEq_str, dCmp_int, dAdd_int, dSub_int, dInt_int, dAbs_int, dLen_lst, dLen_tup, dList_lst, dList_tup, dTuple_lst, dTuple_tup, h11, lk_outside, ou, lr, hix, al]
theorem lp5 {sc : D} {cs : List Int} {n : Nat} {rs : List (List Int)} (hn : n ≤ 7) (hl : rs.length ≤ 7) (hrs : ∀ r, r ∈ rs → Row n r) {e : En} {k : Nat} (hk : k < rs.length) (h : St a sc cs n rs e) : ∃ e2, fstep (gN 11) (b_law_5 a) (.int (k : Int)) e = .nx e2 ∧ St a sc cs n rs e2 := by
  obtain ⟨x, y, z, o2, f4, f5, f6, o7, o8, o9, o10, o11, o12, o13, hb, h2, hf4, hf5, hf6, h7, h8, h9, h10, h11, h12, h13, rfl⟩ := h
  have ou := outside_ok a (n := n) (k := k) (rs := rs) (by omega) hk
  have lr := lawRest_ok a (n := n) (g := rs[k]) (by omega)
  have rn := rest_nice (n := n) rs[k] (by omega)
  have al := alike_same a (two_nice rn rn) (by decide) (by decide)
  have hix := dIx_lst (getD_gs hk)
  have z1 : 1 ≤ sizeLine := by decide
  have z2 : 2 ≤ sizeLine := by decide
  have hm : dMul (.lst [.tup (ii ((rg n).filter (notIn rs[k])))]) (.int 2) = some (true, .lst [.tup (ii ((rg n).filter (notIn rs[k]))), .tup (ii ((rg n).filter (notIn rs[k])))]) := by
    have := dMul_lst [.tup (ii ((rg n).filter (notIn rs[k])))] 2 (by decide) (by show 1 * 2 ≤ sizeLine; decide)
    exact this
  by_cases c0 : 0 < n
  · obtain ⟨x1, y1, z1', cr, b1⟩ := changed_right_ok a hb c0 hn hl hrs hk
    have c1 : (0 : Int) < (n : Int) := by omega
    refine ⟨_, ?_, x1, y1, z1', o2, .sh, .sh, f6, o7, o8, o9, o10, some (Fl.sh, .int (k : Int)), o12, o13, b1, h2, .inl rfl, .inl rfl, hf6, h7, h8, h9, h10, rfl, h12, h13, rfl⟩
    simp only [job] at *
    rcases hf4 with rfl | rfl <;> rcases hf5 with rfl | rfl <;> simp only [b_law_5, ↓noX, ↓fnOf, initE, List.replicate, List.length_cons, List.length_nil, List.cons_append, List.nil_append, Nat.sub_self, Nat.reduceSub, Nat.reduceAdd, ↓sSeq, ↓sIf_eq, ↓sSet, ↓sRet, ↓sRetN, ↓sExpr, ↓sNil, ↓sNever, ↓sFor, ↓sAsg, ↓sFldS, ↓sAugIx, ↓sSetIx, ↓putIx, ↓sPar2, ↓sPar3, ↓M.then, ↓bind_eq, ↓M.ret, ↓M.bad, ↓M.get, ↓M.esc, ↓M.arg, ↓M.nrm, ↓M.res, ↓M.wipe, look, getE, ↓put, isMu_eq, muB_none, muB_sh, muB_ow, muB_mu, ↓eVar, ↓eC, ↓eOp1, ↓eOp2, ↓eBool_eq, ↓eAnd_eq, ↓eOr_eq, ↓eNot, ↓eAndV_eq, ↓eOrV_eq, ↓eNotV_eq, ↓eIf_eq, ↓eChain, ↓aNil, ↓aCons, ↓lCons, ↓kCons, ↓sCons, ↓eTup_eq, ↓eLst_eq, ↓eLc_eq, ↓eYes, ↓iSeq_eq, ↓Cw.iEnum, ↓iRng1D_eq, ↓iRng2D, ↓eLRg, ↓eTRg, ↓rg1_eq, ↓rg2, ↓eSl, ↓oNone, ↓oSome_eq, ↓eCallB, ↓getAll, ↓eCall, ↓callM, gather, scatter, muI, toRV, ↓eMake, ↓makeM, ↓eMeth_eq, ↓eFld_eq, ↓eMut_eq, finR, muOf, List.set, ↓gN, ↓fstep, ↓gT, ↓gsCons, ↓gsNil, noMu, wipeE, List.all_cons, List.all_nil, Bool.and_true, Bool.true_and, Bool.not_false, Bool.not_true, if_true, if_false, ite_true, ite_false, Bool.false_eq_true, reduceIte, reduceCtorEq, List.nodup_cons, List.nodup_nil, List.not_mem_nil, not_false_eq_true, and_self, and_true, true_and, List.mem_cons, List.mem_singleton, or_false, decide_true, decide_false, List.getElem?_cons_zero, List.getElem?_cons_succ, dEq_int, dNe_int, dEq_str, dCmp_int, dAdd_int, dSub_int, dInt_int, dAbs_int, dLen_lst, dLen_tup, dList_lst, dList_tup, dTuple_lst, dTuple_tup, h11, lk_outside, ou, lr, hix, al, hm, z1, z2, c1, cr]
  · have c1 : ¬ (0 : Int) < (n : Int) := by omega
    refine ⟨_, ?_, x, y, z, o2, f4, .sh, f6, o7, o8, o9, o10, some (Fl.sh, .int (k : Int)), o12, o13, hb, h2, hf4, .inl rfl, hf6, h7, h8, h9, h10, rfl, h12, h13, rfl⟩
    simp only [job] at *
    rcases hf5 with rfl | rfl <;> simp only [b_law_5, ↓noX, ↓fnOf, initE, List.replicate, List.length_cons, List.length_nil, List.cons_append, List.nil_append, Nat.sub_self, Nat.reduceSub, Nat.reduceAdd, ↓sSeq, ↓sIf_eq, ↓sSet, ↓sRet, ↓sRetN, ↓sExpr, ↓sNil, ↓sNever, ↓sFor, ↓sAsg, ↓sFldS, ↓sAugIx, ↓sSetIx, ↓putIx, ↓sPar2, ↓sPar3, ↓M.then, ↓bind_eq, ↓M.ret, ↓M.bad, ↓M.get, ↓M.esc, ↓M.arg, ↓M.nrm, ↓M.res, ↓M.wipe, look, getE, ↓put, isMu_eq, muB_none, muB_sh, muB_ow, muB_mu, ↓eVar, ↓eC, ↓eOp1, ↓eOp2, ↓eBool_eq, ↓eAnd_eq, ↓eOr_eq, ↓eNot, ↓eAndV_eq, ↓eOrV_eq, ↓eNotV_eq, ↓eIf_eq, ↓eChain, ↓aNil, ↓aCons, ↓lCons, ↓kCons, ↓sCons, ↓eTup_eq, ↓eLst_eq, ↓eLc_eq, ↓eYes, ↓iSeq_eq, ↓Cw.iEnum, ↓iRng1D_eq, ↓iRng2D, ↓eLRg, ↓eTRg, ↓rg1_eq, ↓rg2, ↓eSl, ↓oNone, ↓oSome_eq, ↓eCallB, ↓getAll, ↓eCall, ↓callM, gather, scatter, muI, toRV, ↓eMake, ↓makeM, ↓eMeth_eq, ↓eFld_eq, ↓eMut_eq, finR, muOf, List.set, ↓gN, ↓fstep, ↓gT, ↓gsCons, ↓gsNil, noMu, wipeE, List.all_cons, List.all_nil, Bool.and_true, Bool.true_and, Bool.not_false, Bool.not_true, if_true, if_false, ite_true, ite_false, Bool.false_eq_true, reduceIte, reduceCtorEq, List.nodup_cons, List.nodup_nil, List.not_mem_nil, not_false_eq_true, and_self, and_true, true_and, List.mem_cons, List.mem_singleton, or_false, decide_true, decide_false, List.getElem?_cons_zero, List.getElem?_cons_succ, dEq_int, dNe_int, dEq_str, dCmp_int, dAdd_int, dSub_int, dInt_int, dAbs_int, dLen_lst, dLen_tup, dList_lst, dList_tup, dTuple_lst, dTuple_tup, h11, lk_outside, ou, lr, hix, al, hm, z1, z2, c1]
end K15

namespace K15
open PySem L2 Cw
variable (a : Nat → Addr)
theorem in62_2 : in62 2 = true := in62_nat 2 (by decide)
theorem rg2_ : rangeD 0 (2 : Int).toNat = ii (rg 2) := rangeD_rg 2
theorem sl1 {sc : D} {cs : List Int} {n : Nat} {rs : List (List Int)} (hn : n ≤ 7) (hl : rs.length ≤ 7) (hrs : ∀ r, r ∈ rs → Row n r) {x y z : Int} {o2 o7 o8 o9 o10 o11 o12 o13 : Option (Fl × D)} (hb : BagOk x y z cs) (h2 : muB o2 = false) (h7 : muB o7 = false) (h8 : muB o8 = false) (h9 : muB o9 = false) (h10 : muB o10 = false) (h11 : muB o11 = false) (h12 : muB o12 = false) (h13 : muB o13 = false) :
    ∃ e', sFor (iSeq (eLst (lCons (eTup aNil) (lCons (eCallB dTuple (aCons (eVar 6) aNil)) (lCons (eCallB dTuple (aCons (eCall [true, false] (m_law_some a) (kCons (eVar 1) (sCons (eVar 6) aNil))) aNil)) (lCons (eCallB dTuple (aCons (eCall [true, false] (m_law_some a) (kCons (eVar 1) (sCons (eVar 6) aNil))) aNil)) aNil)))))) (gN 7) (b_law_1 a) [some (Fl.sh, sc), some (Fl.ow, bagD x y z cs), o2, some (Fl.sh, .int (n : Int)), some (.ow, .lst (gs rs)), some (.ow, job a n rs), some (.ow, .lst (ii (rg n))), o7, o8, o9, o10, o11, o12, o13] = .nx e' ∧ St a sc cs n rs e' := by
  have zr : (ii (rg n)).length ≤ sizeLine := szL (by rw [ii_length, rg_length]; omega)
  obtain ⟨ys, x1, y1, z1, t1, s1, b1⟩ := some_lst a hb (xs := ii (rg n)) zr
  obtain ⟨g1, rfl, r1⟩ := sub_ii s1
  obtain ⟨ys, x2, y2, z2, t2, s2, b2⟩ := some_lst a b1 (xs := ii (rg n)) zr
  obtain ⟨g2, rfl, r2⟩ := sub_ii s2
  obtain ⟨e', k1, k2⟩ := forS_all (a := gN 7) (b := b_law_1 a) (St a sc cs n rs) (ds := [.tup [], .tup (ii (rg n)), .tup (ii g1), .tup (ii g2)]) (e := [some (Fl.sh, sc), some (Fl.ow, bagD x2 y2 z2 cs), o2, some (Fl.sh, .int (n : Int)), some (.ow, .lst (gs rs)), some (.ow, job a n rs), some (.sh, .lst (ii (rg n))), o7, o8, o9, o10, o11, o12, o13])
    ⟨x2, y2, z2, o2, .ow, .ow, .sh, o7, o8, o9, o10, o11, o12, o13, b2, h2, .inr rfl, .inr rfl, .inl rfl, h7, h8, h9, h10, h11, h12, h13, rfl⟩ (fun d e hd h => by
      simp only [List.mem_cons, List.not_mem_nil, or_false] at hd
      rcases hd with rfl | rfl | rfl | rfl
      · exact lp1 a (g := []) hn hl hrs (List.nil_sublist _) h
      · exact lp1 a (g := rg n) hn hl hrs (List.Sublist.refl _) h
      · exact lp1 a (g := g1) hn hl hrs r1 h
      · exact lp1 a (g := g2) hn hl hrs r2 h)
  refine ⟨e', ?_, k2⟩
  have z0 : 0 ≤ sizeLine := Nat.zero_le _
  have z4 : 4 ≤ sizeLine := by decide
  simp only [↓noX, ↓fnOf, initE, List.replicate, List.length_cons, List.length_nil, List.cons_append, List.nil_append, Nat.sub_self, Nat.reduceSub, Nat.reduceAdd, ↓sSeq, ↓sIf_eq, ↓sSet, ↓sRet, ↓sRetN, ↓sExpr, ↓sNil, ↓sNever, ↓sFor, ↓sAsg, ↓sFldS, ↓sAugIx, ↓sSetIx, ↓putIx, ↓sPar2, ↓sPar3, ↓M.then, ↓bind_eq, ↓M.ret, ↓M.bad, ↓M.get, ↓M.esc, ↓M.arg, ↓M.nrm, ↓M.res, ↓M.wipe, look, getE, ↓put, isMu_eq, muB_none, muB_sh, muB_ow, muB_mu, ↓eVar, ↓eC, ↓eOp1, ↓eOp2, ↓eBool_eq, ↓eAnd_eq, ↓eOr_eq, ↓eNot, ↓eAndV_eq, ↓eOrV_eq, ↓eNotV_eq, ↓eIf_eq, ↓eChain, ↓aNil, ↓aCons, ↓lCons, ↓kCons, ↓sCons, ↓eTup_eq, ↓eLst_eq, ↓eLc_eq, ↓eYes, ↓iSeq_eq, ↓Cw.iEnum, ↓iRng1D_eq, ↓iRng2D, ↓eLRg, ↓eTRg, ↓rg1_eq, ↓rg2, ↓eSl, ↓oNone, ↓oSome_eq, ↓eCallB, ↓getAll, ↓eCall, ↓callM, gather, scatter, muI, toRV, ↓eMake, ↓makeM, ↓eMeth_eq, ↓eFld_eq, ↓eMut_eq, finR, muOf, List.set, ↓gN, ↓fstep, ↓gT, ↓gsCons, ↓gsNil, noMu, wipeE, List.all_cons, List.all_nil, Bool.and_true, Bool.true_and, Bool.not_false, Bool.not_true, if_true, if_false, ite_true, ite_false, Bool.false_eq_true, reduceIte, reduceCtorEq, List.nodup_cons, List.nodup_nil, List.not_mem_nil, not_false_eq_true, and_self, and_true, true_and, List.mem_cons, List.mem_singleton, or_false, decide_true, decide_false, List.getElem?_cons_zero, List.getElem?_cons_succ, dEq_int, dNe_int, dEq_str, dCmp_int, dAdd_int, dSub_int, dInt_int, dAbs_int, dLen_lst, dLen_tup, dList_lst, dList_tup, dTuple_lst, dTuple_tup, t1, t2, z0, z4, ↓k1]
theorem sl2 {sc : D} {cs : List Int} {n : Nat} {rs : List (List Int)} (hn : n ≤ 7) (hl : rs.length ≤ 7) (hrs : ∀ r, r ∈ rs → Row n r) {e : En} (h : St a sc cs n rs e) : ∃ e', sFor (iRng1D (aCons (eC (.int 2)) aNil)) (gN 9) (b_law_4 a) e = .nx e' ∧ St a sc cs n rs e' := by
  obtain ⟨e', k1, k2⟩ := forS_all (a := gN 9) (b := b_law_4 a) (St a sc cs n rs) (ds := ii (rg 2)) h fun d e _ h => lp4 a hn hl hrs h
  refine ⟨e', ?_, k2⟩
  simp only [↓noX, ↓fnOf, initE, List.replicate, List.length_cons, List.length_nil, List.cons_append, List.nil_append, Nat.sub_self, Nat.reduceSub, Nat.reduceAdd, ↓sSeq, ↓sIf_eq, ↓sSet, ↓sRet, ↓sRetN, ↓sExpr, ↓sNil, ↓sNever, ↓sFor, ↓sAsg, ↓sFldS, ↓sAugIx, ↓sSetIx, ↓putIx, ↓sPar2, ↓sPar3, ↓M.then, ↓bind_eq, ↓M.ret, ↓M.bad, ↓M.get, ↓M.esc, ↓M.arg, ↓M.nrm, ↓M.res, ↓M.wipe, look, getE, ↓put, isMu_eq, muB_none, muB_sh, muB_ow, muB_mu, ↓eVar, ↓eC, ↓eOp1, ↓eOp2, ↓eBool_eq, ↓eAnd_eq, ↓eOr_eq, ↓eNot, ↓eAndV_eq, ↓eOrV_eq, ↓eNotV_eq, ↓eIf_eq, ↓eChain, ↓aNil, ↓aCons, ↓lCons, ↓kCons, ↓sCons, ↓eTup_eq, ↓eLst_eq, ↓eLc_eq, ↓eYes, ↓iSeq_eq, ↓Cw.iEnum, ↓iRng1D_eq, ↓iRng2D, ↓eLRg, ↓eTRg, ↓rg1_eq, ↓rg2, ↓eSl, ↓oNone, ↓oSome_eq, ↓eCallB, ↓getAll, ↓eCall, ↓callM, gather, scatter, muI, toRV, ↓eMake, ↓makeM, ↓eMeth_eq, ↓eFld_eq, ↓eMut_eq, finR, muOf, List.set, ↓gN, ↓fstep, ↓gT, ↓gsCons, ↓gsNil, noMu, wipeE, List.all_cons, List.all_nil, Bool.and_true, Bool.true_and, Bool.not_false, Bool.not_true, if_true, if_false, ite_true, ite_false, Bool.false_eq_true, reduceIte, reduceCtorEq, List.nodup_cons, List.nodup_nil, List.not_mem_nil, not_false_eq_true, and_self, and_true, true_and, List.mem_cons, List.mem_singleton, or_false, decide_true, decide_false, List.getElem?_cons_zero, List.getElem?_cons_succ, dEq_int, dNe_int, dEq_str, dCmp_int, dAdd_int, dSub_int, dInt_int, dAbs_int, dLen_lst, dLen_tup, dList_lst, dList_tup, dTuple_lst, dTuple_tup, in62_2, rg2_, ↓k1]
theorem sl3 {sc : D} {cs : List Int} {n : Nat} {rs : List (List Int)} (hn : n ≤ 7) (hl : rs.length ≤ 7) (hrs : ∀ r, r ∈ rs → Row n r) {e : En} (h : St a sc cs n rs e) : ∃ e', sFor (iRng1D (aCons (eCallB dLen (aCons (eVar 4) aNil)) aNil)) (gN 11) (b_law_5 a) e = .nx e' ∧ St a sc cs n rs e' := by
  obtain ⟨e', k1, k2⟩ := forS_all (a := gN 11) (b := b_law_5 a) (St a sc cs n rs) (ds := ii (rg rs.length)) h fun d e hd h => by
    obtain ⟨i, hi, rfl⟩ := List.mem_map.mp hd
    obtain ⟨i0, i1⟩ := mem_rg.mp hi
    obtain ⟨k, rfl⟩ := Int.eq_ofNat_of_zero_le i0
    exact lp5 a hn hl hrs (by omega) h
  obtain ⟨x, y, z, o2, f4, f5, f6, o7, o8, o9, o10, o11, o12, o13, hb, h2, hf4, hf5, hf6, h7, h8, h9, h10, h11, h12, h13, rfl⟩ := h
  refine ⟨e', ?_, k2⟩
  have h62 := in62_nat rs.length (by omega)
  simp only [↓noX, ↓fnOf, initE, List.replicate, List.length_cons, List.length_nil, List.cons_append, List.nil_append, Nat.sub_self, Nat.reduceSub, Nat.reduceAdd, ↓sSeq, ↓sIf_eq, ↓sSet, ↓sRet, ↓sRetN, ↓sExpr, ↓sNil, ↓sNever, ↓sFor, ↓sAsg, ↓sFldS, ↓sAugIx, ↓sSetIx, ↓putIx, ↓sPar2, ↓sPar3, ↓M.then, ↓bind_eq, ↓M.ret, ↓M.bad, ↓M.get, ↓M.esc, ↓M.arg, ↓M.nrm, ↓M.res, ↓M.wipe, look, getE, ↓put, isMu_eq, muB_none, muB_sh, muB_ow, muB_mu, ↓eVar, ↓eC, ↓eOp1, ↓eOp2, ↓eBool_eq, ↓eAnd_eq, ↓eOr_eq, ↓eNot, ↓eAndV_eq, ↓eOrV_eq, ↓eNotV_eq, ↓eIf_eq, ↓eChain, ↓aNil, ↓aCons, ↓lCons, ↓kCons, ↓sCons, ↓eTup_eq, ↓eLst_eq, ↓eLc_eq, ↓eYes, ↓iSeq_eq, ↓Cw.iEnum, ↓iRng1D_eq, ↓iRng2D, ↓eLRg, ↓eTRg, ↓rg1_eq, ↓rg2, ↓eSl, ↓oNone, ↓oSome_eq, ↓eCallB, ↓getAll, ↓eCall, ↓callM, gather, scatter, muI, toRV, ↓eMake, ↓makeM, ↓eMeth_eq, ↓eFld_eq, ↓eMut_eq, finR, muOf, List.set, ↓gN, ↓fstep, ↓gT, ↓gsCons, ↓gsNil, noMu, wipeE, List.all_cons, List.all_nil, Bool.and_true, Bool.true_and, Bool.not_false, Bool.not_true, if_true, if_false, ite_true, ite_false, Bool.false_eq_true, reduceIte, reduceCtorEq, List.nodup_cons, List.nodup_nil, List.not_mem_nil, not_false_eq_true, and_self, and_true, true_and, List.mem_cons, List.mem_singleton, or_false, decide_true, decide_false, List.getElem?_cons_zero, List.getElem?_cons_succ, dEq_int, dNe_int, dEq_str, dCmp_int, dAdd_int, dSub_int, dInt_int, dAbs_int, dLen_lst, dLen_tup, dList_lst, dList_tup, dTuple_lst, dTuple_tup, gs_length, h62, Int.toNat_natCast, rangeD_rg, ↓k1]
theorem sl4 {sc : D} {cs : List Int} {n : Nat} {rs : List (List Int)} (hn : n ≤ 7) (hl : rs.length ≤ 7) (hrs : ∀ r, r ∈ rs → Row n r) {e : En} (h : St a sc cs n rs e) : ∃ e', sFor (iRng1D (aCons (eCallB dLen (aCons (eVar 4) aNil)) aNil)) (gN 11) (b_law_6 a) e = .nx e' ∧ St a sc cs n rs e' := by
  obtain ⟨e', k1, k2⟩ := forS_all (a := gN 11) (b := b_law_6 a) (St a sc cs n rs) (ds := ii (rg rs.length)) h fun d e hd h => by
    obtain ⟨i, hi, rfl⟩ := List.mem_map.mp hd
    obtain ⟨i0, i1⟩ := mem_rg.mp hi
    obtain ⟨k, rfl⟩ := Int.eq_ofNat_of_zero_le i0
    exact lp6 a hn hl hrs (by omega) h
  obtain ⟨x, y, z, o2, f4, f5, f6, o7, o8, o9, o10, o11, o12, o13, hb, h2, hf4, hf5, hf6, h7, h8, h9, h10, h11, h12, h13, rfl⟩ := h
  refine ⟨e', ?_, k2⟩
  have h62 := in62_nat rs.length (by omega)
  simp only [↓noX, ↓fnOf, initE, List.replicate, List.length_cons, List.length_nil, List.cons_append, List.nil_append, Nat.sub_self, Nat.reduceSub, Nat.reduceAdd, ↓sSeq, ↓sIf_eq, ↓sSet, ↓sRet, ↓sRetN, ↓sExpr, ↓sNil, ↓sNever, ↓sFor, ↓sAsg, ↓sFldS, ↓sAugIx, ↓sSetIx, ↓putIx, ↓sPar2, ↓sPar3, ↓M.then, ↓bind_eq, ↓M.ret, ↓M.bad, ↓M.get, ↓M.esc, ↓M.arg, ↓M.nrm, ↓M.res, ↓M.wipe, look, getE, ↓put, isMu_eq, muB_none, muB_sh, muB_ow, muB_mu, ↓eVar, ↓eC, ↓eOp1, ↓eOp2, ↓eBool_eq, ↓eAnd_eq, ↓eOr_eq, ↓eNot, ↓eAndV_eq, ↓eOrV_eq, ↓eNotV_eq, ↓eIf_eq, ↓eChain, ↓aNil, ↓aCons, ↓lCons, ↓kCons, ↓sCons, ↓eTup_eq, ↓eLst_eq, ↓eLc_eq, ↓eYes, ↓iSeq_eq, ↓Cw.iEnum, ↓iRng1D_eq, ↓iRng2D, ↓eLRg, ↓eTRg, ↓rg1_eq, ↓rg2, ↓eSl, ↓oNone, ↓oSome_eq, ↓eCallB, ↓getAll, ↓eCall, ↓callM, gather, scatter, muI, toRV, ↓eMake, ↓makeM, ↓eMeth_eq, ↓eFld_eq, ↓eMut_eq, finR, muOf, List.set, ↓gN, ↓fstep, ↓gT, ↓gsCons, ↓gsNil, noMu, wipeE, List.all_cons, List.all_nil, Bool.and_true, Bool.true_and, Bool.not_false, Bool.not_true, if_true, if_false, ite_true, ite_false, Bool.false_eq_true, reduceIte, reduceCtorEq, List.nodup_cons, List.nodup_nil, List.not_mem_nil, not_false_eq_true, and_self, and_true, true_and, List.mem_cons, List.mem_singleton, or_false, decide_true, decide_false, List.getElem?_cons_zero, List.getElem?_cons_succ, dEq_int, dNe_int, dEq_str, dCmp_int, dAdd_int, dSub_int, dInt_int, dAbs_int, dLen_lst, dLen_tup, dList_lst, dList_tup, dTuple_lst, dTuple_tup, gs_length, h62, Int.toNat_natCast, rangeD_rg, ↓k1]
def Out (sc : D) (cs : List Int) (e : En) : Prop := ∃ x y z o2 o3 o4 o5 o6 o7 o8 o9 o10 o11 o12 o13, BagOk x y z cs ∧ muB o2 = false ∧ muB o3 = false ∧ muB o4 = false ∧ muB o5 = false ∧ muB o6 = false ∧ muB o7 = false ∧ muB o8 = false ∧ muB o9 = false ∧ muB o10 = false ∧ muB o11 = false ∧ muB o12 = false ∧ muB o13 = false ∧ e = [some (Fl.sh, sc), some (Fl.ow, bagD x y z cs), o2, o3, o4, o5, o6, o7, o8, o9, o10, o11, o12, o13]
theorem lp7 {sc : D} {cs : List Int} {e : En} {d : D} (h : Out sc cs e) : ∃ e2, fstep (gN 2) (b_law_7 a) d e = .nx e2 ∧ Out sc cs e2 := by
  obtain ⟨x, y, z, o2, o3, o4, o5, o6, o7, o8, o9, o10, o11, o12, o13, hb, h2, h3, h4, h5, h6, h7, h8, h9, h10, h11, h12, h13, rfl⟩ := h
  obtain ⟨v, x1, y1, z1, t1, v0, v1, b1⟩ := take_ok a hb (many := 8) (by decide) (by decide)
  obtain ⟨n, rfl⟩ := Int.eq_ofNat_of_zero_le v0
  have hn : n ≤ 7 := by omega
  obtain ⟨rs, x2, y2, z2, t2, hl, hrs, b2⟩ := jobs_ok a b1 hn (m := 7) (Nat.le_refl _)
  have t2 : m_law_jobs a [bagD x1 y1 z1 cs, .int (n : Int), .int 7] = .ok (true, .lst (gs rs)) [bagD x2 y2 z2 cs] := t2
  have hin := init_ok a hn hl hrs
  have hr := rgOk_nat n (by omega)
  obtain ⟨e1, k1, s1⟩ := sl1 a (sc := sc) hn hl hrs (o2 := some (Fl.sh, d)) b2 rfl h7 h8 h9 h10 h11 h12 h13
  obtain ⟨e2, k2, s2⟩ := sl2 a hn hl hrs s1
  obtain ⟨e3, k3, s3⟩ := sl3 a hn hl hrs s2
  obtain ⟨e4, k4, s4⟩ := sl4 a hn hl hrs s3
  obtain ⟨x', y', z', p2, f4, f5, f6, p7, p8, p9, p10, p11, p12, p13, hb', q2, hf4, hf5, hf6, q7, q8, q9, q10, q11, q12, q13, rfl⟩ := s4
  have tl := told_ok a (n := n) (rs := rs)
  have eq := eq_ok a hn hl hrs
  have ev1 : ∀ p, p ∈ rg n → 0 ≤ p ∧ p < 64 := fun p hp => by have := mem_rg.mp hp; omega
  have evl : (rg n).length ≤ 64 := by rw [rg_length]; omega
  have ot := open_to_ok a (n := n) (rs := rs) (g := rg n) (by omega) evl
  have lo := lawOpen_ll a (rs := rs) (g := rg n) (by omega) ev1 evl
  have al := alike_same a (d := .lst [.tup [.int (n : Int), .tup (gs rs)], .bl true, .tup (ii (openI rs (rg n)))]) (NiceL.cons (told_nice hn hl hrs) (NiceL.cons (Nice.bl true) (NiceL.cons (open_nice (rs := rs) (rg n) (by omega)) NiceL.nil))).lst (by decide) (by decide)
  have z2 : 2 ≤ sizeLine := by decide
  have z3 : 3 ≤ sizeLine := by decide
  have ie : dEqI (a 12) (m_Jobs_UeqU a) (job a n rs) (job a n rs) = some (false, .bl true) := by
    unfold job at eq ⊢
    simp only [dEqI, and_self, if_true, eq]
  refine ⟨_, ?_, x', y', z', p2, some (Fl.sh, .int (n : Int)), some (Fl.sh, .lst (gs rs)), some (Fl.sh, job a n rs), some (Fl.sh, .lst (ii (rg n))), p7, p8, p9, p10, p11, p12, some (Fl.sh, .lst [.tup [.int (n : Int), .tup (gs rs)], .bl true, .tup (ii (openI rs (rg n)))]), hb', q2, rfl, rfl, rfl, rfl, q7, q8, q9, q10, q11, q12, rfl, rfl⟩
  simp only [job] at *
  rcases hf4 with rfl | rfl <;> rcases hf5 with rfl | rfl <;> rcases hf6 with rfl | rfl <;> simp only [b_law_7, ↓noX, ↓fnOf, initE, List.replicate, List.length_cons, List.length_nil, List.cons_append, List.nil_append, Nat.sub_self, Nat.reduceSub, Nat.reduceAdd, ↓sSeq, ↓sIf_eq, ↓sSet, ↓sRet, ↓sRetN, ↓sExpr, ↓sNil, ↓sNever, ↓sAsg, ↓sFldS, ↓sAugIx, ↓sSetIx, ↓putIx, ↓sPar2, ↓sPar3, ↓M.then, ↓bind_eq, ↓M.ret, ↓M.bad, ↓M.get, ↓M.esc, ↓M.arg, ↓M.nrm, ↓M.res, ↓M.wipe, look, getE, ↓put, isMu_eq, muB_none, muB_sh, muB_ow, muB_mu, ↓eVar, ↓eC, ↓eOp1, ↓eOp2, ↓eBool_eq, ↓eAnd_eq, ↓eOr_eq, ↓eNot, ↓eAndV_eq, ↓eOrV_eq, ↓eNotV_eq, ↓eIf_eq, ↓eChain, ↓aNil, ↓aCons, ↓lCons, ↓kCons, ↓sCons, ↓eTup_eq, ↓eLst_eq, ↓eLc_eq, ↓eYes, ↓iSeq_eq, ↓Cw.iEnum, ↓iRng1D_eq, ↓iRng2D, ↓eLRg, ↓eTRg, ↓rg1_eq, ↓rg2, ↓eSl, ↓oNone, ↓oSome_eq, ↓eCallB, ↓getAll, ↓eCall, ↓callM, gather, scatter, muI, toRV, ↓eMake, ↓makeM, ↓eMeth_eq, ↓eFld_eq, ↓eMut_eq, finR, muOf, List.set, ↓gN, ↓fstep, ↓gT, ↓gsCons, ↓gsNil, noMu, wipeE, List.all_cons, List.all_nil, Bool.and_true, Bool.true_and, Bool.not_false, Bool.not_true, if_true, if_false, ite_true, ite_false, Bool.false_eq_true, reduceIte, reduceCtorEq, List.nodup_cons, List.nodup_nil, List.not_mem_nil, not_false_eq_true, and_self, and_true, true_and, List.mem_cons, List.mem_singleton, or_false, decide_true, decide_false, List.getElem?_cons_zero, List.getElem?_cons_succ, dEq_int, dNe_int, dEq_str, dCmp_int, dAdd_int, dSub_int, dInt_int, dAbs_int, dLen_lst, dLen_tup, dList_lst, dList_tup, dTuple_lst, dTuple_tup, h2, h3, h4, h5, h6, t1, t2, hin, hr, rg_to, rangeD_rg, ↓k1, ↓k2, ↓k3, ↓k4, tl, ie, lk_open_to, ot, lo, al, z2, z3, q13]
theorem yes (ns : List Int) (h : ns.length ≤ 63) : m_law a [.scr (ns.map D.int)] = .ok (false, .bl true) [] := by
  show m_law a [.scr (ii ns)] = _
  obtain ⟨cs, t1, b1⟩ := bag_ok a ns h
  obtain ⟨e', k1, k2⟩ := forS_all (a := gN 2) (b := b_law_7 a) (Out (.scr (ii ns)) cs) (ds := ii (rg 6)) (e := [some (Fl.sh, .scr (ii ns)), some (Fl.ow, bagD 0 987654321 0 cs), none, none, none, none, none, none, none, none, none, none, none, none])
    ⟨0, 987654321, 0, none, none, none, none, none, none, none, none, none, none, none, none, b1, rfl, rfl, rfl, rfl, rfl, rfl, rfl, rfl, rfl, rfl, rfl, rfl, rfl⟩ fun d e _ h => lp7 a h
  obtain ⟨x, y, z, o2, o3, o4, o5, o6, o7, o8, o9, o10, o11, o12, o13, hb, h2, h3, h4, h5, h6, h7, h8, h9, h10, h11, h12, h13, rfl⟩ := k2
  have h62 : in62 6 = true := in62_nat 6 (by decide)
  have e6 : rangeD 0 (6 : Int).toNat = ii (rg 6) := rangeD_rg 6
  simp only [m_law, g_law, ↓noX, ↓fnOf, initE, List.replicate, List.length_cons, List.length_nil, List.cons_append, List.nil_append, Nat.sub_self, Nat.reduceSub, Nat.reduceAdd, ↓sSeq, ↓sIf_eq, ↓sSet, ↓sRet, ↓sRetN, ↓sExpr, ↓sNil, ↓sNever, ↓sFor, ↓sAsg, ↓sFldS, ↓sAugIx, ↓sSetIx, ↓putIx, ↓sPar2, ↓sPar3, ↓M.then, ↓bind_eq, ↓M.ret, ↓M.bad, ↓M.get, ↓M.esc, ↓M.arg, ↓M.nrm, ↓M.res, ↓M.wipe, look, getE, ↓put, isMu_eq, muB_none, muB_sh, muB_ow, muB_mu, ↓eVar, ↓eC, ↓eOp1, ↓eOp2, ↓eBool_eq, ↓eAnd_eq, ↓eOr_eq, ↓eNot, ↓eAndV_eq, ↓eOrV_eq, ↓eNotV_eq, ↓eIf_eq, ↓eChain, ↓aNil, ↓aCons, ↓lCons, ↓kCons, ↓sCons, ↓eTup_eq, ↓eLst_eq, ↓eLc_eq, ↓eYes, ↓iSeq_eq, ↓Cw.iEnum, ↓iRng1D_eq, ↓iRng2D, ↓eLRg, ↓eTRg, ↓rg1_eq, ↓rg2, ↓eSl, ↓oNone, ↓oSome_eq, ↓eCallB, ↓getAll, ↓eCall, ↓callM, gather, scatter, muI, toRV, ↓eMake, ↓makeM, ↓eMeth_eq, ↓eFld_eq, ↓eMut_eq, finR, muOf, List.set, ↓gN, ↓fstep, ↓gT, ↓gsCons, ↓gsNil, noMu, wipeE, List.all_cons, List.all_nil, Bool.and_true, Bool.true_and, Bool.not_false, Bool.not_true, if_true, if_false, ite_true, ite_false, Bool.false_eq_true, reduceIte, reduceCtorEq, List.nodup_cons, List.nodup_nil, List.not_mem_nil, not_false_eq_true, and_self, and_true, true_and, List.mem_cons, List.mem_singleton, or_false, decide_true, decide_false, List.getElem?_cons_zero, List.getElem?_cons_succ, dEq_int, dNe_int, dEq_str, dCmp_int, dAdd_int, dSub_int, dInt_int, dAbs_int, dLen_lst, dLen_tup, dList_lst, dList_tup, dTuple_lst, dTuple_tup, t1, h62, e6, ↓k1]
end K15

namespace K15
open PySem L2 Cw

/-! ### what the top has written -/
def pickA (l : List Addr) (i : Nat) : Addr := l.getD i 0
def pickF (d : FuncData) (l : List FuncData) (i : Nat) : FuncData := l.getD i d
theorem all_mk {l : PySem.W.OpenLaw} {w : World} {K : Fg} {h : Heap} {mg : Str → Option Value} {fa : Addr} {f0 f1 f2 f3 f4 f5 f6 f7 f8 f9 f10 f11 f12 f13 f14 f15 f16 f17 f18 f19 f20 f21 f22 f23 f24 f25 f26 f27 f28 f29 : Addr}
    {od0 an0 : Option Addr} {sl0 : Array (Option Value)} {oc0 kV0 dc0 pm0 cd0 ct0 : Value}
    {od1 an1 : Option Addr} {sl1 : Array (Option Value)} {oc1 kV1 dc1 pm1 cd1 ct1 : Value}
    {od2 an2 : Option Addr} {sl2 : Array (Option Value)} {oc2 kV2 dc2 pm2 cd2 ct2 : Value}
    {od3 an3 : Option Addr} {sl3 : Array (Option Value)} {oc3 kV3 dc3 pm3 cd3 ct3 : Value}
    {od4 an4 : Option Addr} {sl4 : Array (Option Value)} {oc4 kV4 dc4 pm4 cd4 ct4 : Value}
    {od5 an5 : Option Addr} {sl5 : Array (Option Value)} {oc5 kV5 dc5 pm5 cd5 ct5 : Value}
    {od6 an6 : Option Addr} {sl6 : Array (Option Value)} {oc6 kV6 dc6 pm6 cd6 ct6 : Value}
    {od7 an7 : Option Addr} {sl7 : Array (Option Value)} {oc7 kV7 dc7 pm7 cd7 ct7 : Value}
    {od8 an8 : Option Addr} {sl8 : Array (Option Value)} {oc8 kV8 dc8 pm8 cd8 ct8 : Value}
    {od9 an9 : Option Addr} {sl9 : Array (Option Value)} {oc9 kV9 dc9 pm9 cd9 ct9 : Value}
    {od10 an10 : Option Addr} {sl10 : Array (Option Value)} {oc10 kV10 dc10 pm10 cd10 ct10 : Value}
    {od11 an11 : Option Addr} {sl11 : Array (Option Value)} {oc11 kV11 dc11 pm11 cd11 ct11 : Value}
    {od13 an13 : Option Addr} {sl13 : Array (Option Value)} {oc13 kV13 dc13 pm13 cd13 ct13 : Value}
    {od14 an14 : Option Addr} {sl14 : Array (Option Value)} {oc14 kV14 dc14 pm14 cd14 ct14 : Value}
    {od15 an15 : Option Addr} {sl15 : Array (Option Value)} {oc15 kV15 dc15 pm15 cd15 ct15 : Value}
    {od16 an16 : Option Addr} {sl16 : Array (Option Value)} {oc16 kV16 dc16 pm16 cd16 ct16 : Value}
    {od17 an17 : Option Addr} {sl17 : Array (Option Value)} {oc17 kV17 dc17 pm17 cd17 ct17 : Value}
    {od18 an18 : Option Addr} {sl18 : Array (Option Value)} {oc18 kV18 dc18 pm18 cd18 ct18 : Value}
    {od19 an19 : Option Addr} {sl19 : Array (Option Value)} {oc19 kV19 dc19 pm19 cd19 ct19 : Value}
    {od20 an20 : Option Addr} {sl20 : Array (Option Value)} {oc20 kV20 dc20 pm20 cd20 ct20 : Value}
    {od21 an21 : Option Addr} {sl21 : Array (Option Value)} {oc21 kV21 dc21 pm21 cd21 ct21 : Value}
    {od22 an22 : Option Addr} {sl22 : Array (Option Value)} {oc22 kV22 dc22 pm22 cd22 ct22 : Value}
    {od23 an23 : Option Addr} {sl23 : Array (Option Value)} {oc23 kV23 dc23 pm23 cd23 ct23 : Value}
    {od24 an24 : Option Addr} {sl24 : Array (Option Value)} {oc24 kV24 dc24 pm24 cd24 ct24 : Value}
    {od25 an25 : Option Addr} {sl25 : Array (Option Value)} {oc25 kV25 dc25 pm25 cd25 ct25 : Value}
    {od26 an26 : Option Addr} {sl26 : Array (Option Value)} {oc26 kV26 dc26 pm26 cd26 ct26 : Value}
    {od27 an27 : Option Addr} {sl27 : Array (Option Value)} {oc27 kV27 dc27 pm27 cd27 ct27 : Value}
    {od28 an28 : Option Addr} {sl28 : Array (Option Value)} {oc28 kV28 dc28 pm28 cd28 ct28 : Value}
    {od29 an29 : Option Addr} {sl29 : Array (Option Value)} {oc29 kV29 dc29 pm29 cd29 ct29 : Value}
    {cr12 : ClassData}
    {tk_MOST_JOBS : Nat}
    {tk_MOST_SIZE : Nat}
    (X : K.In h) (G : h.Ns mainGlobals mg) (hfa : mg "law" = some (.ref fa))
    (aC12 : PySem.W.nsIn K mainGlobals "Jobs" = some (some (.ref f12)))
    (a0 : PySem.W.nsIn K mainGlobals "law" = some (some (.ref f0)))
    (l0 : K.lookup f0 = some ⟨oc0, od0, .func (PySem.W.fnOf "law" "law" (defArgs s0) (defBody s0) (defScope s0) .none kV0 dc0 pm0 an0 cd0 ct0), sl0⟩)
    (c0 : PySem.W.codeIn K cd0 "law" = true)
    (k0 : PySem.W.keepIn K (.ref f0) = true)
    (a1 : PySem.W.nsIn K mainGlobals "_law_bag" = some (some (.ref f1)))
    (l1 : K.lookup f1 = some ⟨oc1, od1, .func (PySem.W.fnOf "_law_bag" "_law_bag" (defArgs s1) (defBody s1) (defScope s1) .none kV1 dc1 pm1 an1 cd1 ct1), sl1⟩)
    (c1 : PySem.W.codeIn K cd1 "_law_bag" = true)
    (k1 : PySem.W.keepIn K (.ref f1) = true)
    (a2 : PySem.W.nsIn K mainGlobals "_law_take" = some (some (.ref f2)))
    (l2 : K.lookup f2 = some ⟨oc2, od2, .func (PySem.W.fnOf "_law_take" "_law_take" (defArgs s2) (defBody s2) (defScope s2) .none kV2 dc2 pm2 an2 cd2 ct2), sl2⟩)
    (c2 : PySem.W.codeIn K cd2 "_law_take" = true)
    (k2 : PySem.W.keepIn K (.ref f2) = true)
    (a3 : PySem.W.nsIn K mainGlobals "_law_jobs" = some (some (.ref f3)))
    (l3 : K.lookup f3 = some ⟨oc3, od3, .func (PySem.W.fnOf "_law_jobs" "_law_jobs" (defArgs s3) (defBody s3) (defScope s3) .none kV3 dc3 pm3 an3 cd3 ct3), sl3⟩)
    (c3 : PySem.W.codeIn K cd3 "_law_jobs" = true)
    (k3 : PySem.W.keepIn K (.ref f3) = true)
    (a4 : PySem.W.nsIn K mainGlobals "_law_one" = some (some (.ref f4)))
    (l4 : K.lookup f4 = some ⟨oc4, od4, .func (PySem.W.fnOf "_law_one" "_law_one" (defArgs s4) (defBody s4) (defScope s4) .none kV4 dc4 pm4 an4 cd4 ct4), sl4⟩)
    (c4 : PySem.W.codeIn K cd4 "_law_one" = true)
    (k4 : PySem.W.keepIn K (.ref f4) = true)
    (a5 : PySem.W.nsIn K mainGlobals "_law_job" = some (some (.ref f5)))
    (l5 : K.lookup f5 = some ⟨oc5, od5, .func (PySem.W.fnOf "_law_job" "_law_job" (defArgs s5) (defBody s5) (defScope s5) .none kV5 dc5 pm5 an5 cd5 ct5), sl5⟩)
    (c5 : PySem.W.codeIn K cd5 "_law_job" = true)
    (k5 : PySem.W.keepIn K (.ref f5) = true)
    (a6 : PySem.W.nsIn K mainGlobals "_law_some" = some (some (.ref f6)))
    (l6 : K.lookup f6 = some ⟨oc6, od6, .func (PySem.W.fnOf "_law_some" "_law_some" (defArgs s6) (defBody s6) (defScope s6) .none kV6 dc6 pm6 an6 cd6 ct6), sl6⟩)
    (c6 : PySem.W.codeIn K cd6 "_law_some" = true)
    (k6 : PySem.W.keepIn K (.ref f6) = true)
    (a7 : PySem.W.findIn K (.ref f12) "__init__" = some (some (.ref f7)))
    (i7 : PySem.W.isFn K (.ref f7) = true)
    (l7 : K.lookup f7 = some ⟨oc7, od7, .func (PySem.W.fnOf "__init__" "Jobs.__init__" (defArgs s7) (defBody s7) (defScope s7) .none kV7 dc7 pm7 an7 cd7 ct7), sl7⟩)
    (c7 : PySem.W.codeIn K cd7 "Jobs.__init__" = true)
    (k7 : PySem.W.keepIn K (.ref f7) = true)
    (a8 : PySem.W.nsIn K mainGlobals "is_between" = some (some (.ref f8)))
    (l8 : K.lookup f8 = some ⟨oc8, od8, .func (PySem.W.fnOf "is_between" "is_between" (defArgs s8) (defBody s8) (defScope s8) .none kV8 dc8 pm8 an8 cd8 ct8), sl8⟩)
    (c8 : PySem.W.codeIn K cd8 "is_between" = true)
    (k8 : PySem.W.keepIn K (.ref f8) = true)
    (a9 : PySem.W.nsIn K mainGlobals "is_integer" = some (some (.ref f9)))
    (l9 : K.lookup f9 = some ⟨oc9, od9, .func (PySem.W.fnOf "is_integer" "is_integer" (defArgs s9) (defBody s9) (defScope s9) .none kV9 dc9 pm9 an9 cd9 ct9), sl9⟩)
    (c9 : PySem.W.codeIn K cd9 "is_integer" = true)
    (k9 : PySem.W.keepIn K (.ref f9) = true)
    (a10 : PySem.W.nsIn K mainGlobals "is_listed" = some (some (.ref f10)))
    (l10 : K.lookup f10 = some ⟨oc10, od10, .func (PySem.W.fnOf "is_listed" "is_listed" (defArgs s10) (defBody s10) (defScope s10) .none kV10 dc10 pm10 an10 cd10 ct10), sl10⟩)
    (c10 : PySem.W.codeIn K cd10 "is_listed" = true)
    (k10 : PySem.W.keepIn K (.ref f10) = true)
    (a11 : PySem.W.nsIn K mainGlobals "is_group" = some (some (.ref f11)))
    (l11 : K.lookup f11 = some ⟨oc11, od11, .func (PySem.W.fnOf "is_group" "is_group" (defArgs s11) (defBody s11) (defScope s11) .none kV11 dc11 pm11 an11 cd11 ct11), sl11⟩)
    (c11 : PySem.W.codeIn K cd11 "is_group" = true)
    (k11 : PySem.W.keepIn K (.ref f11) = true)
    (a13 : PySem.W.nsIn K mainGlobals "_law_alike" = some (some (.ref f13)))
    (l13 : K.lookup f13 = some ⟨oc13, od13, .func (PySem.W.fnOf "_law_alike" "_law_alike" (defArgs s13) (defBody s13) (defScope s13) .none kV13 dc13 pm13 an13 cd13 ct13), sl13⟩)
    (c13 : PySem.W.codeIn K cd13 "_law_alike" = true)
    (k13 : PySem.W.keepIn K (.ref f13) = true)
    (a14 : PySem.W.findIn K (.ref f12) "open_to" = some (some (.ref f14)))
    (i14 : PySem.W.isFn K (.ref f14) = true)
    (l14 : K.lookup f14 = some ⟨oc14, od14, .func (PySem.W.fnOf "open_to" "Jobs.open_to" (defArgs s14) (defBody s14) (defScope s14) .none kV14 dc14 pm14 an14 cd14 ct14), sl14⟩)
    (c14 : PySem.W.codeIn K cd14 "Jobs.open_to" = true)
    (k14 : PySem.W.keepIn K (.ref f14) = true)
    (a15 : PySem.W.nsIn K mainGlobals "open_indexes" = some (some (.ref f15)))
    (l15 : K.lookup f15 = some ⟨oc15, od15, .func (PySem.W.fnOf "open_indexes" "open_indexes" (defArgs s15) (defBody s15) (defScope s15) .none kV15 dc15 pm15 an15 cd15 ct15), sl15⟩)
    (c15 : PySem.W.codeIn K cd15 "open_indexes" = true)
    (k15 : PySem.W.keepIn K (.ref f15) = true)
    (a16 : PySem.W.nsIn K mainGlobals "_law_open" = some (some (.ref f16)))
    (l16 : K.lookup f16 = some ⟨oc16, od16, .func (PySem.W.fnOf "_law_open" "_law_open" (defArgs s16) (defBody s16) (defScope s16) .none kV16 dc16 pm16 an16 cd16 ct16), sl16⟩)
    (c16 : PySem.W.codeIn K cd16 "_law_open" = true)
    (k16 : PySem.W.keepIn K (.ref f16) = true)
    (a17 : PySem.W.nsIn K mainGlobals "_law_told" = some (some (.ref f17)))
    (l17 : K.lookup f17 = some ⟨oc17, od17, .func (PySem.W.fnOf "_law_told" "_law_told" (defArgs s17) (defBody s17) (defScope s17) .none kV17 dc17 pm17 an17 cd17 ct17), sl17⟩)
    (c17 : PySem.W.codeIn K cd17 "_law_told" = true)
    (k17 : PySem.W.keepIn K (.ref f17) = true)
    (a18 : PySem.W.findIn K (.ref f12) "picked" = some (some (.ref f18)))
    (i18 : PySem.W.isFn K (.ref f18) = true)
    (l18 : K.lookup f18 = some ⟨oc18, od18, .func (PySem.W.fnOf "picked" "Jobs.picked" (defArgs s18) (defBody s18) (defScope s18) .none kV18 dc18 pm18 an18 cd18 ct18), sl18⟩)
    (c18 : PySem.W.codeIn K cd18 "Jobs.picked" = true)
    (k18 : PySem.W.keepIn K (.ref f18) = true)
    (a19 : PySem.W.findIn K (.ref f12) "outside" = some (some (.ref f19)))
    (i19 : PySem.W.isFn K (.ref f19) = true)
    (l19 : K.lookup f19 = some ⟨oc19, od19, .func (PySem.W.fnOf "outside" "Jobs.outside" (defArgs s19) (defBody s19) (defScope s19) .none kV19 dc19 pm19 an19 cd19 ct19), sl19⟩)
    (c19 : PySem.W.codeIn K cd19 "Jobs.outside" = true)
    (k19 : PySem.W.keepIn K (.ref f19) = true)
    (a20 : PySem.W.nsIn K mainGlobals "rest" = some (some (.ref f20)))
    (l20 : K.lookup f20 = some ⟨oc20, od20, .func (PySem.W.fnOf "rest" "rest" (defArgs s20) (defBody s20) (defScope s20) .none kV20 dc20 pm20 an20 cd20 ct20), sl20⟩)
    (c20 : PySem.W.codeIn K cd20 "rest" = true)
    (k20 : PySem.W.keepIn K (.ref f20) = true)
    (a21 : PySem.W.nsIn K mainGlobals "apart" = some (some (.ref f21)))
    (l21 : K.lookup f21 = some ⟨oc21, od21, .func (PySem.W.fnOf "apart" "apart" (defArgs s21) (defBody s21) (defScope s21) .none kV21 dc21 pm21 an21 cd21 ct21), sl21⟩)
    (c21 : PySem.W.codeIn K cd21 "apart" = true)
    (k21 : PySem.W.keepIn K (.ref f21) = true)
    (a22 : PySem.W.nsIn K mainGlobals "_law_rest" = some (some (.ref f22)))
    (l22 : K.lookup f22 = some ⟨oc22, od22, .func (PySem.W.fnOf "_law_rest" "_law_rest" (defArgs s22) (defBody s22) (defScope s22) .none kV22 dc22 pm22 an22 cd22 ct22), sl22⟩)
    (c22 : PySem.W.codeIn K cd22 "_law_rest" = true)
    (k22 : PySem.W.keepIn K (.ref f22) = true)
    (a23 : PySem.W.nsIn K mainGlobals "_law_changed_right" = some (some (.ref f23)))
    (l23 : K.lookup f23 = some ⟨oc23, od23, .func (PySem.W.fnOf "_law_changed_right" "_law_changed_right" (defArgs s23) (defBody s23) (defScope s23) .none kV23 dc23 pm23 an23 cd23 ct23), sl23⟩)
    (c23 : PySem.W.codeIn K cd23 "_law_changed_right" = true)
    (k23 : PySem.W.keepIn K (.ref f23) = true)
    (a24 : PySem.W.findIn K (.ref f12) "put" = some (some (.ref f24)))
    (i24 : PySem.W.isFn K (.ref f24) = true)
    (l24 : K.lookup f24 = some ⟨oc24, od24, .func (PySem.W.fnOf "put" "Jobs.put" (defArgs s24) (defBody s24) (defScope s24) .none kV24 dc24 pm24 an24 cd24 ct24), sl24⟩)
    (c24 : PySem.W.codeIn K cd24 "Jobs.put" = true)
    (k24 : PySem.W.keepIn K (.ref f24) = true)
    (a25 : PySem.W.findIn K (.ref f12) "changed" = some (some (.ref f25)))
    (i25 : PySem.W.isFn K (.ref f25) = true)
    (l25 : K.lookup f25 = some ⟨oc25, od25, .func (PySem.W.fnOf "changed" "Jobs.changed" (defArgs s25) (defBody s25) (defScope s25) .none kV25 dc25 pm25 an25 cd25 ct25), sl25⟩)
    (c25 : PySem.W.codeIn K cd25 "Jobs.changed" = true)
    (k25 : PySem.W.keepIn K (.ref f25) = true)
    (a26 : PySem.W.nsIn K mainGlobals "together" = some (some (.ref f26)))
    (l26 : K.lookup f26 = some ⟨oc26, od26, .func (PySem.W.fnOf "together" "together" (defArgs s26) (defBody s26) (defScope s26) .none kV26 dc26 pm26 an26 cd26 ct26), sl26⟩)
    (c26 : PySem.W.codeIn K cd26 "together" = true)
    (k26 : PySem.W.keepIn K (.ref f26) = true)
    (a27 : PySem.W.findIn K (.ref f12) "struck" = some (some (.ref f27)))
    (i27 : PySem.W.isFn K (.ref f27) = true)
    (l27 : K.lookup f27 = some ⟨oc27, od27, .func (PySem.W.fnOf "struck" "Jobs.struck" (defArgs s27) (defBody s27) (defScope s27) .none kV27 dc27 pm27 an27 cd27 ct27), sl27⟩)
    (c27 : PySem.W.codeIn K cd27 "Jobs.struck" = true)
    (k27 : PySem.W.keepIn K (.ref f27) = true)
    (a28 : PySem.W.nsIn K mainGlobals "_law_with" = some (some (.ref f28)))
    (l28 : K.lookup f28 = some ⟨oc28, od28, .func (PySem.W.fnOf "_law_with" "_law_with" (defArgs s28) (defBody s28) (defScope s28) .none kV28 dc28 pm28 an28 cd28 ct28), sl28⟩)
    (c28 : PySem.W.codeIn K cd28 "_law_with" = true)
    (k28 : PySem.W.keepIn K (.ref f28) = true)
    (a29 : PySem.W.findIn K (.ref f12) "__eq__" = some (some (.ref f29)))
    (i29 : PySem.W.isFn K (.ref f29) = true)
    (l29 : K.lookup f29 = some ⟨oc29, od29, .func (PySem.W.fnOf "__eq__" "Jobs.__eq__" (defArgs s29) (defBody s29) (defScope s29) .none kV29 dc29 pm29 an29 cd29 ct29), sl29⟩)
    (c29 : PySem.W.codeIn K cd29 "Jobs.__eq__" = true)
    (k29 : PySem.W.keepIn K (.ref f29) = true)
    (pg12 : PySem.W.plainGet K f12 Str.empty = true)
    (hd12 : PySem.W.hasDictIn K f12 = true)
    (po12 : PySem.W.plainOver K f12 = true)
    (sa12 : PySem.W.findIn K (.ref f12) "__setattr__" = some (some (.builtin "object.__setattr__")))
    (mk12 : PySem.W.makesIn K f12 = true)
    (kc12 : PySem.W.keepIn K (.ref f12) = true)
    (ha12 : PySem.W.findIn K (.ref f12) "__class__" = some (some (.builtin "object.__class__")))
    (ty12 : PySem.W.typeIn K (.ref f12) = some (.type "type"))
    (cc12 : PySem.W.clsIn K f12 = some cr12)
    (mo12 : PySem.W.mroIn K f12 (.type "object") = some true)
    (mNoneType12 : PySem.W.mroIn K f12 (.type "NoneType") = some false)
    (mbool12 : PySem.W.mroIn K f12 (.type "bool") = some false)
    (mint12 : PySem.W.mroIn K f12 (.type "int") = some false)
    (mstr12 : PySem.W.mroIn K f12 (.type "str") = some false)
    (mtuple12 : PySem.W.mroIn K f12 (.type "tuple") = some false)
    (mlist12 : PySem.W.mroIn K f12 (.type "list") = some false)
    (mdict12 : PySem.W.mroIn K f12 (.type "dict") = some false)
    (hn : PySem.W.specialIn K (.builtin "object.__class__") "__get__" = some (some (.builtin "getset_descriptor.__get__")))
    (htk : PySem.W.takesIn K (.builtin "object.__class__") = some true)
    (n12_jobs : PySem.W.findIn K (.ref f12) "jobs" = some none)
    (n12_size : PySem.W.findIn K (.ref f12) "size" = some none)
    (z_abs : PySem.W.nsIn K mainGlobals "abs" = some none)
    (z_all : PySem.W.nsIn K mainGlobals "all" = some none)
    (z_any : PySem.W.nsIn K mainGlobals "any" = some none)
    (z_bool : PySem.W.nsIn K mainGlobals "bool" = some none)
    (z_enumerate : PySem.W.nsIn K mainGlobals "enumerate" = some none)
    (z_int : PySem.W.nsIn K mainGlobals "int" = some none)
    (z_isinstance : PySem.W.nsIn K mainGlobals "isinstance" = some none)
    (z_len : PySem.W.nsIn K mainGlobals "len" = some none)
    (z_list : PySem.W.nsIn K mainGlobals "list" = some none)
    (z_range : PySem.W.nsIn K mainGlobals "range" = some none)
    (z_repr : PySem.W.nsIn K mainGlobals "repr" = some none)
    (z_set : PySem.W.nsIn K mainGlobals "set" = some none)
    (z_sorted : PySem.W.nsIn K mainGlobals "sorted" = some none)
    (z_tuple : PySem.W.nsIn K mainGlobals "tuple" = some none)
    (g_MOST_JOBS : PySem.W.nsIn K mainGlobals "MOST_JOBS" = some (some (.int 7 tk_MOST_JOBS)))
    (g_MOST_SIZE : PySem.W.nsIn K mainGlobals "MOST_SIZE" = some (some (.int 7 tk_MOST_SIZE)))
    : ∃ (fd : FuncData) (Gf : Fn), (∀ (s : Shared) (u : Value), BindsTo s fd ⟨[u], []⟩ [("_law_script", u)]) ∧ (∀ ns : List Int, ns.length ≤ 63 → Gf [.scr (ns.map D.int)] = .ok (false, .bl true) []) ∧
      ∀ bs : Heap, K.In bs → bs.Ns mainGlobals mg → FnG l.prog w K mg bs CX0 9 fa fd ["_law_script"] (spD K [false] Gf) := by
  obtain rfl : f0 = fa := by
    have e := hfa.symm.trans (PySem.W.mg_of X G a0)
    cases e
    rfl
  have F0 := fun_mk (st := s0) l0 c0 k0
  have b0 := F0.binds (ps := ["_law_script"]) fun _ _ _ _ _ _ us hl => match us, hl with | [_], _ => rfl
  have F1 := fun_mk (st := s1) l1 c1 k1
  have b1 := F1.binds (ps := ["_law_script"]) fun _ _ _ _ _ _ us hl => match us, hl with | [_], _ => rfl
  have F2 := fun_mk (st := s2) l2 c2 k2
  have b2 := F2.binds (ps := ["_law_bag_here", "_law_many"]) fun _ _ _ _ _ _ us hl => match us, hl with | [_, _], _ => rfl
  have F3 := fun_mk (st := s3) l3 c3 k3
  have b3 := F3.binds (ps := ["_law_bag_here", "_law_size", "_law_most"]) fun _ _ _ _ _ _ us hl => match us, hl with | [_, _, _], _ => rfl
  have F4 := fun_mk (st := s4) l4 c4 k4
  have b4 := F4.binds (ps := ["_law_bag_here", "_law_things"]) fun _ _ _ _ _ _ us hl => match us, hl with | [_, _], _ => rfl
  have F5 := fun_mk (st := s5) l5 c5 k5
  have b5 := F5.binds (ps := ["_law_bag_here", "_law_size"]) fun _ _ _ _ _ _ us hl => match us, hl with | [_, _], _ => rfl
  have F6 := fun_mk (st := s6) l6 c6 k6
  have b6 := F6.binds (ps := ["_law_bag_here", "_law_things"]) fun _ _ _ _ _ _ us hl => match us, hl with | [_, _], _ => rfl
  have F7 := fun_mk (st := s7) l7 c7 k7
  have b7 := F7.binds (ps := ["self", "size", "jobs"]) fun _ _ _ _ _ _ us hl => match us, hl with | [_, _, _], _ => rfl
  have F8 := fun_mk (st := s8) l8 c8 k8
  have b8 := F8.binds (ps := ["thing", "least", "most"]) fun _ _ _ _ _ _ us hl => match us, hl with | [_, _, _], _ => rfl
  have F9 := fun_mk (st := s9) l9 c9 k9
  have b9 := F9.binds (ps := ["thing"]) fun _ _ _ _ _ _ us hl => match us, hl with | [_], _ => rfl
  have F10 := fun_mk (st := s10) l10 c10 k10
  have b10 := F10.binds (ps := ["thing", "most"]) fun _ _ _ _ _ _ us hl => match us, hl with | [_, _], _ => rfl
  have F11 := fun_mk (st := s11) l11 c11 k11
  have b11 := F11.binds (ps := ["size", "thing"]) fun _ _ _ _ _ _ us hl => match us, hl with | [_, _], _ => rfl
  have F13 := fun_mk (st := s13) l13 c13 k13
  have b13 := F13.binds (ps := ["_law_found", "_law_due"]) fun _ _ _ _ _ _ us hl => match us, hl with | [_, _], _ => rfl
  have F14 := fun_mk (st := s14) l14 c14 k14
  have b14 := F14.binds (ps := ["self", "group"]) fun _ _ _ _ _ _ us hl => match us, hl with | [_, _], _ => rfl
  have F15 := fun_mk (st := s15) l15 c15 k15
  have b15 := F15.binds (ps := ["jobs", "group"]) fun _ _ _ _ _ _ us hl => match us, hl with | [_, _], _ => rfl
  have F16 := fun_mk (st := s16) l16 c16 k16
  have b16 := F16.binds (ps := ["_law_rows", "_law_group"]) fun _ _ _ _ _ _ us hl => match us, hl with | [_, _], _ => rfl
  have F17 := fun_mk (st := s17) l17 c17 k17
  have b17 := F17.binds (ps := ["_law_jobs_here"]) fun _ _ _ _ _ _ us hl => match us, hl with | [_], _ => rfl
  have F18 := fun_mk (st := s18) l18 c18 k18
  have b18 := F18.binds (ps := ["self", "indexes"]) fun _ _ _ _ _ _ us hl => match us, hl with | [_, _], _ => rfl
  have F19 := fun_mk (st := s19) l19 c19 k19
  have b19 := F19.binds (ps := ["self", "at"]) fun _ _ _ _ _ _ us hl => match us, hl with | [_, _], _ => rfl
  have F20 := fun_mk (st := s20) l20 c20 k20
  have b20 := F20.binds (ps := ["size", "group"]) fun _ _ _ _ _ _ us hl => match us, hl with | [_, _], _ => rfl
  have F21 := fun_mk (st := s21) l21 c21 k21
  have b21 := F21.binds (ps := ["one", "other"]) fun _ _ _ _ _ _ us hl => match us, hl with | [_, _], _ => rfl
  have F22 := fun_mk (st := s22) l22 c22 k22
  have b22 := F22.binds (ps := ["_law_size", "_law_group"]) fun _ _ _ _ _ _ us hl => match us, hl with | [_, _], _ => rfl
  have F23 := fun_mk (st := s23) l23 c23 k23
  have b23 := F23.binds (ps := ["_law_bag_here", "_law_jobs_here", "_law_size", "_law_rows", "_law_at"]) fun _ _ _ _ _ _ us hl => match us, hl with | [_, _, _, _, _], _ => rfl
  have F24 := fun_mk (st := s24) l24 c24 k24
  have b24 := F24.binds (ps := ["self", "at", "person"]) fun _ _ _ _ _ _ us hl => match us, hl with | [_, _, _], _ => rfl
  have F25 := fun_mk (st := s25) l25 c25 k25
  have b25 := F25.binds (ps := ["self", "at", "job"]) fun _ _ _ _ _ _ us hl => match us, hl with | [_, _, _], _ => rfl
  have F26 := fun_mk (st := s26) l26 c26 k26
  have b26 := F26.binds (ps := ["one", "other"]) fun _ _ _ _ _ _ us hl => match us, hl with | [_, _], _ => rfl
  have F27 := fun_mk (st := s27) l27 c27 k27
  have b27 := F27.binds (ps := ["self", "at", "person"]) fun _ _ _ _ _ _ us hl => match us, hl with | [_, _, _], _ => rfl
  have F28 := fun_mk (st := s28) l28 c28 k28
  have b28 := F28.binds (ps := ["_law_rows", "_law_at", "_law_job_here"]) fun _ _ _ _ _ _ us hl => match us, hl with | [_, _, _], _ => rfl
  have F29 := fun_mk (st := s29) l29 c29 k29
  have b29 := F29.binds (ps := ["self", "other"]) fun _ _ _ _ _ _ us hl => match us, hl with | [_, _], _ => rfl
  have cl12 : Cls K f12 := ⟨pg12, hd12, po12, sa12⟩
  have cf12 : ClsF K f12 := ⟨⟨cl12, ha12, hn, htk, mo12⟩, ty12, ⟨_, cc12⟩, by
    intro T hT
    simp only [tysB, List.mem_cons, List.not_mem_nil, or_false] at hT
    rcases hT with rfl | rfl | rfl | rfl | rfl | rfl | rfl
    · exact mNoneType12
    · exact mbool12
    · exact mint12
    · exact mstr12
    · exact mtuple12
    · exact mlist12
    · exact mdict12⟩
  have T : Txt K mg (pickA [f0, f1, f2, f3, f4, f5, f6, f7, f8, f9, f10, f11, f12, f13, f14, f15, f16, f17, f18, f19, f20, f21, f22, f23, f24, f25, f26, f27, f28, f29]) (pickF (PySem.W.fnOf "law" "law" (defArgs s0) (defBody s0) (defScope s0) .none kV0 dc0 pm0 an0 cd0 ct0) [(PySem.W.fnOf "law" "law" (defArgs s0) (defBody s0) (defScope s0) .none kV0 dc0 pm0 an0 cd0 ct0), (PySem.W.fnOf "_law_bag" "_law_bag" (defArgs s1) (defBody s1) (defScope s1) .none kV1 dc1 pm1 an1 cd1 ct1), (PySem.W.fnOf "_law_take" "_law_take" (defArgs s2) (defBody s2) (defScope s2) .none kV2 dc2 pm2 an2 cd2 ct2), (PySem.W.fnOf "_law_jobs" "_law_jobs" (defArgs s3) (defBody s3) (defScope s3) .none kV3 dc3 pm3 an3 cd3 ct3), (PySem.W.fnOf "_law_one" "_law_one" (defArgs s4) (defBody s4) (defScope s4) .none kV4 dc4 pm4 an4 cd4 ct4), (PySem.W.fnOf "_law_job" "_law_job" (defArgs s5) (defBody s5) (defScope s5) .none kV5 dc5 pm5 an5 cd5 ct5), (PySem.W.fnOf "_law_some" "_law_some" (defArgs s6) (defBody s6) (defScope s6) .none kV6 dc6 pm6 an6 cd6 ct6), (PySem.W.fnOf "__init__" "Jobs.__init__" (defArgs s7) (defBody s7) (defScope s7) .none kV7 dc7 pm7 an7 cd7 ct7), (PySem.W.fnOf "is_between" "is_between" (defArgs s8) (defBody s8) (defScope s8) .none kV8 dc8 pm8 an8 cd8 ct8), (PySem.W.fnOf "is_integer" "is_integer" (defArgs s9) (defBody s9) (defScope s9) .none kV9 dc9 pm9 an9 cd9 ct9), (PySem.W.fnOf "is_listed" "is_listed" (defArgs s10) (defBody s10) (defScope s10) .none kV10 dc10 pm10 an10 cd10 ct10), (PySem.W.fnOf "is_group" "is_group" (defArgs s11) (defBody s11) (defScope s11) .none kV11 dc11 pm11 an11 cd11 ct11), (PySem.W.fnOf "law" "law" (defArgs s0) (defBody s0) (defScope s0) .none kV0 dc0 pm0 an0 cd0 ct0), (PySem.W.fnOf "_law_alike" "_law_alike" (defArgs s13) (defBody s13) (defScope s13) .none kV13 dc13 pm13 an13 cd13 ct13), (PySem.W.fnOf "open_to" "Jobs.open_to" (defArgs s14) (defBody s14) (defScope s14) .none kV14 dc14 pm14 an14 cd14 ct14), (PySem.W.fnOf "open_indexes" "open_indexes" (defArgs s15) (defBody s15) (defScope s15) .none kV15 dc15 pm15 an15 cd15 ct15), (PySem.W.fnOf "_law_open" "_law_open" (defArgs s16) (defBody s16) (defScope s16) .none kV16 dc16 pm16 an16 cd16 ct16), (PySem.W.fnOf "_law_told" "_law_told" (defArgs s17) (defBody s17) (defScope s17) .none kV17 dc17 pm17 an17 cd17 ct17), (PySem.W.fnOf "picked" "Jobs.picked" (defArgs s18) (defBody s18) (defScope s18) .none kV18 dc18 pm18 an18 cd18 ct18), (PySem.W.fnOf "outside" "Jobs.outside" (defArgs s19) (defBody s19) (defScope s19) .none kV19 dc19 pm19 an19 cd19 ct19), (PySem.W.fnOf "rest" "rest" (defArgs s20) (defBody s20) (defScope s20) .none kV20 dc20 pm20 an20 cd20 ct20), (PySem.W.fnOf "apart" "apart" (defArgs s21) (defBody s21) (defScope s21) .none kV21 dc21 pm21 an21 cd21 ct21), (PySem.W.fnOf "_law_rest" "_law_rest" (defArgs s22) (defBody s22) (defScope s22) .none kV22 dc22 pm22 an22 cd22 ct22), (PySem.W.fnOf "_law_changed_right" "_law_changed_right" (defArgs s23) (defBody s23) (defScope s23) .none kV23 dc23 pm23 an23 cd23 ct23), (PySem.W.fnOf "put" "Jobs.put" (defArgs s24) (defBody s24) (defScope s24) .none kV24 dc24 pm24 an24 cd24 ct24), (PySem.W.fnOf "changed" "Jobs.changed" (defArgs s25) (defBody s25) (defScope s25) .none kV25 dc25 pm25 an25 cd25 ct25), (PySem.W.fnOf "together" "together" (defArgs s26) (defBody s26) (defScope s26) .none kV26 dc26 pm26 an26 cd26 ct26), (PySem.W.fnOf "struck" "Jobs.struck" (defArgs s27) (defBody s27) (defScope s27) .none kV27 dc27 pm27 an27 cd27 ct27), (PySem.W.fnOf "_law_with" "_law_with" (defArgs s28) (defBody s28) (defScope s28) .none kV28 dc28 pm28 an28 cd28 ct28), (PySem.W.fnOf "__eq__" "Jobs.__eq__" (defArgs s29) (defBody s29) (defScope s29) .none kV29 dc29 pm29 an29 cd29 ct29)]) := {
    F0 := F0
    b0 := b0
    k0 := k0
    m0 := PySem.W.mg_of X G a0
    F1 := F1
    b1 := b1
    k1 := k1
    m1 := PySem.W.mg_of X G a1
    F2 := F2
    b2 := b2
    k2 := k2
    m2 := PySem.W.mg_of X G a2
    F3 := F3
    b3 := b3
    k3 := k3
    m3 := PySem.W.mg_of X G a3
    F4 := F4
    b4 := b4
    k4 := k4
    m4 := PySem.W.mg_of X G a4
    F5 := F5
    b5 := b5
    k5 := k5
    m5 := PySem.W.mg_of X G a5
    F6 := F6
    b6 := b6
    k6 := k6
    m6 := PySem.W.mg_of X G a6
    F7 := F7
    b7 := b7
    k7 := k7
    F8 := F8
    b8 := b8
    k8 := k8
    m8 := PySem.W.mg_of X G a8
    F9 := F9
    b9 := b9
    k9 := k9
    m9 := PySem.W.mg_of X G a9
    F10 := F10
    b10 := b10
    k10 := k10
    m10 := PySem.W.mg_of X G a10
    F11 := F11
    b11 := b11
    k11 := k11
    m11 := PySem.W.mg_of X G a11
    F13 := F13
    b13 := b13
    k13 := k13
    m13 := PySem.W.mg_of X G a13
    F14 := F14
    b14 := b14
    k14 := k14
    t14 := ⟨a14, i14, k14⟩
    F15 := F15
    b15 := b15
    k15 := k15
    m15 := PySem.W.mg_of X G a15
    F16 := F16
    b16 := b16
    k16 := k16
    m16 := PySem.W.mg_of X G a16
    F17 := F17
    b17 := b17
    k17 := k17
    m17 := PySem.W.mg_of X G a17
    F18 := F18
    b18 := b18
    k18 := k18
    t18 := ⟨a18, i18, k18⟩
    F19 := F19
    b19 := b19
    k19 := k19
    t19 := ⟨a19, i19, k19⟩
    F20 := F20
    b20 := b20
    k20 := k20
    m20 := PySem.W.mg_of X G a20
    F21 := F21
    b21 := b21
    k21 := k21
    m21 := PySem.W.mg_of X G a21
    F22 := F22
    b22 := b22
    k22 := k22
    m22 := PySem.W.mg_of X G a22
    F23 := F23
    b23 := b23
    k23 := k23
    m23 := PySem.W.mg_of X G a23
    F24 := F24
    b24 := b24
    k24 := k24
    t24 := ⟨a24, i24, k24⟩
    F25 := F25
    b25 := b25
    k25 := k25
    t25 := ⟨a25, i25, k25⟩
    F26 := F26
    b26 := b26
    k26 := k26
    m26 := PySem.W.mg_of X G a26
    F27 := F27
    b27 := b27
    k27 := k27
    t27 := ⟨a27, i27, k27⟩
    F28 := F28
    b28 := b28
    k28 := k28
    m28 := PySem.W.mg_of X G a28
    F29 := F29
    b29 := b29
    k29 := k29
    t29 := ⟨a29, i29, k29⟩
    cl12 := cl12
    mgC12 := PySem.W.mg_of X G aC12
    mk12 := ⟨mk12, a7, i7, kc12⟩
    ei12 := ⟨a29, i29⟩
    n12_jobs := n12_jobs
    n12_size := n12_size
    ik := IsiK.one cf12
    z_abs := PySem.W.mg_none_of X G z_abs
    z_all := PySem.W.mg_none_of X G z_all
    z_any := PySem.W.mg_none_of X G z_any
    z_bool := PySem.W.mg_none_of X G z_bool
    z_enumerate := PySem.W.mg_none_of X G z_enumerate
    z_int := PySem.W.mg_none_of X G z_int
    z_isinstance := PySem.W.mg_none_of X G z_isinstance
    z_len := PySem.W.mg_none_of X G z_len
    z_list := PySem.W.mg_none_of X G z_list
    z_range := PySem.W.mg_none_of X G z_range
    z_repr := PySem.W.mg_none_of X G z_repr
    z_set := PySem.W.mg_none_of X G z_set
    z_sorted := PySem.W.mg_none_of X G z_sorted
    z_tuple := PySem.W.mg_none_of X G z_tuple
    gi_MOST_JOBS := ⟨_, PySem.W.mg_of X G g_MOST_JOBS, ⟨_, rfl⟩⟩
    gi_MOST_SIZE := ⟨_, PySem.W.mg_of X G g_MOST_SIZE, ⟨_, rfl⟩⟩ }
  exact ⟨(PySem.W.fnOf "law" "law" (defArgs s0) (defBody s0) (defScope s0) .none kV0 dc0 pm0 an0 cd0 ct0), m_law (pickA [f0, f1, f2, f3, f4, f5, f6, f7, f8, f9, f10, f11, f12, f13, f14, f15, f16, f17, f18, f19, f20, f21, f22, f23, f24, f25, f26, f27, f28, f29]), fun s v => .of_eq rfl, fun ns hn => yes (pickA [f0, f1, f2, f3, f4, f5, f6, f7, f8, f9, f10, f11, f12, f13, f14, f15, f16, f17, f18, f19, f20, f21, f22, f23, f24, f25, f26, f27, f28, f29]) ns hn, fun bs _ _ => ok_law T⟩
end K15


open PySem PySem.W PyProof.Rows in
set_option maxRecDepth 100000 in
set_option maxHeartbeats 0 in
theorem PySem.Challenge.cw_crewlists_k15_jobs_changed_holds : PySem.Challenge.rw_crewlists_k15_jobs_changed.Holds := by
  w_on; o_law; k_head; (case hw => w_witness2)
  k_fill
  refine Cw.walkG (l := PySem.Challenge.rw_crewlists_k15_jobs_changed) (n := 63) (k := 9) (x := "_law_script") rfl (by decide) rfl ⟨rfl, by decide, by decide⟩ (fun w h Y => PySem.W.kIn_of Y) ?F
  case F =>
    intro w mg fa h KX G hmg
    refine' K15.all_mk KX G hmg ?aC12 ?a0 ?l0 ?c0 ?k0 ?a1 ?l1 ?c1 ?k1 ?a2 ?l2 ?c2 ?k2 ?a3 ?l3 ?c3 ?k3 ?a4 ?l4 ?c4 ?k4 ?a5 ?l5 ?c5 ?k5 ?a6 ?l6 ?c6 ?k6 ?a7 ?i7 ?l7 ?c7 ?k7 ?a8 ?l8 ?c8 ?k8 ?a9 ?l9 ?c9 ?k9 ?a10 ?l10 ?c10 ?k10 ?a11 ?l11 ?c11 ?k11 ?a13 ?l13 ?c13 ?k13 ?a14 ?i14 ?l14 ?c14 ?k14 ?a15 ?l15 ?c15 ?k15 ?a16 ?l16 ?c16 ?k16 ?a17 ?l17 ?c17 ?k17 ?a18 ?i18 ?l18 ?c18 ?k18 ?a19 ?i19 ?l19 ?c19 ?k19 ?a20 ?l20 ?c20 ?k20 ?a21 ?l21 ?c21 ?k21 ?a22 ?l22 ?c22 ?k22 ?a23 ?l23 ?c23 ?k23 ?a24 ?i24 ?l24 ?c24 ?k24 ?a25 ?i25 ?l25 ?c25 ?k25 ?a26 ?l26 ?c26 ?k26 ?a27 ?i27 ?l27 ?c27 ?k27 ?a28 ?l28 ?c28 ?k28 ?a29 ?i29 ?l29 ?c29 ?k29 ?pg12 ?hd12 ?po12 ?sa12 ?mk12 ?kc12 ?ha12 ?ty12 ?cc12 ?mo12 ?mNoneType12 ?mbool12 ?mint12 ?mstr12 ?mtuple12 ?mlist12 ?mdict12 ?hn ?htk ?n12_jobs ?n12_size ?z_abs ?z_all ?z_any ?z_bool ?z_enumerate ?z_int ?z_isinstance ?z_len ?z_list ?z_range ?z_repr ?z_set ?z_sorted ?z_tuple ?g_MOST_JOBS ?g_MOST_SIZE
    (case aC12 => k_is)
    (case a0 => k_is)
    (case l0 => k_is)
    (case c0 => k_is)
    (case k0 => k_is)
    (case a1 => k_is)
    (case l1 => k_is)
    (case c1 => k_is)
    (case k1 => k_is)
    (case a2 => k_is)
    (case l2 => k_is)
    (case c2 => k_is)
    (case k2 => k_is)
    (case a3 => k_is)
    (case l3 => k_is)
    (case c3 => k_is)
    (case k3 => k_is)
    (case a4 => k_is)
    (case l4 => k_is)
    (case c4 => k_is)
    (case k4 => k_is)
    (case a5 => k_is)
    (case l5 => k_is)
    (case c5 => k_is)
    (case k5 => k_is)
    (case a6 => k_is)
    (case l6 => k_is)
    (case c6 => k_is)
    (case k6 => k_is)
    (case a7 => k_is)
    (case i7 => k_is)
    (case l7 => k_is)
    (case c7 => k_is)
    (case k7 => k_is)
    (case a8 => k_is)
    (case l8 => k_is)
    (case c8 => k_is)
    (case k8 => k_is)
    (case a9 => k_is)
    (case l9 => k_is)
    (case c9 => k_is)
    (case k9 => k_is)
    (case a10 => k_is)
    (case l10 => k_is)
    (case c10 => k_is)
    (case k10 => k_is)
    (case a11 => k_is)
    (case l11 => k_is)
    (case c11 => k_is)
    (case k11 => k_is)
    (case a13 => k_is)
    (case l13 => k_is)
    (case c13 => k_is)
    (case k13 => k_is)
    (case a14 => k_is)
    (case i14 => k_is)
    (case l14 => k_is)
    (case c14 => k_is)
    (case k14 => k_is)
    (case a15 => k_is)
    (case l15 => k_is)
    (case c15 => k_is)
    (case k15 => k_is)
    (case a16 => k_is)
    (case l16 => k_is)
    (case c16 => k_is)
    (case k16 => k_is)
    (case a17 => k_is)
    (case l17 => k_is)
    (case c17 => k_is)
    (case k17 => k_is)
    (case a18 => k_is)
    (case i18 => k_is)
    (case l18 => k_is)
    (case c18 => k_is)
    (case k18 => k_is)
    (case a19 => k_is)
    (case i19 => k_is)
    (case l19 => k_is)
    (case c19 => k_is)
    (case k19 => k_is)
    (case a20 => k_is)
    (case l20 => k_is)
    (case c20 => k_is)
    (case k20 => k_is)
    (case a21 => k_is)
    (case l21 => k_is)
    (case c21 => k_is)
    (case k21 => k_is)
    (case a22 => k_is)
    (case l22 => k_is)
    (case c22 => k_is)
    (case k22 => k_is)
    (case a23 => k_is)
    (case l23 => k_is)
    (case c23 => k_is)
    (case k23 => k_is)
    (case a24 => k_is)
    (case i24 => k_is)
    (case l24 => k_is)
    (case c24 => k_is)
    (case k24 => k_is)
    (case a25 => k_is)
    (case i25 => k_is)
    (case l25 => k_is)
    (case c25 => k_is)
    (case k25 => k_is)
    (case a26 => k_is)
    (case l26 => k_is)
    (case c26 => k_is)
    (case k26 => k_is)
    (case a27 => k_is)
    (case i27 => k_is)
    (case l27 => k_is)
    (case c27 => k_is)
    (case k27 => k_is)
    (case a28 => k_is)
    (case l28 => k_is)
    (case c28 => k_is)
    (case k28 => k_is)
    (case a29 => k_is)
    (case i29 => k_is)
    (case l29 => k_is)
    (case c29 => k_is)
    (case k29 => k_is)
    (case pg12 => k_is)
    (case hd12 => k_is)
    (case po12 => k_is)
    (case sa12 => k_is)
    (case mk12 => k_is)
    (case kc12 => k_is)
    (case ha12 => k_is)
    (case ty12 => k_is)
    (case cc12 => k_is)
    (case mo12 => k_is)
    (case mNoneType12 => k_is)
    (case mbool12 => k_is)
    (case mint12 => k_is)
    (case mstr12 => k_is)
    (case mtuple12 => k_is)
    (case mlist12 => k_is)
    (case mdict12 => k_is)
    (case hn => k_is)
    (case htk => k_is)
    (case n12_jobs => k_is)
    (case n12_size => k_is)
    (case z_abs => k_is)
    (case z_all => k_is)
    (case z_any => k_is)
    (case z_bool => k_is)
    (case z_enumerate => k_is)
    (case z_int => k_is)
    (case z_isinstance => k_is)
    (case z_len => k_is)
    (case z_list => k_is)
    (case z_range => k_is)
    (case z_repr => k_is)
    (case z_set => k_is)
    (case z_sorted => k_is)
    (case z_tuple => k_is)
    (case g_MOST_JOBS => k_is)
    (case g_MOST_SIZE => k_is)

