import PyProof.Rows.All
import Wide.All
import OpenK.AllK
import Wide.FinOn
import HandS.ForMost
import HandS.ForExc
import HandS.Style
import HandS.More
import HandS.TupMul
import HandS.IsInst
import HandS.Conv
import HandS.TupAny
import HandS.Deep
import HandS.Wide
import HandS.Strs
import HandS.SetFor
import HandS.OwnEq
import KE.GoesEnum
import HandS.EndBits
import PyProof.ReprLen
import PyProof.P3Eq
import HandS.ExcInit
import HandS.ClsMeth
import KE.KExcIs
import HandS.Zip
import HandS.SortInts
import KE.KOpsOwn
import PySem.Challenge.RW_crewlists_k17_jobs_joined
set_option Elab.async false
set_option maxRecDepth 100000
set_option linter.unusedVariables false
set_option linter.unusedSimpArgs false
/-! Cw, part A: plain data D, how the heap bears it (Rp), slots (En), the state of a frame (Rel). -/
namespace Cw
open PySem L2

abbrev Fg := PySem.W.Frag
/-- plain data: what the mirrors speak of -/
inductive D where
  | non
  | bl (b : Bool)
  | int (i : Int)
  | str (x : Str)
  | tup (xs : List D)
  | lst (xs : List D)
  | dic (t : Bool) (kvs : List (D × D))
  | ins (C : Addr) (fs : List (Str × D))
  | raw (v : V)
  | scr (xs : List D)
  | xcp (cls : Value) (fs : List (Str × D))

def keyD : Key → D
  | .inl i => .int i
  | .inr x => .str x

def StT (K : Fg) (a : Addr) (vs : List V) : Prop :=
  ∃ (o : Obj) (its : Array Value) (n : Nat), K.lookup a = some o ∧ o.cls = .type "tuple" ∧ o.data = .seq its n ∧ its.size ≤ sizeLine ∧ Vals vs its.toList
abbrev Ad := Addr → Prop
def ScrAt (K : Fg) (B : Ad) (H : Hp) (a : Addr) (vs : List V) : Prop := (¬ B a ∧ Rd H a (.lst vs)) ∨
  ∃ (o : Obj) (its : Array Value) (n : Nat), K.lookup a = some o ∧ o.cls = .type "list" ∧ o.dict = none ∧ o.data = .seq its n ∧ its.size ≤ sizeLine ∧ Vals vs its.toList
def TupAt (K : Fg) (B : Ad) (H : Hp) (a : Addr) (vs : List V) : Prop := ¬ B a ∧ H a = some (.tup vs)
def LstAt (K : Fg) (B : Ad) (H : Hp) (a : Addr) (vs : List V) : Prop := ¬ B a ∧ H a = some (.lst vs)
theorem TupAt.sq {K : Fg} {B : Ad} {H : Hp} {a : Addr} {vs : List V} (h : TupAt K B H a vs) : SqT K H a vs := .inl (.inl h.2)
theorem ScrAt.sq {K : Fg} {B : Ad} {H : Hp} {a : Addr} {vs : List V} (h : ScrAt K B H a vs) : SqL K H a vs := by
  rcases h with h | h
  · exact .inl h.2
  · exact .inr h
theorem LstAt.sq {K : Fg} {B : Ad} {H : Hp} {a : Addr} {vs : List V} (h : LstAt K B H a vs) : SqL K H a vs := .inl (.inl h.2)

/-- a caught exception: its class, its dict -/
def xco (a : Addr) (cls : Value) (d : Option Addr) : HO := .ext fun h => ∃ o vs, h.get? a = some o ∧ Zc cls d o ∧ o.data = .fields vs
mutual
/-- v bears d in H, by objects that nobody will change (none of them in B) -/
inductive Rp (K : Fg) (B : Ad) (H : Hp) : V → D → Prop
  | non : Rp K B H .non .non
  | bl (b : Bool) : Rp K B H (.bl b) (.bl b)
  | int (i : Int) : Rp K B H (.int i) (.int i)
  | str (x : Str) : Rp K B H (.str x) (.str x)
  | raw (v : V) : Rp K B H v (.raw v)
  | tup {a : Addr} {vs : List V} {ds : List D} : TupAt K B H a vs → RpL K B H vs ds → Rp K B H (.ref a) (.tup ds)
  | lst {a : Addr} {vs : List V} {ds : List D} : LstAt K B H a vs → RpL K B H vs ds → Rp K B H (.ref a) (.lst ds)
  | scr {a : Addr} {vs : List V} {ds : List D} : ScrAt K B H a vs → RpL K B H vs ds → Rp K B H (.ref a) (.scr ds)
  | dK {a : Addr} {kvs : List (Key × V)} {ds : List (D × D)} : ¬ B a → Rd H a (.dK kvs) → RpP K B H (kvs.map fun p => (keyD p.1, p.2)) ds → Rp K B H (.ref a) (.dic false ds)
  | dT {a : Addr} {kvs : List (List Key × V)} {ds : List (D × D)} : ¬ B a → Rd H a (.dT kvs) → RpP K B H (kvs.map fun p => (D.tup (p.1.map keyD), p.2)) ds → Rp K B H (.ref a) (.dic true ds)
  | ins {a C dx : Addr} {fs : List (Str × V)} {ds : List (Str × D)} : ¬ B a → H a = some (.ins C dx fs) → RpF K B H fs ds → Rp K B H (.ref a) (.ins C ds)
  | xc0 {a : Addr} {cls : Value} : ¬ B a → H a = some (xco a cls none) → Rp K B H (.ref a) (.xcp cls [])
  | xc1 {a dd : Addr} {cls : Value} {fs : List (Str × V)} {ds : List (Str × D)} : ¬ B a → H a = some (xco a cls (some dd)) → ¬ B dd → H dd = some (.xd fs) → RpF K B H fs ds → Rp K B H (.ref a) (.xcp cls ds)
inductive RpL (K : Fg) (B : Ad) (H : Hp) : List V → List D → Prop
  | nil : RpL K B H [] []
  | cons {v : V} {d : D} {vs : List V} {ds : List D} : Rp K B H v d → RpL K B H vs ds → RpL K B H (v :: vs) (d :: ds)
inductive RpF (K : Fg) (B : Ad) (H : Hp) : List (Str × V) → List (Str × D) → Prop
  | nil : RpF K B H [] []
  | cons {n : Str} {v : V} {d : D} {vs : List (Str × V)} {ds : List (Str × D)} : Rp K B H v d → RpF K B H vs ds → RpF K B H ((n, v) :: vs) ((n, d) :: ds)
inductive RpP (K : Fg) (B : Ad) (H : Hp) : List (D × V) → List (D × D) → Prop
  | nil : RpP K B H [] []
  | cons {k : D} {v : V} {d : D} {vs : List (D × V)} {ds : List (D × D)} : Rp K B H v d → RpP K B H vs ds → RpP K B H ((k, v) :: vs) ((k, d) :: ds)
end

section
variable {K : Fg} {B B' : Ad} {H H' : Hp}
theorem rd_keep {a : Addr} {u : HO} (h1 : ∀ a o, H a = some o → ¬ B a → H' a = some o) (nb : ¬ B a) (h : Rd H a u) : Rd H' a u := by
  rcases h with h | ⟨o, h⟩
  · exact .inl (h1 _ _ h nb)
  · exact .inr ⟨o, h1 _ _ h nb⟩
theorem rd_some {a : Addr} {u : HO} (h : Rd H a u) : H a ≠ none := by
  rcases h with h | ⟨o, h⟩ <;> rw [h] <;> exact fun z => nomatch z
theorem TupAt.step (h1 : ∀ a o, H a = some o → ¬ B a → H' a = some o) (h2 : ∀ a, B' a → B a ∨ H a = none) {a : Addr} {vs : List V} (h : TupAt K B H a vs) : TupAt K B' H' a vs :=
  ⟨fun z => (h2 a z).elim h.1 fun q => (by rw [h.2] at q; cases q), h1 _ _ h.2 h.1⟩
theorem ScrAt.step (h1 : ∀ a o, H a = some o → ¬ B a → H' a = some o) (h2 : ∀ a, B' a → B a ∨ H a = none) {a : Addr} {vs : List V} (h : ScrAt K B H a vs) : ScrAt K B' H' a vs := by
  rcases h with ⟨nb, h⟩ | h
  · exact .inl ⟨fun z => (h2 a z).elim nb fun q => rd_some h q, rd_keep h1 nb h⟩
  · exact .inr h
theorem LstAt.step (h1 : ∀ a o, H a = some o → ¬ B a → H' a = some o) (h2 : ∀ a, B' a → B a ∨ H a = none) {a : Addr} {vs : List V} (h : LstAt K B H a vs) : LstAt K B' H' a vs :=
  ⟨fun z => (h2 a z).elim h.1 fun q => (by rw [h.2] at q; cases q), h1 _ _ h.2 h.1⟩
mutual
theorem Rp.step (h1 : ∀ a o, H a = some o → ¬ B a → H' a = some o) (h2 : ∀ a, B' a → B a ∨ H a = none) : ∀ {v : V} {d : D}, Rp K B H v d → Rp K B' H' v d
  | _, _, .non => .non
  | _, _, .bl b => .bl b
  | _, _, .int i => .int i
  | _, _, .str x => .str x
  | _, _, .raw v => .raw v
  | _, _, .tup t r => .tup (t.step h1 h2) (RpL.step h1 h2 r)
  | _, _, .lst t r => .lst (t.step h1 h2) (RpL.step h1 h2 r)
  | _, _, .scr t r => .scr (t.step h1 h2) (RpL.step h1 h2 r)
  | _, _, .dK nb h r => .dK (fun z => (h2 _ z).elim nb fun q => rd_some h q) (rd_keep h1 nb h) (RpP.step h1 h2 r)
  | _, _, .dT nb h r => .dT (fun z => (h2 _ z).elim nb fun q => rd_some h q) (rd_keep h1 nb h) (RpP.step h1 h2 r)
  | _, _, .ins nb h r => .ins (fun z => (h2 _ z).elim nb fun q => by rw [h] at q; cases q) (h1 _ _ h nb) (RpF.step h1 h2 r)
  | _, _, .xc0 nb h => .xc0 (fun z => (h2 _ z).elim nb fun q => by rw [h] at q; cases q) (h1 _ _ h nb)
  | _, _, .xc1 nb h nd hd r => .xc1 (fun z => (h2 _ z).elim nb fun q => by rw [h] at q; cases q) (h1 _ _ h nb) (fun z => (h2 _ z).elim nd fun q => by rw [hd] at q; cases q) (h1 _ _ hd nd) (RpF.step h1 h2 r)
theorem RpL.step (h1 : ∀ a o, H a = some o → ¬ B a → H' a = some o) (h2 : ∀ a, B' a → B a ∨ H a = none) : ∀ {v : List V} {d : List D}, RpL K B H v d → RpL K B' H' v d
  | _, _, .nil => .nil
  | _, _, .cons a r => .cons (Rp.step h1 h2 a) (RpL.step h1 h2 r)
theorem RpF.step (h1 : ∀ a o, H a = some o → ¬ B a → H' a = some o) (h2 : ∀ a, B' a → B a ∨ H a = none) : ∀ {v : List (Str × V)} {d : List (Str × D)}, RpF K B H v d → RpF K B' H' v d
  | _, _, .nil => .nil
  | _, _, .cons a r => .cons (Rp.step h1 h2 a) (RpF.step h1 h2 r)
theorem RpP.step (h1 : ∀ a o, H a = some o → ¬ B a → H' a = some o) (h2 : ∀ a, B' a → B a ∨ H a = none) : ∀ {v : List (D × V)} {d : List (D × D)}, RpP K B H v d → RpP K B' H' v d
  | _, _, .nil => .nil
  | _, _, .cons a r => .cons (Rp.step h1 h2 a) (RpP.step h1 h2 r)
end
end

/-! ### slots -/
inductive Fl where
  | sh | ow | mu
  deriving DecidableEq
abbrev En := List (Option (Fl × D))
/-- what slot i holds -/
def getE : En → Nat → Option (Fl × D)
  | [], _ => none
  | x :: _, 0 => x
  | _ :: r, i + 1 => getE r i
def getS : St → Nat → Option V
  | [], _ => none
  | x :: _, 0 => x
  | _ :: r, i + 1 => getS r i
theorem getS_of : ∀ {σ : St} {i : Nat} {v : V}, (σ[i]? : Option (Option V)) = some (some v) → getS σ i = some v
  | _ :: _, 0, _, h => Option.some.inj h
  | _ :: r, i + 1, v, h => getS_of (σ := r) (i := i) (v := v) (by simpa using h)
  | [], _, _, h => by simp at h
theorem getS_to : ∀ {σ : St} {i : Nat} {v : V}, getS σ i = some v → (σ[i]? : Option (Option V)) = some (some v)
  | _ :: _, 0, _, h => congrArg some h
  | _ :: r, i + 1, v, h => by rw [List.getElem?_cons_succ]; exact getS_to (σ := r) (i := i) (v := v) h
  | [], _, _, h => by cases h
theorem getE_lt : ∀ {e : En} {i : Nat} {x : Fl × D}, getE e i = some x → i < e.length
  | _ :: _, 0, _, _ => by simp
  | _ :: r, i + 1, x, h => by simpa using getE_lt (e := r) (i := i) (x := x) h
  | [], _, _, h => by cases h
theorem getS_lt : ∀ {e : St} {i : Nat} {x : V}, getS e i = some x → i < e.length
  | _ :: _, 0, _, _ => by simp
  | _ :: r, i + 1, x, h => by simpa using getS_lt (e := r) (i := i) (x := x) h
  | [], _, _, h => by cases h
theorem getE_set_same : ∀ {e : En} {i : Nat} {x : Option (Fl × D)}, i < e.length → getE (e.set i x) i = x
  | _ :: _, 0, _, _ => rfl
  | _ :: r, i + 1, x, h => getE_set_same (e := r) (i := i) (x := x) (by simpa using h)
theorem getE_set_ne : ∀ {e : En} {i j : Nat} {x : Option (Fl × D)}, i ≠ j → getE (e.set i x) j = getE e j
  | [], _, _, _, _ => rfl
  | _ :: _, 0, 0, _, h => absurd rfl h
  | _ :: _, 0, _ + 1, _, _ => rfl
  | _ :: _, _ + 1, 0, _, _ => rfl
  | _ :: r, i + 1, j + 1, x, h => getE_set_ne (e := r) (i := i) (j := j) (x := x) fun z => h (by rw [z])
theorem getS_set_same : ∀ {e : St} {i : Nat} {x : Option V}, i < e.length → getS (e.set i x) i = x
  | _ :: _, 0, _, _ => rfl
  | _ :: r, i + 1, x, h => getS_set_same (e := r) (i := i) (x := x) (by simpa using h)
theorem getS_set_ne : ∀ {e : St} {i j : Nat} {x : Option V}, i ≠ j → getS (e.set i x) j = getS e j
  | [], _, _, _, _ => rfl
  | _ :: _, 0, 0, _, h => absurd rfl h
  | _ :: _, 0, _ + 1, _, _ => rfl
  | _ :: _, _ + 1, 0, _, _ => rfl
  | _ :: r, i + 1, j + 1, x, h => getS_set_ne (e := r) (i := i) (j := j) (x := x) fun z => h (by rw [z])
/-- the addresses that slots own -/
def Own (σ : St) (e : En) : Ad := fun a => ∃ i f d, getE e i = some (f, d) ∧ f ≠ .sh ∧ getS σ i = some (.ref a)
/-- what lies around a frame: addresses that are not its own to touch or to reach; the slots of its changed parameters -/
structure Fx where
  bx : Ad
  pn : List (Nat × Addr)
def Fx.plus (F : Fx) (p : Addr) : Fx := ⟨fun a => F.bx a ∨ a = p, F.pn⟩
def Bd (F : Fx) (σ : St) (e : En) : Ad := fun a => F.bx a ∨ Own σ e a
def OwnAt (K : Fg) (B : Ad) (H : Hp) (p : Addr) : D → Prop
  | .lst ds => ∃ vs, H p = some (.lst vs) ∧ RpL K B H vs ds
  | .dic false ds => ∃ kvs : List (Key × V), H p = some (.dK kvs) ∧ RpP K B H (kvs.map fun q => (keyD q.1, q.2)) ds
  | .dic true ds => ∃ kvs : List (List Key × V), H p = some (.dT kvs) ∧ RpP K B H (kvs.map fun q => (D.tup (q.1.map keyD), q.2)) ds
  | .ins C ds => ∃ dx fs, H p = some (.ins C dx fs) ∧ RpF K B H fs ds
  | _ => False
structure Rel (K : Fg) (F : Fx) (σ : St) (H : Hp) (e : En) : Prop where
  len : e.length = σ.length
  val : ∀ i d, getE e i = some (.sh, d) → ∃ v, getS σ i = some v ∧ Rp K (Bd F σ e) H v d
  own : ∀ i f d, getE e i = some (f, d) → f ≠ .sh → ∃ p, getS σ i = some (.ref p) ∧ OwnAt K (Bd F σ e) H p d
  dist : ∀ i j f g d d' p, getE e i = some (f, d) → f ≠ .sh → getE e j = some (g, d') → g ≠ .sh → getS σ i = some (.ref p) → getS σ j = some (.ref p) → i = j
  ext : ∀ a, F.bx a → ¬ Own σ e a ∧ H a ≠ none
  pin : ∀ q ∈ F.pn, getS σ q.1 = some (.ref q.2) ∧ ∃ d, getE e q.1 = some (.mu, d)

/-- from H to H' nothing but what is in O has changed, and what was there is there -/
structure Stp (O : Ad) (H H' : Hp) : Prop where
  keep : ∀ a o, H a = some o → ¬ O a → H' a = some o
  back : ∀ a, H' a = none → H a = none
theorem Stp.refl {O : Ad} {H : Hp} : Stp O H H := ⟨fun _ _ h _ => h, fun _ h => h⟩
theorem Stp.same {O : Ad} {H H' : Hp} (h : Same H H') : Stp O H H' := ⟨fun a o q _ => h a o q, fun a q => h.free q⟩
theorem Stp.trans {O O1 : Ad} {H H1 H2 : Hp} (a : Stp O H H1) (b : Stp O1 H1 H2) (h : ∀ x, O1 x → O x ∨ H x = none) : Stp O H H2 :=
  ⟨fun x o q n => b.keep x o (a.keep x o q n) fun z => (h x z).elim n fun w => (by rw [q] at w; cases w), fun x q => a.back x (b.back x q)⟩

section
variable {K : Fg} {B B' : Ad} {H H' : Hp} {F : Fx} {σ : St} {e e' : En}
theorem OwnAt.step {p : Addr} (h1 : ∀ a o, H a = some o → ¬ B a → H' a = some o) (h2 : ∀ a, B' a → B a ∨ H a = none) (h3 : H' p = H p) : ∀ {d : D}, OwnAt K B H p d → OwnAt K B' H' p d
  | .lst ds, ⟨vs, q, r⟩ => ⟨vs, h3.trans q, r.step h1 h2⟩
  | .dic false ds, ⟨vs, q, r⟩ => ⟨vs, h3.trans q, r.step h1 h2⟩
  | .dic true ds, ⟨vs, q, r⟩ => ⟨vs, h3.trans q, r.step h1 h2⟩
  | .ins C ds, ⟨dx, vs, q, r⟩ => ⟨dx, vs, h3.trans q, r.step h1 h2⟩
theorem OwnAt.some {p : Addr} : ∀ {d : D}, OwnAt K B H p d → H p ≠ none
  | .lst ds, ⟨vs, q, r⟩ => by rw [q]; exact fun z => nomatch z
  | .dic false ds, ⟨vs, q, r⟩ => by rw [q]; exact fun z => nomatch z
  | .dic true ds, ⟨vs, q, r⟩ => by rw [q]; exact fun z => nomatch z
  | .ins C ds, ⟨dx, vs, q, r⟩ => by rw [q]; exact fun z => nomatch z
theorem OwnAt.rp {p : Addr} (nb : ¬ B p) : ∀ {d : D}, OwnAt K B H p d → Rp K B H (.ref p) d
  | .lst ds, ⟨vs, q, r⟩ => .lst ⟨nb, q⟩ r
  | .dic false ds, ⟨vs, q, r⟩ => .dK nb (.inl q) r
  | .dic true ds, ⟨vs, q, r⟩ => .dT nb (.inl q) r
  | .ins C ds, ⟨dx, vs, q, r⟩ => .ins nb q r
theorem Rp.anti {v : V} {d : D} (h : Rp K B H v d) (k : ∀ a, B' a → B a) : Rp K B' H v d := h.step (fun _ _ q _ => q) fun a q => .inl (k a q)
theorem OwnAt.anti {p : Addr} {d : D} (h : OwnAt K B H p d) (k : ∀ a, B' a → B a) : OwnAt K B' H p d := h.step (fun _ _ q _ => q) (fun a q => .inl (k a q)) rfl
theorem Rel.anti {G : Fx} (h : Rel K F σ H e) (k : ∀ a, G.bx a → F.bx a) (hp : G.pn = F.pn) : Rel K G σ H e := by
  have kb : ∀ a, Bd G σ e a → Bd F σ e a := fun a z => z.elim (fun z => .inl (k a z)) .inr
  refine ⟨h.len, fun i d q => ?_, fun i f d q n => ?_, h.dist, fun a z => h.ext a (k a z), fun q z => h.pin q (by rw [← hp]; exact z)⟩
  · obtain ⟨v, a, b⟩ := h.val i d q
    exact ⟨v, a, b.anti kb⟩
  · obtain ⟨v, a, b⟩ := h.own i f d q n
    exact ⟨v, a, b.anti kb⟩
theorem Rel.minus {p : Addr} (h : Rel K (F.plus p) σ H e) : Rel K F σ H e := h.anti (fun a z => .inl z) rfl
/-- new objects are laid, nothing else is done -/
theorem Rel.same (h : Rel K F σ H e) (s : Same H H') : Rel K F σ H' e := by
  have k1 : ∀ a o, H a = some o → ¬ Bd F σ e a → H' a = some o := fun a o q _ => s a o q
  refine ⟨h.len, fun i d q => ?_, fun i f d q n => ?_, h.dist, fun a z => ⟨(h.ext a z).1, fun w => (h.ext a z).2 (s.free w)⟩, h.pin⟩
  · obtain ⟨v, a, b⟩ := h.val i d q
    exact ⟨v, a, b.step k1 fun a z => .inl z⟩
  · obtain ⟨p, a, b⟩ := h.own i f d q n
    refine ⟨p, a, b.step k1 (fun a z => .inl z) ?_⟩
    cases w : H p with
    | none => exact absurd w b.some
    | some o => exact s p o w
/-- .. and one of them is nobody's yet -/
theorem Rel.plus {p : Addr} (h : Rel K F σ H e) (s : Same H H') (np : H p = none) (sp : H' p ≠ none) : Rel K (F.plus p) σ H' e := by
  have k1 : ∀ a o, H a = some o → ¬ Bd F σ e a → H' a = some o := fun a o q _ => s a o q
  have k2 : ∀ a, Bd (F.plus p) σ e a → Bd F σ e a ∨ H a = none := fun a z => by
    rcases z with (z | z) | z
    · exact .inl (.inl z)
    · exact .inr (z ▸ np)
    · exact .inl (.inr z)
  have np' : ¬ Own σ e p := fun ⟨i, f, d, q, n, w⟩ => by
    obtain ⟨p', a, b⟩ := h.own i f d q n
    rw [w] at a; cases a
    exact b.some np
  refine ⟨h.len, fun i d q => ?_, fun i f d q n => ?_, h.dist, fun a z => ?_, h.pin⟩
  · obtain ⟨v, a, b⟩ := h.val i d q
    exact ⟨v, a, b.step k1 k2⟩
  · obtain ⟨p, a, b⟩ := h.own i f d q n
    refine ⟨p, a, b.step k1 k2 ?_⟩
    cases w : H p with
    | none => exact absurd w b.some
    | some o => exact s p o w
  · rcases z with z | z
    · exact ⟨(h.ext a z).1, fun w => (h.ext a z).2 (s.free w)⟩
    · rw [z]; exact ⟨np', sp⟩
end

/-! ### what a mirror gives -/
/-- an exception: its class, its fields -/
structure Xc where
  cls : Value
  fs : List (Str × D)
inductive R (α : Type) where
  | ok (a : α) (e : En)
  | exc (x : Xc) (e : En)
  | bad
abbrev M (α : Type) := En → R α
def M.ret {α : Type} (a : α) : M α := fun e => .ok a e
def M.bad {α : Type} : M α := fun _ => .bad
def M.bind {α β : Type} (f : M α) (g : α → M β) : M β := fun e => match f e with
  | .ok a e1 => g a e1
  | .exc x e1 => .exc x e1
  | .bad => .bad
def M.opt {α : Type} : Option α → M α
  | some a => M.ret a
  | none => M.bad
/-- an expression's value: shared data; a new object that is nobody's yet; what slot i holds -/
inductive RV where
  | sh (d : D) | fr (d : D) | sl (i : Nat)
def look (e : En) : RV → Option D
  | .sh d => some d
  | .fr d => some d
  | .sl i => match getE e i with
    | some (_, d) => some d
    | none => none
/-- read it as it stands now -/
def M.get (r : RV) : M D := fun e => match look e r with
  | some d => .ok d e
  | none => .bad
/-- let it be shared -/
def M.esc : RV → M D
  | .sh d => M.ret d
  | .fr d => M.ret d
  | .sl i => fun e => match getE e i with
    | some (.sh, d) => .ok d e
    | some (.ow, d) => .ok d (e.set i (some (.sh, d)))
    | _ => .bad

/-- what lies around may grow by new things -/
structure Le (F F' : Fx) (H : Hp) : Prop where
  pn : F'.pn = F.pn
  up : ∀ a, F.bx a → F'.bx a
  dn : ∀ a, F'.bx a → F.bx a ∨ H a = none
theorem Le.refl {F : Fx} {H : Hp} : Le F F H := ⟨rfl, fun _ h => h, fun _ h => .inl h⟩
/-- from (F, σ, H, e) to (F', σ', H', e') -/
structure Post (K : Fg) (F : Fx) (σ : St) (H : Hp) (e : En) (F' : Fx) (σ' : St) (H' : Hp) (e' : En) : Prop where
  rel : Rel K F' σ' H' e'
  stp : Stp (Own σ e) H H'
  ow : ∀ a, Own σ' e' a → Own σ e a ∨ H a = none
  le : Le F F' H
theorem Post.refl {K : Fg} {F : Fx} {σ : St} {H : Hp} {e : En} (h : Rel K F σ H e) : Post K F σ H e F σ H e := ⟨h, .refl, fun _ h => .inl h, .refl⟩
theorem Post.trans {K : Fg} {F F1 F2 : Fx} {σ σ1 σ2 : St} {H H1 H2 : Hp} {e e1 e2 : En} (a : Post K F σ H e F1 σ1 H1 e1) (b : Post K F1 σ1 H1 e1 F2 σ2 H2 e2) : Post K F σ H e F2 σ2 H2 e2 :=
  ⟨b.rel, a.stp.trans b.stp a.ow, fun x h => (b.ow x h).elim (a.ow x) fun w => .inr (a.stp.back x w),
    ⟨b.le.pn.trans a.le.pn, fun x h => b.le.up x (a.le.up x h), fun x h => (b.le.dn x h).elim (a.le.dn x) fun w => .inr (a.stp.back x w)⟩⟩
/-- the value v is what r says; a new object was not there in H0 -/
def Held (K : Fg) (F : Fx) (σ : St) (H0 H : Hp) (e : En) (v : V) : RV → Prop
  | .sh d => Rp K (Bd F σ e) H v d
  | .fr d => ∃ p, v = .ref p ∧ H0 p = none ∧ F.bx p ∧ OwnAt K (Bd F σ e) H p d
  | .sl i => getS σ i = some v
section
variable {K : Fg} {F F1 F2 : Fx} {σ σ1 σ2 : St} {H H0 H1 H2 : Hp} {e e1 e2 : En}
theorem Post.k1 (b : Post K F1 σ1 H1 e1 F2 σ2 H2 e2) : ∀ a o, H1 a = some o → ¬ Bd F1 σ1 e1 a → H2 a = some o := fun a o h n => b.stp.keep a o h fun z => n (.inr z)
theorem Post.k2 (b : Post K F1 σ1 H1 e1 F2 σ2 H2 e2) : ∀ a, Bd F2 σ2 e2 a → Bd F1 σ1 e1 a ∨ H1 a = none := fun a h =>
  h.elim (fun h => (b.le.dn a h).elim (fun h => .inl (.inl h)) .inr) fun h => (b.ow a h).elim (fun h => .inl (.inr h)) .inr
theorem Rp.post {v : V} {d : D} (h : Rp K (Bd F1 σ1 e1) H1 v d) (b : Post K F1 σ1 H1 e1 F2 σ2 H2 e2) : Rp K (Bd F2 σ2 e2) H2 v d := h.step b.k1 b.k2
theorem RpL.post {v : List V} {d : List D} (h : RpL K (Bd F1 σ1 e1) H1 v d) (b : Post K F1 σ1 H1 e1 F2 σ2 H2 e2) : RpL K (Bd F2 σ2 e2) H2 v d := h.step b.k1 b.k2
/-- what is around stays -/
theorem Post.around (R : Rel K F1 σ1 H1 e1) (b : Post K F1 σ1 H1 e1 F2 σ2 H2 e2) {p : Addr} (hp : F1.bx p) : H2 p = H1 p := by
  obtain ⟨h1, h2⟩ := R.ext p hp
  cases w : H1 p with
  | none => exact absurd w h2
  | some o => exact b.stp.keep p o w h1
theorem Held.post {v : V} (R : Rel K F1 σ H1 e1) (b : Post K F1 σ H1 e1 F2 σ H2 e2) : ∀ {r : RV}, Held K F1 σ H0 H1 e1 v r → Held K F2 σ H0 H2 e2 v r
  | .sh d, h => Rp.post h b
  | .fr d, ⟨p, q, n, f, o⟩ => ⟨p, q, n, b.le.up p f, o.step b.k1 b.k2 (b.around R f)⟩
  | .sl i, h => h
theorem Held.back {v : V} (k : ∀ a, H1 a = none → H0 a = none) : ∀ {r : RV}, Held K F σ H1 H e v r → Held K F σ H0 H e v r
  | .sh d, h => h
  | .fr d, ⟨p, q, n, f, o⟩ => ⟨p, q, k p n, f, o⟩
  | .sl i, h => h
/-- data as it may be read now -/
def RpB (K : Fg) (B : Ad) (H : Hp) (v : V) (d : D) : Prop := Rp K B H v d ∨ ∃ p, v = .ref p ∧ OwnAt K B H p d
theorem Held.look {v : V} {d : D} (R : Rel K F σ H e) : ∀ {r : RV}, Held K F σ H0 H e v r → look e r = some d → RpB K (Bd F σ e) H v d
  | .sh d, h, q => by cases q; exact .inl h
  | .fr d, ⟨p, w, n, f, o⟩, q => by cases q; exact .inr ⟨p, w, o⟩
  | .sl i, h, q => by
    unfold Cw.look at q
    cases w : getE e i with
    | none => simp only [w] at q; cases q
    | some x =>
      obtain ⟨f, d'⟩ := x
      simp only [w] at q; cases q
      by_cases hf : f = .sh
      · subst hf
        obtain ⟨v', a, b⟩ := R.val i _ w
        have a := h.symm.trans a
        cases a; exact .inl b
      · obtain ⟨p, a, b⟩ := R.own i f _ w hf
        have a := h.symm.trans a
        cases a; exact .inr ⟨p, rfl, b⟩
end
/-- how an exception lies there -/
def XcOk (K : Fg) (B : Ad) (H : Hp) (cls : Value) (d : Option Addr) (x : Xc) : Prop :=
  cls = x.cls ∧ match x.fs with
    | [] => d = none
    | fs => ∃ a vs, d = some a ∧ ¬ B a ∧ H a = some (.xd vs) ∧ RpF K B H vs fs
end Cw

/-! Cw, part B: expressions. -/
namespace Cw
open PySem L2

abbrev Wx := Value → Option Addr → St → Hp → Prop
def Aft {α : Type} (W : Wx) (K : Fg) (F : Fx) (σ : St) (H : Hp) (e : En) (k : α → Fx → En → Hp → Prop) : R α → Prop
  | .ok a e' => ∀ F' H', Post K F σ H e F' σ H' e' → k a F' e' H'
  | .exc x e' => ∀ cls d F' H', Post K F σ H e F' σ H' e' → XcOk K (Bd F' σ e') H' cls d x → W cls d σ H'
  | .bad => False
section
variable {α β : Type} {W : Wx} {K : Fg} {F F' F1 : Fx} {σ : St} {H H' H1 H0 : Hp} {e e' e1 : En}
theorem Aft.imp {k k' : α → Fx → En → Hp → Prop} {r : R α} (h : Aft W K F σ H e k r) (hk : ∀ a F' e' H', Post K F σ H e F' σ H' e' → k a F' e' H' → k' a F' e' H') : Aft W K F σ H e k' r := by
  cases r with
  | ok a e1 => exact fun F' H' p => hk _ _ _ _ p (h F' H' p)
  | exc x e1 => exact h
  | bad => exact h
theorem Aft.bind {f : M α} {g : α → M β} {k : β → Fx → En → Hp → Prop} (h : Aft W K F σ H e k (M.bind f g e)) :
    Aft W K F σ H e (fun a F1 e1 H1 => Aft W K F1 σ H1 e1 k (g a e1)) (f e) := by
  unfold M.bind at h
  cases q : f e with
  | bad => rw [q] at h; exact h
  | exc x e1 => rw [q] at h; exact h
  | ok a e1 =>
    rw [q] at h
    intro F1 H1 p
    have h : Aft W K F σ H e k (g a e1) := h
    cases w : g a e1 with
    | bad => rw [w] at h; exact h
    | exc x e2 =>
      rw [w] at h
      exact fun cls d F2 H2 p2 hx => h cls d F2 H2 (p.trans p2) hx
    | ok b e2 =>
      rw [w] at h
      exact fun F2 H2 p2 => h F2 H2 (p.trans p2)
theorem Aft.ret {k : α → Fx → En → Hp → Prop} {a : α} (R : Rel K F σ H e) (h : Aft W K F σ H e k (M.ret a e)) : k a F e H := h F H (.refl R)

/-- freezing an owned slot -/
theorem Rel.freeze {i : Nat} {d : D} (R : Rel K F σ H e) (q : getE e i = some (.ow, d)) :
    Rel K F σ H (e.set i (some (.sh, d))) ∧ (∀ a, Own σ (e.set i (some (.sh, d))) a → Own σ e a) ∧ ∀ v, getS σ i = some v → Rp K (Bd F σ (e.set i (some (.sh, d)))) H v d := by
  have hi := getE_lt q
  obtain ⟨p, sp, op⟩ := R.own i .ow d q (by decide)
  have hg : ∀ j f d', getE (e.set i (some (.sh, d))) j = some (f, d') → f ≠ .sh → j ≠ i ∧ getE e j = some (f, d') := fun j f d' w n => by
    by_cases hj : i = j
    · subst hj
      rw [getE_set_same hi] at w
      cases w; exact absurd rfl n
    · rw [getE_set_ne hj] at w
      exact ⟨fun z => hj z.symm, w⟩
  have ow : ∀ a, Own σ (e.set i (some (.sh, d))) a → Own σ e a := fun a ⟨j, f, d', w, n, s⟩ => ⟨j, f, d', (hg j f d' w n).2, n, s⟩
  have bd : ∀ a, Bd F σ (e.set i (some (.sh, d))) a → Bd F σ e a := fun a h => h.elim .inl fun z => .inr (ow a z)
  have np : ¬ Bd F σ (e.set i (some (.sh, d))) p := fun h => by
    rcases h with h | ⟨j, f, d', w, n, s⟩
    · exact (R.ext p h).1 ⟨i, .ow, d, q, by decide, sp⟩
    · obtain ⟨hj, w⟩ := hg j f d' w n
      exact hj (R.dist j i f .ow d' d p w n q (by decide) s sp)
  have rp : ∀ v, getS σ i = some v → Rp K (Bd F σ (e.set i (some (.sh, d)))) H v d := fun v hv => by
    rw [sp] at hv; cases hv
    exact (op.anti bd).rp np
  refine ⟨⟨by rw [List.length_set]; exact R.len, fun j d' w => ?_, fun j f d' w n => ?_, fun j l f g d1 d2 p' w1 n1 w2 n2 s1 s2 => ?_, fun a h => ⟨fun z => (R.ext a h).1 (ow a z), (R.ext a h).2⟩, fun z hz => ?_⟩, ow, rp⟩
  · by_cases hj : i = j
    · subst hj
      rw [getE_set_same hi] at w; cases w
      exact ⟨_, sp, rp _ sp⟩
    · rw [getE_set_ne hj] at w
      obtain ⟨v, a, b⟩ := R.val j d' w
      exact ⟨v, a, b.anti bd⟩
  · obtain ⟨p', a, b⟩ := R.own j f d' (hg j f d' w n).2 n
    exact ⟨p', a, b.anti bd⟩
  · exact R.dist j l f g d1 d2 p' (hg _ _ _ w1 n1).2 n1 (hg _ _ _ w2 n2).2 n2 s1 s2
  · obtain ⟨a, d', b⟩ := R.pin z hz
    refine ⟨a, d', ?_⟩
    rw [getE_set_ne fun h => ?_]
    · exact b
    · rw [← h, q] at b; cases b
theorem Post.anti (h : Post K F σ H e F' σ H' e') : Post K F σ H e F σ H' e' := ⟨h.rel.anti h.le.up h.le.pn.symm, h.stp, h.ow, .refl⟩
/-- a value that was reckoned, made shared -/
theorem Post.esc {v : V} {d : D} {r : RV} (R : Rel K F σ H e) (p : Post K F σ H e F' σ H' e') (h : Held K F' σ H H' e' v r) (q : M.esc r e' = .ok d e1) :
    Post K F σ H e F σ H' e1 ∧ Rp K (Bd F σ e1) H' v d := by
  have p0 := p.anti
  cases r with
  | sh d' =>
    cases q
    exact ⟨p0, Rp.anti h fun a z => z.elim (fun z => .inl (p.le.up a z)) .inr⟩
  | fr d' =>
    cases q
    obtain ⟨a, rfl, n, f, o⟩ := h
    refine ⟨p0, (o.anti fun a z => z.elim (fun z => .inl (p.le.up a z)) .inr).rp fun z => ?_⟩
    rcases z with z | z
    · exact (R.ext a z).2 n
    · exact (p.rel.ext a f).1 z
  | sl i =>
    unfold M.esc at q
    cases w : getE e' i with
    | none => simp only [w] at q; cases q
    | some x =>
      obtain ⟨f, d'⟩ := x
      cases f with
      | sh =>
        simp only [w] at q; cases q
        obtain ⟨v', a, b⟩ := p0.rel.val i _ w
        have a := h.symm.trans a
        cases a
        exact ⟨p0, b⟩
      | ow =>
        simp only [w] at q; cases q
        obtain ⟨r1, r2, r3⟩ := p0.rel.freeze w
        exact ⟨⟨r1, p0.stp, fun a z => p0.ow a (r2 a z), .refl⟩, r3 v h⟩
      | mu => simp only [w] at q; cases q
theorem esc_of {f : M RV} {Q : V → Hp → Prop} {k : D → Fx → En → Hp → Prop} (R : Rel K F σ H e) (hk : ∀ d F' e' H' v, k d F' e' H' → Rp K (Bd F' σ e') H' v d → Q v H') (h : Aft W K F σ H e k (M.bind f M.esc e)) :
    Aft W K F σ H e (fun r F' e' H' => ∀ v, Held K F' σ H H' e' v r → Q v H') (f e) := by
  unfold M.bind at h
  cases q : f e with
  | bad => rw [q] at h; exact h
  | exc x e1 => rw [q] at h; exact h
  | ok r e1 =>
    rw [q] at h
    have h : Aft W K F σ H e k (M.esc r e1) := h
    intro F1 H1 p v hv
    cases w : M.esc r e1 with
    | bad => rw [w] at h; exact h.elim
    | exc x e2 =>
      exfalso
      cases r with
      | sh d => cases w
      | fr d => cases w
      | sl i =>
        unfold M.esc at w
        cases z : getE e1 i with
        | none => simp only [z] at w; cases w
        | some y => obtain ⟨fl, d⟩ := y; cases fl <;> simp only [z] at w <;> cases w
    | ok d e2 =>
      rw [w] at h
      obtain ⟨p2, rp⟩ := p.esc R hv w
      exact hk _ _ _ _ _ (h F H1 p2) rp
end

/-! ### the readings -/
def tE (W : Wx) (K : Fg) (f : M RV) : TE := fun σ H Q => ∃ F e, Rel K F σ H e ∧ Aft W K F σ H e (fun r F' e' H' => ∀ v, Held K F' σ H H' e' v r → Q v H') (f e)
def tT (W : Wx) (K : Fg) (f : M Bool) : TT := fun σ H Q => ∃ F e, Rel K F σ H e ∧ Aft W K F σ H e (fun b F' e' H' => Q b H') (f e)
def HeldL (K : Fg) (F : Fx) (σ : St) (H0 H : Hp) (e : En) : List V → List RV → Prop
  | [], [] => True
  | v :: vs, r :: rs => Held K F σ H0 H e v r ∧ HeldL K F σ H0 H e vs rs
  | _, _ => False
def tA (W : Wx) (K : Fg) (f : M (List RV)) : TA := fun σ H Q => ∃ F e, Rel K F σ H e ∧ Aft W K F σ H e (fun rs F' e' H' => ∀ vs, HeldL K F' σ H H' e' vs rs → Q vs H') (f e)
/-- a list of shared things -/
def tAD (W : Wx) (K : Fg) (f : M (List D)) : TA := fun σ H Q => ∃ F e, Rel K F σ H e ∧ Aft W K F σ H e (fun ds F' e' H' => ∀ vs, RpL K (Bd F' σ e') H' vs ds → Q vs H') (f e)
abbrev PD (X : Cx) (W : Wx) (e : Expr) (f : M RV) : Prop := PE X e (tE W X.K f)
abbrev PDT (X : Cx) (W : Wx) (e : Expr) (f : M Bool) : Prop := PT X e (tT W X.K f)
abbrev PDW (X : Cx) (W : Wx) (e : Expr) (f : M Bool) : Prop := PW X e (tT W X.K f)
abbrev PDA (X : Cx) (W : Wx) (e : List Expr) (f : M (List RV)) : Prop := PA X e (tA W X.K f)
abbrev PDL (X : Cx) (W : Wx) (e : List Expr) (f : M (List D)) : Prop := PA X e (tAD W X.K f)
theorem pe_imp {X : Cx} {e : Expr} {t u : TE} (h : PE X e t) (k : ∀ σ H Q, u σ H Q → t σ H Q) : PE X e u := ⟨fun pins s σ H Q I q => h.run pins s σ H Q I (k σ H Q q)⟩
theorem pt_imp {X : Cx} {e : Expr} {t u : TT} (h : PT X e t) (k : ∀ σ H Q, u σ H Q → t σ H Q) : PT X e u := ⟨fun pins s σ H Q I q => h.run pins s σ H Q I (k σ H Q q)⟩
theorem pw_imp {X : Cx} {e : Expr} {t u : TT} (h : PW X e t) (k : ∀ σ H Q, u σ H Q → t σ H Q) : PW X e u := ⟨fun whole pins s σ H Q I q => h.run whole pins s σ H Q I (k σ H Q q)⟩
theorem pa_imp {X : Cx} {e : List Expr} {t u : TA} (h : PA X e t) (k : ∀ σ H Q, u σ H Q → t σ H Q) : PA X e u := ⟨fun pos pins s σ H Q I q => h.run pos pins s σ H Q I (k σ H Q q)⟩
theorem ps_imp {X : Cx} {e : Stmt} {t u : TS} (h : PS X e t) (k : ∀ D σ H, u D σ H → t D σ H) : PS X e u := ⟨fun pins s σ H D I q => h.run pins s σ H D I (k D σ H q)⟩
theorem pss_imp {X : Cx} {e : List Stmt} {t u : TS} (h : PSs X e t) (k : ∀ D σ H, u D σ H → t D σ H) : PSs X e u := ⟨fun pins s σ H D I q => h.run pins s σ H D I (k D σ H q)⟩

/-! ### the results of operations -/
def Bp (B : Ad) (p : Addr) : Ad := fun a => B a ∨ a = p
/-- what a rule of values gives: (false, d) shared data, (true, d) a new object -/
def Res (K : Fg) (B : Ad) (H : Hp) (Q : VK) : Option (Bool × D) → Prop
  | none => False
  | some (false, d) => ∀ v H', Same H H' → Rp K B H' v d → Q v H'
  | some (true, d) => ∀ p H', Same H H' → H p = none → OwnAt K (Bp B p) H' p d → Q (.ref p) H'
def toRV : Bool × D → RV
  | (false, d) => .sh d
  | (true, d) => .fr d
def M.res (o : Option (Bool × D)) : M RV := fun e => match o with
  | some x => .ok (toRV x) e
  | none => .bad
section
variable {W : Wx} {K : Fg} {F F1 F' : Fx} {σ : St} {H H0 H1 : Hp} {e e1 : En} {Q : VK}
/-- from the mirror's result to the rule's -/
theorem Res.of {o : Option (Bool × D)} (R : Rel K F σ H e) (k0 : ∀ a, H a = none → H0 a = none) (h : Aft W K F σ H e (fun r F' e' H' => ∀ v, Held K F' σ H0 H' e' v r → Q v H') (M.res o e)) : Res K (Bd F σ e) H Q o := by
  cases o with
  | none => exact h
  | some x =>
    obtain ⟨b, d⟩ := x
    have h : ∀ F' H', Post K F σ H e F' σ H' e → ∀ v, Held K F' σ H0 H' e v (toRV (b, d)) → Q v H' := h
    cases b with
    | false => exact fun v H' s rp => h F H' ⟨R.same s, .same s, fun _ z => .inl z, .refl⟩ v rp
    | true =>
      refine fun p H' s np o => h (F.plus p) H' ⟨R.plus s np o.some, .same s, fun _ z => .inl z, ⟨rfl, fun a z => .inl z, fun a z => z.elim .inl fun z => .inr (z ▸ np)⟩⟩ _ ⟨p, rfl, k0 p np, .inr rfl, ?_⟩
      exact o.anti fun a z => by
        rcases z with (z | z) | z
        · exact .inl (.inl z)
        · exact .inr z
        · exact .inl (.inr z)
end

/-- two values, then an operation on data -/
def eOp2 (dop : D → D → Option (Bool × D)) (f g : M RV) : M RV := M.bind f fun a => M.bind g fun b => M.bind (M.get a) fun x => M.bind (M.get b) fun y => M.res (dop x y)
def eOp1 (dop : D → Option (Bool × D)) (f : M RV) : M RV := M.bind f fun a => M.bind (M.get a) fun x => M.res (dop x)
/-- a rule of values that does dop -/
def Trk (B : Ad) (H : Hp) : Prop := ∀ a, B a → H a ≠ none
theorem Rel.trk {K : Fg} {F : Fx} {σ : St} {H : Hp} {e : En} (R : Rel K F σ H e) : Trk (Bd F σ e) H := fun a z => by
  rcases z with z | ⟨i, f, d, q, n, s⟩
  · exact (R.ext a z).2
  · obtain ⟨p, s', o⟩ := R.own i f d q n
    rw [s] at s'; cases s'; exact o.some
def rD2 (K : Fg) (dop : D → D → Option (Bool × D)) : R2 := fun x y H Q => ∃ B dx dy, Trk B H ∧ RpB K B H x dx ∧ RpB K B H y dy ∧ Res K B H Q (dop dx dy)
def rD1 (K : Fg) (dop : D → Option (Bool × D)) : V → Hp → VK → Prop := fun x H Q => ∃ B dx, Trk B H ∧ RpB K B H x dx ∧ Res K B H Q (dop dx)
section
variable {W : Wx} {K : Fg} {F : Fx} {σ : St} {H H0 : Hp} {e : En}
theorem get_of {r : RV} {v : V} {α : Type} {g : D → M α} {k : α → Fx → En → Hp → Prop} (R : Rel K F σ H e) (h : Held K F σ H0 H e v r) (q : Aft W K F σ H e k (M.bind (M.get r) g e)) :
    ∃ d, look e r = some d ∧ RpB K (Bd F σ e) H v d ∧ Aft W K F σ H e k (g d e) := by
  unfold M.bind M.get at q
  cases w : look e r with
  | none => simp only [w] at q; exact q.elim
  | some d =>
    simp only [w] at q
    exact ⟨d, rfl, h.look R w, q⟩
theorem op2_of {dop : D → D → Option (Bool × D)} {f g : M RV} {Q : VK} (h : tE W K (eOp2 dop f g) σ H Q) : tOp (rD2 K dop) (tE W K f) (tE W K g) σ H Q := by
  obtain ⟨F, e, R, h⟩ := h
  refine ⟨F, e, R, h.bind.imp fun a F1 e1 H1 p1 h1 v hv => ⟨F1, e1, p1.rel, h1.bind.imp fun b F2 e2 H2 p2 h2 w hw => ?_⟩⟩
  have hv2 := hv.post p1.rel p2
  obtain ⟨dx, lx, rx, h3⟩ := get_of p2.rel hv2 h2
  obtain ⟨dy, ly, ry, h4⟩ := get_of p2.rel hw h3
  exact ⟨_, dx, dy, p2.rel.trk, rx, ry, Res.of p2.rel (fun a z => p1.stp.back a (p2.stp.back a z)) h4⟩
theorem op1_of {dop : D → Option (Bool × D)} {f : M RV} {Q : VK} (h : tE W K (eOp1 dop f) σ H Q) : tUn (rD1 K dop) (tE W K f) σ H Q := by
  obtain ⟨F, e, R, h⟩ := h
  refine ⟨F, e, R, h.bind.imp fun a F1 e1 H1 p1 h1 v hv => ?_⟩
  obtain ⟨dx, lx, rx, h3⟩ := get_of p1.rel hv h1
  exact ⟨_, dx, p1.rel.trk, rx, Res.of p1.rel (fun a z => p1.stp.back a z) h3⟩
end
section
variable {X : Cx} {W : Wx} {a b c : Expr} {f g h : M RV} {pos : Pos}
theorem pd_op {op : Operator} {dop : D → D → Option (Bool × D)} (ho : OpR X (binaryOp op) (rD2 X.K dop)) (ha : PD X W a f) (hb : PD X W b g) : PD X W (.BinOp a op b pos) (eOp2 dop f g) := pe_imp (pe_op ho ha hb) fun _ _ _ => op2_of
theorem pd_cmp {op : CmpOp} {dop : D → D → Option (Bool × D)} (ho : OpR X (compareOp op) (rD2 X.K dop)) (ha : PD X W a f) (hb : PD X W b g) (hm : behindInMarks op b = false) : PD X W (.Compare a [op] [b] pos) (eOp2 dop f g) := pe_imp (pe_cmpR ho ha hb hm) fun _ _ _ => op2_of
theorem pd_ix {dop : D → D → Option (Bool × D)} (ho : IxR X (rD2 X.K dop)) (ha : PD X W a f) (hb : PD X W b g) (hs : PlainIx b) : PD X W (.Subscript a b pos) (eOp2 dop f g) := pe_imp (pe_ix ho ha hb hs) fun _ _ _ => op2_of
theorem pd_un {op : UnaryOp} {dop : D → Option (Bool × D)} (ho : UnR X (unaryOp op) (rD1 X.K dop)) (ha : PD X W a f) : PD X W (.UnaryOp op a pos) (eOp1 dop f) := pe_imp (pe_un ho ha) fun _ _ _ => op1_of
/-- a value as a test -/
def eBool (f : M RV) : M Bool := M.bind f fun a => M.bind (M.get a) fun d => match d with
  | .bl b => M.ret b
  | _ => M.bad
theorem RpB.bl {K : Fg} {B : Ad} {H : Hp} {v : V} {b : Bool} (h : RpB K B H v (.bl b)) : v = .bl b := by
  rcases h with h | ⟨p, _, h⟩
  · cases h; rfl
  · exact h.elim
theorem RpB.int {K : Fg} {B : Ad} {H : Hp} {v : V} {b : Int} (h : RpB K B H v (.int b)) : v = .int b := by
  rcases h with h | ⟨p, _, h⟩
  · cases h; rfl
  · exact h.elim
theorem RpB.str {K : Fg} {B : Ad} {H : Hp} {v : V} {b : Str} (h : RpB K B H v (.str b)) : v = .str b := by
  rcases h with h | ⟨p, _, h⟩
  · cases h; rfl
  · exact h.elim
theorem RpB.non {K : Fg} {B : Ad} {H : Hp} {v : V} (h : RpB K B H v .non) : v = .non := by
  rcases h with h | ⟨p, _, h⟩
  · cases h; rfl
  · exact h.elim
theorem test_of {W : Wx} {K : Fg} {σ : St} {H : Hp} {f : M RV} {Q : Bool → Hp → Prop} (h : tT W K (eBool f) σ H Q) : tE W K f σ H fun x H' => ∃ k, x = .bl k ∧ Q k H' := by
  obtain ⟨F, e, R, h⟩ := h
  refine ⟨F, e, R, h.bind.imp fun a F1 e1 H1 p1 h1 v hv => ?_⟩
  obtain ⟨d, ld, rd, h2⟩ := get_of p1.rel hv h1
  cases d with
  | bl b => exact ⟨b, rd.bl, h2 F1 H1 (.refl p1.rel)⟩
  | _ => exact h2.elim
theorem pdt_cmp {op : CmpOp} {dop : D → D → Option (Bool × D)} (ho : OpR X (compareOp op) (rD2 X.K dop)) (ha : PD X W a f) (hb : PD X W b g) (hm : behindInMarks op b = false) : PDT X W (.Compare a [op] [b] pos) (eBool (eOp2 dop f g)) :=
  pt_imp (pt_cmpR ho ha hb hm) fun _ _ _ h => op2_of (test_of h)
theorem pdt_val (ha : PD X W a f) (he : ∀ whole, isTrue a X.env whole = (do let v ← whole; standAt a.pos; holding [v] (truthy v)) := by intro _; rfl) : PDT X W a (eBool f) :=
  pt_imp (pt_val ha he) fun _ _ _ h => test_of h
/-! and, or, not -/
def eAnd (f g : M Bool) : M Bool := M.bind f fun b => if b = true then g else M.ret false
def eOr (f g : M Bool) : M Bool := M.bind f fun b => if b = true then M.ret true else g
def eNot (f : M Bool) : M Bool := M.bind f fun b => M.ret (!b)
variable {tf tg : M Bool} {rest : List Expr}
theorem pdw_and1 (ha : PDT X W a tf) : PDW X W (.BoolOp .And [a] pos) tf := pw_and1 ha
theorem pdw_or1 (ha : PDT X W a tf) : PDW X W (.BoolOp .Or [a] pos) tf := pw_or1 ha
theorem pdw_and (ha : PDT X W a tf) (hb : PDW X W (.BoolOp .And (b :: rest) pos) tg) : PDW X W (.BoolOp .And (a :: b :: rest) pos) (eAnd tf tg) :=
  pw_imp (pw_and ha hb) fun σ H Q ⟨F, e, R, h⟩ => ⟨F, e, R, h.bind.imp fun c F1 e1 H1 p1 h1 => by
    cases c with
    | true => exact ⟨F1, e1, p1.rel, h1⟩
    | false => exact h1 F1 H1 (.refl p1.rel)⟩
theorem pdw_or (ha : PDT X W a tf) (hb : PDW X W (.BoolOp .Or (b :: rest) pos) tg) : PDW X W (.BoolOp .Or (a :: b :: rest) pos) (eOr tf tg) :=
  pw_imp (pw_or ha hb) fun σ H Q ⟨F, e, R, h⟩ => ⟨F, e, R, h.bind.imp fun c F1 e1 H1 p1 h1 => by
    cases c with
    | true => exact h1 F1 H1 (.refl p1.rel)
    | false => exact ⟨F1, e1, p1.rel, h1⟩⟩
theorem pdt_w (ha : PDW X W a tf) : PDT X W a tf := ha.pt
theorem pdt_not (ha : PDT X W a tf) : PDT X W (.UnaryOp .Not a pos) (eNot tf) :=
  pt_imp (pt_not ha) fun σ H Q ⟨F, e, R, h⟩ => ⟨F, e, R, h.bind.imp fun c F1 e1 H1 p1 h1 => h1 F1 H1 (.refl p1.rel)⟩
end
end Cw

/-! Cw, part C: names, constants, argument lists, displays, calls of built-ins. -/
namespace Cw
open PySem L2

def eVar (i : Nat) : M RV := fun e => match getE e i with
  | some _ => .ok (.sl i) e
  | none => .bad
def eC (d : D) : M RV := M.ret (.sh d)
section
variable {X : Cx} {W : Wx} {a b c : Expr} {f g h : M RV} {pos : Pos}
theorem c_of {W : Wx} {K : Fg} {σ : St} {H : Hp} {Q : VK} {d : D} {v : V} (hr : ∀ B H, Rp K B H v d) (h : tE W K (eC d) σ H Q) : tC v σ H Q := by
  obtain ⟨F, e, R, h⟩ := h
  exact Aft.ret R h v (hr _ _)
theorem pd_var {i : Nat} {x : Str} (hN : X.N[i]? = some x) (hv : Vis X.env.scope x) (hd : (x == ("__debug__" : Str)) = false := by decide) (hcd : (x == ("__classdict__" : Str)) = false := by decide) : PD X W (.Name x pos) (eVar i) :=
  pe_imp (pe_var hN hv hd hcd) fun σ H Q ⟨F, e, R, h⟩ => by
    unfold eVar at h
    cases w : getE e i with
    | none => simp only [w] at h; exact h.elim
    | some y =>
      simp only [w] at h
      have hv : ∃ v, getS σ i = some v := by
        obtain ⟨fl, d⟩ := y
        by_cases hf : fl = .sh
        · subst hf
          obtain ⟨v, a, _⟩ := R.val i d w
          exact ⟨v, a⟩
        · obtain ⟨p, a, _⟩ := R.own i fl d w hf
          exact ⟨_, a⟩
      obtain ⟨v, hv⟩ := hv
      exact ⟨v, getS_to hv, h F H (.refl R) v hv⟩
theorem pd_int {i : Int} {j} : PD X W (.Constant (.int i) j pos) (eC (.int i)) := pe_imp pe_int fun _ _ _ => c_of fun _ _ => .int i
theorem pd_bl {i : Bool} {j} : PD X W (.Constant (.bool i) j pos) (eC (.bl i)) := pe_imp pe_bl fun _ _ _ => c_of fun _ _ => .bl i
theorem pd_non {j} : PD X W (.Constant .none j pos) (eC .non) := pe_imp pe_non fun _ _ _ => c_of fun _ _ => .non
theorem pd_str {x j} : PD X W (.Constant (.str x) j pos) (eC (.str x)) := pe_imp pe_str fun _ _ _ => c_of fun _ _ => .str x
/-- a module's name that holds an int; one that holds anything, as it is -/
theorem pd_globI {x : Str} {i : Int} {u : Value} (hg : Gl X x) (hm : X.mg x = some u) (r : RelV (.int i) u) (hd : (x == ("__debug__" : Str)) = false := by decide) : PD X W (.Name x pos) (eC (.int i)) := pe_imp (pe_glob hg hm r hd) fun _ _ _ => c_of fun _ _ => .int i
theorem pd_globR {x : Str} {v : V} {u : Value} (hg : Gl X x) (hm : X.mg x = some u) (r : RelV v u) (hd : (x == ("__debug__" : Str)) = false := by decide) : PD X W (.Name x pos) (eC (.raw v)) := pe_imp (pe_glob hg hm r hd) fun _ _ _ => c_of fun _ _ => .raw v
theorem pd_bltn {x : Str} {v : V} {u : Value} (hg : Gl X x) (hm : X.mg x = none) (hv : bootBuiltins x = some u) (r : RelV v u) (hn : x ≠ "__name__" := by decide) (hd : (x == ("__debug__" : Str)) = false := by decide) : PD X W (.Name x pos) (eC (.raw v)) :=
  pe_imp (pe_bltn hg hm hv r hn hd) fun _ _ _ => c_of fun _ _ => .raw v
/-! and, or, not as values; a if c else b; a chain of two comparisons -/
def eAndV (f g : M RV) : M RV := M.bind f fun a => M.bind (M.get a) fun d => match d with
  | .bl true => g
  | .bl false => M.ret (.sh (.bl false))
  | _ => M.bad
def eOrV (f g : M RV) : M RV := M.bind f fun a => M.bind (M.get a) fun d => match d with
  | .bl false => g
  | .bl true => M.ret (.sh (.bl true))
  | _ => M.bad
def eNotV (f : M RV) : M RV := M.bind f fun a => M.bind (M.get a) fun d => match d with
  | .bl b => M.ret (.sh (.bl (!b)))
  | _ => M.bad
def eIf (c : M Bool) (f g : M RV) : M RV := M.bind c fun b => if b = true then f else g
theorem back_of {K : Fg} {F F1 : Fx} {σ : St} {H H1 : Hp} {e e1 : En} {α : Type} {k : RV → Fx → En → Hp → Prop} {Q : VK} (p : Post K F σ H e F1 σ H1 e1) {r : R RV}
    (h : Aft W K F1 σ H1 e1 (fun r F' e' H' => ∀ v, Held K F' σ H H' e' v r → Q v H') r) : Aft W K F1 σ H1 e1 (fun r F' e' H' => ∀ v, Held K F' σ H1 H' e' v r → Q v H') r :=
  h.imp fun a F' e' H' p' h v hv => h v (hv.back p.stp.back)
theorem pd_one {op} (ha : PD X W a f) : PD X W (.BoolOp op [a] pos) f := pe_one ha
theorem pd_and {rest : List Expr} (ha : PD X W a f) (hb : PD X W (.BoolOp .And (b :: rest) pos) g) : PD X W (.BoolOp .And (a :: b :: rest) pos) (eAndV f g) :=
  pe_imp (pe_and ha hb) fun σ H Q ⟨F, e, R, h⟩ => ⟨F, e, R, h.bind.imp fun a F1 e1 H1 p1 h1 v hv => by
    obtain ⟨d, ld, rd, h2⟩ := get_of p1.rel hv h1
    cases d with
    | bl b =>
      refine ⟨b, rd.bl, ?_⟩
      cases b with
      | true => exact ⟨F1, e1, p1.rel, h2.imp fun a F' e' H' p' h v hv => h v (hv.back p1.stp.back)⟩
      | false => exact Aft.ret p1.rel h2 _ (.bl _)
    | _ => exact h2.elim⟩
theorem pd_or {rest : List Expr} (ha : PD X W a f) (hb : PD X W (.BoolOp .Or (b :: rest) pos) g) : PD X W (.BoolOp .Or (a :: b :: rest) pos) (eOrV f g) :=
  pe_imp (pe_or ha hb) fun σ H Q ⟨F, e, R, h⟩ => ⟨F, e, R, h.bind.imp fun a F1 e1 H1 p1 h1 v hv => by
    obtain ⟨d, ld, rd, h2⟩ := get_of p1.rel hv h1
    cases d with
    | bl b =>
      refine ⟨b, rd.bl, ?_⟩
      cases b with
      | false => exact ⟨F1, e1, p1.rel, h2.imp fun a F' e' H' p' h v hv => h v (hv.back p1.stp.back)⟩
      | true => exact Aft.ret p1.rel h2 _ (.bl _)
    | _ => exact h2.elim⟩
theorem pd_not (ha : PD X W a f) : PD X W (.UnaryOp .Not a pos) (eNotV f) :=
  pe_imp (pe_not ha) fun σ H Q ⟨F, e, R, h⟩ => ⟨F, e, R, h.bind.imp fun a F1 e1 H1 p1 h1 v hv => by
    obtain ⟨d, ld, rd, h2⟩ := get_of p1.rel hv h1
    cases d with
    | bl b => exact ⟨b, rd.bl, Aft.ret p1.rel h2 _ (.bl _)⟩
    | _ => exact h2.elim⟩
theorem pd_if {tc : M Bool} (hc : PDT X W c tc) (ha : PD X W a f) (hb : PD X W b g) : PD X W (.IfExp c a b pos) (eIf tc f g) :=
  pe_imp (pe_ifExp hc ha hb) fun σ H Q ⟨F, e, R, h⟩ => ⟨F, e, R, h.bind.imp fun c F1 e1 H1 p1 h1 => by
    cases c with
    | true => exact ⟨F1, e1, p1.rel, h1.imp fun a F' e' H' p' h v hv => h v (hv.back p1.stp.back)⟩
    | false => exact ⟨F1, e1, p1.rel, h1.imp fun a F' e' H' p' h v hv => h v (hv.back p1.stp.back)⟩⟩
/-- a < b < c, the first two reckoned first -/
def eChain (d1 d2 : D → D → Option (Bool × D)) (f g h : M RV) : M RV :=
  M.bind f fun a => M.bind g fun b => M.bind (M.get a) fun x => M.bind (M.get b) fun y => match d1 x y with
    | some (false, .bl true) => M.bind h fun c => M.bind (M.get b) fun y => M.bind (M.get c) fun z => M.res (d2 y z)
    | some (false, .bl false) => M.ret (.sh (.bl false))
    | _ => M.bad
theorem Post.same {K : Fg} {F : Fx} {σ : St} {H H' : Hp} {e : En} (R : Rel K F σ H e) (s : Same H H') : Post K F σ H e F σ H' e := ⟨R.same s, .same s, fun _ z => .inl z, .refl⟩
theorem Aft.post {α : Type} {K : Fg} {F F1 : Fx} {σ : St} {H H1 : Hp} {e e1 : En} {k : α → Fx → En → Hp → Prop} {r : R α} (p : Post K F σ H e F1 σ H1 e1) (h : Aft W K F σ H e k r) : Aft W K F1 σ H1 e1 k r := by
  cases r with
  | ok a e' => exact fun F' H' p' => h F' H' (p.trans p')
  | exc x e' => exact fun cls d F' H' p' => h cls d F' H' (p.trans p')
  | bad => exact h
theorem chain_of {K : Fg} {σ : St} {H : Hp} {Q : VK} {d1 d2 : D → D → Option (Bool × D)} (h' : tE W K (eChain d1 d2 f g h) σ H Q) : tChain (rD2 K d1) (rD2 K d2) (tE W K f) (tE W K g) (tE W K h) σ H Q := by
  obtain ⟨F, e, R, h0⟩ := h'
  refine ⟨F, e, R, h0.bind.imp fun a F1 e1 H1 p1 h1 v hv => ⟨F1, e1, p1.rel, h1.bind.imp fun b F2 e2 H2 p2 h2 w hw => ?_⟩⟩
  have hv2 := hv.post p1.rel p2
  obtain ⟨dx, lx, rx, h3⟩ := get_of p2.rel hv2 h2
  obtain ⟨dy, ly, ry, h4⟩ := get_of p2.rel hw h3
  refine ⟨_, dx, dy, p2.rel.trk, rx, ry, ?_⟩
  cases w1 : d1 dx dy with
  | none => simp only [w1] at h4; exact h4.elim
  | some y =>
    obtain ⟨fl, d⟩ := y
    cases fl with
    | true => simp only [w1] at h4; exact h4.elim
    | false =>
      cases d with
      | bl b =>
        intro v3 H3 s3 r3
        cases r3
        have p3 := Post.same p2.rel s3
        refine ⟨b, rfl, ?_⟩
        cases b with
        | false =>
          simp only [w1] at h4
          have h5 := Aft.post p3 h4
          exact Aft.ret p3.rel h5 _ (.bl _)
        | true =>
          simp only [w1] at h4
          have h5 := Aft.post p3 h4
          refine ⟨F2, e2, p3.rel, h5.bind.imp fun c F4 e4 H4 p4 h6 w4 hw4 => ?_⟩
          have hw5 := (hw.post p2.rel p3).post p3.rel p4
          obtain ⟨dy, ly, ry, h7⟩ := get_of p4.rel hw5 h6
          obtain ⟨dz, lz, rz, h8⟩ := get_of p4.rel hw4 h7
          exact ⟨_, dy, dz, p4.rel.trk, ry, rz, Res.of p4.rel (fun a z => p1.stp.back a (p2.stp.back a (p3.stp.back a (p4.stp.back a z)))) h8⟩
      | _ => simp only [w1] at h4; exact h4.elim
theorem pd_chain {op op' : CmpOp} {d1 d2 : D → D → Option (Bool × D)} (ho : OpR X (compareOp op) (rD2 X.K d1)) (ho' : OpR X (compareOp op') (rD2 X.K d2)) (ha : PD X W a f) (hb : PD X W b g) (hc : PD X W c h)
    (hm : lastMarks [op, op'] [b, c] = false := by with_unfolding_all rfl) : PD X W (.Compare a [op, op'] [b, c] pos) (eChain d1 d2 f g h) := pe_imp (pe_chain ho ho' ha hb hc hm) fun _ _ _ => chain_of
theorem pdt_chain {op op' : CmpOp} {d1 d2 : D → D → Option (Bool × D)} (ho : OpR X (compareOp op) (rD2 X.K d1)) (ho' : OpR X (compareOp op') (rD2 X.K d2)) (ha : PD X W a f) (hb : PD X W b g) (hc : PD X W c h)
    (hm : lastMarks [op, op'] [b, c] = false := by with_unfolding_all rfl) : PDT X W (.Compare a [op, op'] [b, c] pos) (eBool (eChain d1 d2 f g h)) := pt_imp (pt_chain ho ho' ha hb hc hm) fun _ _ _ h => chain_of (test_of h)
end

/-! ### argument lists -/
/-- a new object is let go, a slot is not -/
def M.arg : RV → M RV
  | .fr d => M.ret (.sh d)
  | r => M.ret r
def aNil {α : Type} : M (List α) := M.ret []
def aCons (f : M RV) (fs : M (List RV)) : M (List RV) := M.bind (M.bind f M.arg) fun r => M.bind fs fun rs => M.ret (r :: rs)
def lCons (f : M RV) (fs : M (List D)) : M (List D) := M.bind (M.bind f M.esc) fun r => M.bind fs fun rs => M.ret (r :: rs)
section
variable {X : Cx} {W : Wx} {a : Expr} {f : M RV} {es : List Expr} {fs : M (List RV)} {ls : M (List D)}
theorem HeldL.post {K : Fg} {F1 F2 : Fx} {σ : St} {H0 H1 H2 : Hp} {e1 e2 : En} (R : Rel K F1 σ H1 e1) (b : Post K F1 σ H1 e1 F2 σ H2 e2) : ∀ {vs : List V} {rs : List RV}, HeldL K F1 σ H0 H1 e1 vs rs → HeldL K F2 σ H0 H2 e2 vs rs
  | [], [], _ => trivial
  | _ :: _, _ :: _, h => ⟨h.1.post R b, HeldL.post R b h.2⟩
  | [], _ :: _, h => h.elim
  | _ :: _, [], h => h.elim
theorem HeldL.back {K : Fg} {F1 : Fx} {σ : St} {H0 H1 H2 : Hp} {e1 : En} (k : ∀ a, H1 a = none → H0 a = none) : ∀ {vs : List V} {rs : List RV}, HeldL K F1 σ H1 H2 e1 vs rs → HeldL K F1 σ H0 H2 e1 vs rs
  | [], [], _ => trivial
  | _ :: _, _ :: _, h => ⟨h.1.back k, HeldL.back k h.2⟩
  | [], _ :: _, h => h.elim
  | _ :: _, [], h => h.elim
theorem pda_nil : PDA X W [] aNil := pa_imp pa_nil fun σ H Q ⟨F, e, R, h⟩ => Aft.ret R h [] trivial
theorem pdl_nil : PDL X W [] aNil := pa_imp pa_nil fun σ H Q ⟨F, e, R, h⟩ => Aft.ret R h [] .nil
theorem arg_of {K : Fg} {F : Fx} {σ : St} {H : Hp} {e : En} {f : M RV} {Q : V → Hp → Prop} {k : RV → Fx → En → Hp → Prop} (R : Rel K F σ H e) (hk : ∀ r F' e' H' v, k r F' e' H' → Held K F' σ H H' e' v r → Q v H') (h : Aft W K F σ H e k (M.bind f M.arg e)) :
    Aft W K F σ H e (fun r F' e' H' => ∀ v, Held K F' σ H H' e' v r → Q v H') (f e) := by
  unfold M.bind at h
  cases q : f e with
  | bad => rw [q] at h; exact h
  | exc x e1 => rw [q] at h; exact h
  | ok r e1 =>
    rw [q] at h
    have h : Aft W K F σ H e k (M.arg r e1) := h
    intro F1 H1 p v hv
    cases r with
    | sh d => exact hk _ _ _ _ _ (h F1 H1 p) hv
    | sl i => exact hk _ _ _ _ _ (h F1 H1 p) hv
    | fr d =>
      obtain ⟨p2, rp⟩ := p.esc R hv (d := d) (e1 := e1) rfl
      exact hk _ _ _ _ _ (h F H1 p2) rp
theorem pda_cons (ha : PD X W a f) (hr : PDA X W es fs) (hs : starEach (a :: es) X.env = (false, eval a X.env) :: starEach es X.env := by rfl) : PDA X W (a :: es) (aCons f fs) :=
  pa_imp (pa_cons ha hr hs) fun σ H Q ⟨F, e, R, h⟩ => ⟨F, e, R, arg_of R (k := fun r F1 e1 H1 => Rel X.K F1 σ H1 e1 ∧ (∀ a, H1 a = none → H a = none) ∧ Aft W X.K F1 σ H1 e1 (fun rs F' e' H' => ∀ vs, HeldL X.K F' σ H H' e' vs rs → Q vs H') ((M.bind fs fun rs => M.ret (r :: rs)) e1))
    (fun r F1 e1 H1 v ⟨R1, bk, h1⟩ hv => ⟨F1, e1, R1, h1.bind.imp fun rs F2 e2 H2 p2 h2 vs hvs => Aft.ret p2.rel h2 (v :: vs) ⟨hv.post R1 p2, hvs.back bk⟩⟩)
    (h.bind.imp fun r F1 e1 H1 p1 h1 => ⟨p1.rel, p1.stp.back, h1⟩)⟩
theorem pdl_cons (ha : PD X W a f) (hr : PDL X W es ls) (hs : starEach (a :: es) X.env = (false, eval a X.env) :: starEach es X.env := by rfl) : PDL X W (a :: es) (lCons f ls) :=
  pa_imp (pa_cons ha hr hs) fun σ H Q ⟨F, e, R, h⟩ => ⟨F, e, R, esc_of R (k := fun r F1 e1 H1 => Rel X.K F1 σ H1 e1 ∧ Aft W X.K F1 σ H1 e1 (fun rs F' e' H' => ∀ vs, RpL X.K (Bd F' σ e') H' vs rs → Q vs H') ((M.bind ls fun rs => M.ret (r :: rs)) e1))
    (fun r F1 e1 H1 v ⟨R1, h1⟩ hv => ⟨F1, e1, R1, h1.bind.imp fun rs F2 e2 H2 p2 h2 vs hvs => Aft.ret p2.rel h2 (v :: vs) (.cons (hv.post p2) hvs)⟩)
    (h.bind.imp fun r F1 e1 H1 p1 h1 => ⟨p1.rel, h1⟩)⟩
end

/-! ### displays -/
def eTup (fs : M (List D)) : M RV := M.bind fs fun ds => if ds.length ≤ sizeLine then M.ret (.sh (.tup ds)) else M.bad
def eLst (fs : M (List D)) : M RV := M.bind fs fun ds => if ds.length ≤ sizeLine then M.ret (.fr (.lst ds)) else M.bad
theorem RpL.length {K : Fg} {B : Ad} {H : Hp} : ∀ {vs : List V} {ds : List D}, RpL K B H vs ds → vs.length = ds.length
  | _, _, .nil => rfl
  | _, _, .cons _ r => congrArg (· + 1) r.length
theorem same_upd {H : Hp} {p : Addr} {o : HO} (h : H p = none) : Same H (upd H p o) := fun b u q => by rw [upd_ne (ne_of_none q h)]; exact q
section
variable {X : Cx} {W : Wx} {es : List Expr} {ls : M (List D)} {pos : Pos}
theorem pd_tup {x1} (hl : PDL X W es ls) : PD X W (.Tuple es x1 pos) (eTup ls) :=
  pe_imp (pe_tup hl) fun σ H Q ⟨F, e, R, h⟩ => ⟨F, e, R, h.bind.imp fun ds F1 e1 H1 p1 h1 vs hv => by
    by_cases hz : ds.length ≤ sizeLine
    · rw [if_pos hz] at h1
      refine ⟨by rw [hv.length]; exact hz, fun p np => ?_⟩
      have s := same_upd (o := .tup vs) np
      refine h1 F1 _ (Post.same p1.rel s) _ (.tup ⟨fun z => ?_, upd_same⟩ (hv.post (Post.same p1.rel s)))
      rcases z with z | ⟨i, f, d, q, n, z⟩
      · exact (p1.rel.ext p z).2 np
      · obtain ⟨p', a, b⟩ := p1.rel.own i f d q n
        rw [z] at a; cases a
        exact b.some np
    · rw [if_neg hz] at h1
      exact h1.elim⟩
theorem pd_lst (hl : PDL X W es ls) : PD X W (.List es pos) (eLst ls) :=
  pe_imp (pe_lst hl) fun σ H Q ⟨F, e, R, h⟩ => ⟨F, e, R, h.bind.imp fun ds F1 e1 H1 p1 h1 vs hv => by
    by_cases hz : ds.length ≤ sizeLine
    · rw [if_pos hz] at h1
      refine ⟨by rw [hv.length]; exact hz, fun p np => ?_⟩
      have s := same_upd (o := .lst vs) np
      have h1 : Aft W X.K F1 σ H1 e1 (fun r F' e' H' => ∀ v, Held X.K F' σ H H' e' v r → Q v H') (M.res (some (true, .lst ds)) e1) := h1
      refine Res.of p1.rel p1.stp.back h1 p _ s np ⟨vs, upd_same, hv.step (fun a o q _ => s a o q) fun a z => z.elim .inl fun z => .inr (z ▸ np)⟩
    · rw [if_neg hz] at h1
      exact h1.elim⟩
end

/-! ### built-ins by values -/
def getAll : List RV → M (List D)
  | [] => M.ret []
  | r :: rs => M.bind (M.get r) fun d => M.bind (getAll rs) fun ds => M.ret (d :: ds)
def RpBL (K : Fg) (B : Ad) (H : Hp) : List V → List D → Prop
  | [], [] => True
  | v :: vs, d :: ds => RpB K B H v d ∧ RpBL K B H vs ds
  | _, _ => False
def rDn (K : Fg) (dop : List D → Option (Bool × D)) : List V → Hp → VK → Prop := fun xs H Q => ∃ B ds, Trk B H ∧ RpBL K B H xs ds ∧ Res K B H Q (dop ds)
def eCallB (dop : List D → Option (Bool × D)) (fs : M (List RV)) : M RV := M.bind fs fun rs => M.bind (getAll rs) fun ds => M.res (dop ds)
section
variable {X : Cx} {W : Wx} {x : Str} {p pos : Pos} {e : Expr} {es : List Expr} {fs : M (List RV)} {id T : String} {dop : List D → Option (Bool × D)}
theorem getAll_of {K : Fg} {F : Fx} {σ : St} {H H0 : Hp} {e : En} {α : Type} : ∀ {rs : List RV} {vs : List V} {g : List D → M α} {k : α → Fx → En → Hp → Prop}, Rel K F σ H e → HeldL K F σ H0 H e vs rs → Aft W K F σ H e k (M.bind (getAll rs) g e) →
    ∃ ds, RpBL K (Bd F σ e) H vs ds ∧ Aft W K F σ H e k (g ds e)
  | [], [], g, k, R, h, q => ⟨[], trivial, q⟩
  | r :: rs, v :: vs, g, k, R, h, q => by
    have e1 : M.bind (getAll (r :: rs)) g e = M.bind (M.get r) (fun d => M.bind (getAll rs) fun ds => g (d :: ds)) e := by
      show M.bind (M.bind (M.get r) fun d => M.bind (getAll rs) fun ds => M.ret (d :: ds)) g e = _
      unfold M.bind
      cases M.get r e with
      | bad => rfl
      | exc x e1 => rfl
      | ok d e1 =>
        simp only
        cases getAll rs e1 <;> rfl
    rw [e1] at q
    obtain ⟨d, _, rd, q2⟩ := get_of R h.1 q
    obtain ⟨ds, rs, q3⟩ := getAll_of R h.2 q2
    exact ⟨d :: ds, ⟨rd, rs⟩, q3⟩
  | [], _ :: _, g, k, R, h, q => h.elim
  | _ :: _, [], g, k, R, h, q => h.elim
theorem callB_of {K : Fg} {σ : St} {H : Hp} {Q : VK} (h : tE W K (eCallB dop fs) σ H Q) : tCB (rDn K dop) (tA W K fs) σ H Q := by
  obtain ⟨F, e, R, h⟩ := h
  refine ⟨F, e, R, h.bind.imp fun rs F1 e1 H1 p1 h1 vs hv => ?_⟩
  obtain ⟨ds, rd, h2⟩ := getAll_of p1.rel hv h1
  exact ⟨_, ds, p1.rel.trk, rd, Res.of p1.rel p1.stp.back h2⟩
theorem pd_callB (hc : CallR X (.builtin id) (rDn X.K dop)) (hg : Gl X x) (hm : X.mg x = none) (hv : bootBuiltins x = some (.builtin id)) (ha : PDA X W (e :: es) fs) (hn : x ≠ "__name__" := by decide) (hdb : (x == ("__debug__" : Str)) = false := by decide)
    (he : starEach (e :: es) X.env = (false, eval e X.env) :: starEach es X.env := by rfl) (hpl : (backTo pos (starEach es X.env)).any (·.1) = false := by rfl) : PD X W (.Call (.Name x p) (e :: es) [] pos) (eCallB dop fs) :=
  pe_imp (pe_callB hc hg hm hv ha hn hdb he hpl) fun _ _ _ => callB_of
theorem pd_callTy (hc : CallR X (.type T) (rDn X.K dop)) (hg : Gl X x) (hm : X.mg x = none) (hv : bootBuiltins x = some (.type T)) (ha : PDA X W (e :: es) fs) (hn : x ≠ "__name__" := by decide) (hdb : (x == ("__debug__" : Str)) = false := by decide)
    (he : starEach (e :: es) X.env = (false, eval e X.env) :: starEach es X.env := by rfl) (hpl : (backTo pos (starEach es X.env)).any (·.1) = false := by rfl) : PD X W (.Call (.Name x p) (e :: es) [] pos) (eCallB dop fs) :=
  pe_imp (pe_callTy hc hg hm hv ha hn hdb he hpl) fun _ _ _ => callB_of
end
end Cw

/-! Cw, part D: statements. -/
namespace Cw
open PySem L2

inductive SR where
  | nx (e : En) | rt (r : RV) (e : En) | bk (e : En) | ct (e : En) | exc (x : Xc) (e : En) | bad
abbrev S := En → SR
def SAft (W : Wx) (K : Fg) (F : Fx) (σ : St) (H : Hp) (e : En) (Dn : Ends) : SR → Prop
  | .nx e' => ∀ F' σ' H', Post K F σ H e F' σ' H' e' → Dn.nx σ' H'
  | .bk e' => ∀ F' σ' H', Post K F σ H e F' σ' H' e' → Dn.bk σ' H'
  | .ct e' => ∀ F' σ' H', Post K F σ H e F' σ' H' e' → Dn.ct σ' H'
  | .rt r e' => ∀ F' σ' H' v, Post K F σ H e F' σ' H' e' → Held K F' σ' H H' e' v r → Dn.rt v H'
  | .exc x e' => ∀ cls d F' σ' H', Post K F σ H e F' σ' H' e' → XcOk K (Bd F' σ' e') H' cls d x → W cls d σ' H'
  | .bad => False
def tS (W : Wx) (K : Fg) (g : S) : TS := fun Dn σ H => ∃ F e, Rel K F σ H e ∧ SAft W K F σ H e Dn (g e)
abbrev PDS (X : Cx) (W : Wx) (st : Stmt) (g : S) : Prop := PS X st (tS W X.K g)
abbrev PDB (X : Cx) (W : Wx) (st : List Stmt) (g : S) : Prop := PSs X st (tS W X.K g)
/-- an expression's end within a statement -/
def M.then {α : Type} (f : M α) (g : α → S) : S := fun e => match f e with
  | .ok a e1 => g a e1
  | .exc x e1 => .exc x e1
  | .bad => .bad
def sSeq (f g : S) : S := fun e => match f e with
  | .nx e1 => g e1
  | r => r
section
variable {W : Wx} {K : Fg} {F F1 F' : Fx} {σ σ1 : St} {H H1 : Hp} {e e1 : En} {Dn Dm : Ends}
theorem SAft.post {r : SR} (p : Post K F σ H e F1 σ1 H1 e1) (h : SAft W K F σ H e Dn r) : SAft W K F1 σ1 H1 e1 Dn r := by
  cases r with
  | nx e' => exact fun F' σ' H' p' => h F' σ' H' (p.trans p')
  | bk e' => exact fun F' σ' H' p' => h F' σ' H' (p.trans p')
  | ct e' => exact fun F' σ' H' p' => h F' σ' H' (p.trans p')
  | rt r e' => exact fun F' σ' H' v p' hv => h F' σ' H' v (p.trans p') (hv.back p.stp.back)
  | exc x e' => exact fun cls d F' σ' H' p' => h cls d F' σ' H' (p.trans p')
  | bad => exact h
theorem SAft.then {α : Type} {f : M α} {g : α → S} (h : SAft W K F σ H e Dn (M.then f g e)) : Aft W K F σ H e (fun a F1 e1 H1 => SAft W K F1 σ H1 e1 Dn (g a e1)) (f e) := by
  unfold M.then at h
  cases q : f e with
  | bad => rw [q] at h; exact h
  | exc x e1 => rw [q] at h; exact fun cls d F' H' p hx => h cls d F' σ H' p hx
  | ok a e1 =>
    rw [q] at h
    exact fun F1 H1 p => SAft.post p h
theorem SAft.seq {f g : S} (h : SAft W K F σ H e Dn (sSeq f g e)) : SAft W K F σ H e { Dn with nx := tS W K g Dn } (f e) := by
  unfold sSeq at h
  cases q : f e with
  | nx e1 => rw [q] at h; exact fun F' σ' H' p => ⟨F', e1, p.rel, SAft.post p h⟩
  | bk e1 => rw [q] at h; exact h
  | ct e1 => rw [q] at h; exact h
  | rt r e1 => rw [q] at h; exact h
  | exc x e1 => rw [q] at h; exact h
  | bad => rw [q] at h; exact h
/-- a slot takes a shared value -/
theorem Rel.setSh {i : Nat} {v : V} {d : D} (R : Rel K F σ H e) (rp : Rp K (Bd F σ e) H v d) (nm : ∀ d, getE e i ≠ some (.mu, d)) :
    Rel K F (σ.set i (some v)) H (e.set i (some (.sh, d))) ∧ ∀ a, Own (σ.set i (some v)) (e.set i (some (.sh, d))) a → Own σ e a := by
  by_cases hi : i < e.length
  · have hs : i < σ.length := R.len ▸ hi
    have hg : ∀ j f d', getE (e.set i (some (.sh, d))) j = some (f, d') → f ≠ .sh → i ≠ j ∧ getE e j = some (f, d') := fun j f d' w n => by
      by_cases hj : i = j
      · subst hj
        rw [getE_set_same hi] at w
        cases w; exact absurd rfl n
      · rw [getE_set_ne hj] at w
        exact ⟨hj, w⟩
    have ow : ∀ a, Own (σ.set i (some v)) (e.set i (some (.sh, d))) a → Own σ e a := fun a ⟨j, f, d', w, n, s⟩ => by
      obtain ⟨hj, w⟩ := hg j f d' w n
      rw [getS_set_ne hj] at s
      exact ⟨j, f, d', w, n, s⟩
    have bd : ∀ a, Bd F (σ.set i (some v)) (e.set i (some (.sh, d))) a → Bd F σ e a := fun a h => h.elim .inl fun z => .inr (ow a z)
    refine ⟨⟨by rw [List.length_set, List.length_set]; exact R.len, fun j d' w => ?_, fun j f d' w n => ?_, fun j l f g d1 d2 p' w1 n1 w2 n2 s1 s2 => ?_, fun a h => ⟨fun z => (R.ext a h).1 (ow a z), (R.ext a h).2⟩, fun z hz => ?_⟩, ow⟩
    · by_cases hj : i = j
      · subst hj
        rw [getE_set_same hi] at w; cases w
        exact ⟨v, getS_set_same hs, rp.anti bd⟩
      · rw [getE_set_ne hj] at w
        obtain ⟨v, a, b⟩ := R.val j d' w
        exact ⟨v, by rw [getS_set_ne hj]; exact a, b.anti bd⟩
    · obtain ⟨hj, w⟩ := hg j f d' w n
      obtain ⟨p', a, b⟩ := R.own j f d' w n
      exact ⟨p', by rw [getS_set_ne hj]; exact a, b.anti bd⟩
    · obtain ⟨h1, w1⟩ := hg _ _ _ w1 n1
      obtain ⟨h2, w2⟩ := hg _ _ _ w2 n2
      rw [getS_set_ne h1] at s1
      rw [getS_set_ne h2] at s2
      exact R.dist j l f g d1 d2 p' w1 n1 w2 n2 s1 s2
    · obtain ⟨a, d', b⟩ := R.pin z hz
      have hz' : i ≠ z.1 := fun h => nm d' (by rw [h]; exact b)
      exact ⟨by rw [getS_set_ne hz']; exact a, d', by rw [getE_set_ne hz']; exact b⟩
  · have h1 : e.length ≤ i := Nat.le_of_not_lt hi
    rw [List.set_eq_of_length_le h1, List.set_eq_of_length_le (R.len ▸ h1)]
    exact ⟨R, fun _ h => h⟩
/-- a slot takes a new object -/
theorem Rel.setOw {i : Nat} {p : Addr} {d : D} (R : Rel K F' σ H e) (hp : F'.bx p) (up : ∀ a, F.bx a → F'.bx a) (pn : F.pn = F'.pn) (np : ¬ F.bx p) (o : OwnAt K (Bd F' σ e) H p d) (nm : ∀ d, getE e i ≠ some (.mu, d)) :
    Rel K F (σ.set i (some (.ref p))) H (e.set i (some (.ow, d))) ∧ ∀ a, Own (σ.set i (some (.ref p))) (e.set i (some (.ow, d))) a → Own σ e a ∨ a = p := by
  by_cases hi : i < e.length
  · have hs : i < σ.length := R.len ▸ hi
    have hg : ∀ j f d', getE (e.set i (some (.ow, d))) j = some (f, d') → (i = j ∧ f = .ow ∧ d' = d) ∨ (i ≠ j ∧ getE e j = some (f, d')) := fun j f d' w => by
      by_cases hj : i = j
      · subst hj
        rw [getE_set_same hi] at w
        cases w; exact .inl ⟨rfl, rfl, rfl⟩
      · rw [getE_set_ne hj] at w
        exact .inr ⟨hj, w⟩
    have ow : ∀ a, Own (σ.set i (some (.ref p))) (e.set i (some (.ow, d))) a → Own σ e a ∨ a = p := fun a ⟨j, f, d', w, n, s⟩ => by
      rcases hg j f d' w with ⟨rfl, _, _⟩ | ⟨hj, w⟩
      · rw [getS_set_same hs] at s
        cases s; exact .inr rfl
      · rw [getS_set_ne hj] at s
        exact .inl ⟨j, f, d', w, n, s⟩
    have bd : ∀ a, Bd F (σ.set i (some (.ref p))) (e.set i (some (.ow, d))) a → Bd F' σ e a := fun a h => h.elim (fun z => .inl (up a z)) fun z => (ow a z).elim .inr fun z => .inl (z ▸ hp)
    have npo : ¬ Own σ e p := (R.ext p hp).1
    refine ⟨⟨by rw [List.length_set, List.length_set]; exact R.len, fun j d' w => ?_, fun j f d' w n => ?_, fun j l f g d1 d2 p' w1 n1 w2 n2 s1 s2 => ?_, fun a h => ⟨fun z => ?_, (R.ext a (up a h)).2⟩, fun z hz => ?_⟩, ow⟩
    · rcases hg j .sh d' w with ⟨_, q, _⟩ | ⟨hj, w⟩
      · cases q
      · obtain ⟨v, a, b⟩ := R.val j d' w
        exact ⟨v, by rw [getS_set_ne hj]; exact a, b.anti bd⟩
    · rcases hg j f d' w with ⟨rfl, rfl, rfl⟩ | ⟨hj, w⟩
      · exact ⟨p, getS_set_same hs, o.anti bd⟩
      · obtain ⟨p', a, b⟩ := R.own j f d' w n
        exact ⟨p', by rw [getS_set_ne hj]; exact a, b.anti bd⟩
    · rcases hg j f d1 w1 with ⟨rfl, _, _⟩ | ⟨h1, w1⟩
      · rcases hg l g d2 w2 with ⟨rfl, _, _⟩ | ⟨h2, w2⟩
        · rfl
        · rw [getS_set_same hs] at s1
          cases s1
          rw [getS_set_ne h2] at s2
          exact absurd ⟨l, g, d2, w2, n2, s2⟩ npo
      · rw [getS_set_ne h1] at s1
        rcases hg l g d2 w2 with ⟨rfl, _, _⟩ | ⟨h2, w2⟩
        · rw [getS_set_same hs] at s2
          cases s2
          exact absurd ⟨j, f, d1, w1, n1, s1⟩ npo
        · rw [getS_set_ne h2] at s2
          exact R.dist j l f g d1 d2 p' w1 n1 w2 n2 s1 s2
    · rcases ow a z with z | z
      · exact (R.ext a (up a h)).1 z
      · exact np (z ▸ h)
    · obtain ⟨a, d', b⟩ := R.pin z (pn ▸ hz)
      have hz' : i ≠ z.1 := fun h => nm d' (by rw [h]; exact b)
      exact ⟨by rw [getS_set_ne hz']; exact a, d', by rw [getE_set_ne hz']; exact b⟩
  · have h1 : e.length ≤ i := Nat.le_of_not_lt hi
    rw [List.set_eq_of_length_le h1, List.set_eq_of_length_le (R.len ▸ h1)]
    exact ⟨R.anti up pn, fun _ h => .inl h⟩
end

/-! ### assignment to a name -/
def isMu (e : En) (i : Nat) : Bool := match getE e i with
  | some (.mu, _) => true
  | _ => false
theorem isMu_ne {e : En} {i : Nat} (h : ¬ isMu e i = true) : ∀ d, getE e i ≠ some (.mu, d) := fun d q => h (by unfold isMu; rw [q])
/-- slot i takes r -/
def put (i : Nat) (r : RV) : M Unit := fun e => match r with
  | .sh d => if isMu e i = true then .bad else .ok () (e.set i (some (.sh, d)))
  | .fr d => if isMu e i = true then .bad else .ok () (e.set i (some (.ow, d)))
  | .sl j => match M.esc (.sl j) e with
    | .ok d e' => if isMu e' i = true then .bad else .ok () (e'.set i (some (.sh, d)))
    | _ => .bad
def sSet (i : Nat) (f : M RV) : S := M.then (M.bind f (put i)) fun _ => .nx
section
variable {W : Wx} {K : Fg} {F F1 F' : Fx} {σ σ1 : St} {H H1 H' : Hp} {e e' e1 : En} {Dn Dm : Ends}
theorem put_of {i : Nat} {r : RV} {v : V} (R : Rel K F σ H e) (p : Post K F σ H e F' σ H' e') (h : Held K F' σ H H' e' v r) (q : put i r e' = .ok () e1) :
    Post K F σ H e F (σ.set i (some v)) H' e1 := by
  have p0 := p.anti
  have shc : ∀ (e2 : En) (d : D), Post K F σ H e F σ H' e2 → Rp K (Bd F σ e2) H' v d → (∀ d, getE e2 i ≠ some (.mu, d)) → Post K F σ H e F (σ.set i (some v)) H' (e2.set i (some (.sh, d))) := fun e2 d p2 rp nm => by
    obtain ⟨r1, r2⟩ := p2.rel.setSh rp nm
    exact ⟨r1, p2.stp, fun a z => p2.ow a (r2 a z), .refl⟩
  unfold put at q
  cases r with
  | sh d =>
    simp only at q
    split at q
    · cases q
    · rename_i nm
      cases q
      exact shc _ _ p0 (Rp.anti h fun a z => z.elim (fun z => .inl (p.le.up a z)) .inr) (isMu_ne nm)
  | fr d =>
    simp only at q
    split at q
    · cases q
    · rename_i nm
      cases q
      obtain ⟨a, rfl, n, f, o⟩ := h
      have np : ¬ F.bx a := fun z => (R.ext a z).2 n
      obtain ⟨r1, r2⟩ := p.rel.setOw (i := i) f p.le.up p.le.pn.symm np o (isMu_ne nm)
      exact ⟨r1, p.stp, fun b z => (r2 b z).elim (p.ow b) fun z => .inr (z ▸ n), .refl⟩
  | sl j =>
    simp only at q
    cases w : M.esc (.sl j) e' with
    | bad => rw [w] at q; cases q
    | exc x e2 => rw [w] at q; cases q
    | ok d e2 =>
      rw [w] at q
      simp only at q
      split at q
      · cases q
      · rename_i nm
        cases q
        obtain ⟨p2, rp⟩ := p.esc R h w
        exact shc _ _ p2 rp (isMu_ne nm)
theorem put_noexc {i : Nat} {r : RV} {x : Xc} : put i r e ≠ .exc x e1 := fun q => by
  unfold put at q
  cases r with
  | sh d => simp only at q; split at q <;> cases q
  | fr d => simp only at q; split at q <;> cases q
  | sl j =>
    simp only at q
    cases w : M.esc (.sl j) e with
    | bad => rw [w] at q; cases q
    | exc x e2 => rw [w] at q; cases q
    | ok d e2 => rw [w] at q; simp only at q; split at q <;> cases q
theorem set_of {i : Nat} {f : M RV} {k : S} (R : Rel K F σ H e) (h : SAft W K F σ H e Dn (M.then (M.bind f (put i)) (fun _ => k) e)) :
    Aft W K F σ H e (fun r F' e' H' => ∀ v, Held K F' σ H H' e' v r → ∃ F1 e1, Post K F σ H e F1 (σ.set i (some v)) H' e1 ∧ SAft W K F1 (σ.set i (some v)) H' e1 Dn (k e1)) (f e) := by
  unfold M.then M.bind at h
  cases q : f e with
  | bad => rw [q] at h; exact h
  | exc x e1 => rw [q] at h; exact fun cls d F' H' p hx => h cls d F' σ H' p hx
  | ok r e1 =>
    rw [q] at h
    intro F1 H1 p v hv
    cases w : put i r e1 with
    | bad => simp only [w] at h; exact h.elim
    | exc x e2 => exact absurd w put_noexc
    | ok u e2 =>
      simp only [w] at h
      have p2 := put_of R p hv w
      exact ⟨F, e2, p2, SAft.post p2 h⟩
end

section
variable {X : Cx} {W : Wx} {a c : Expr} {f : M RV} {g h : S} {pos : Pos} {st : Stmt} {rest bd orelse : List Stmt}
def sNil : S := .nx
theorem pds_nil : PDB X W [] sNil := pss_imp pss_nil fun Dn σ H ⟨F, e, R, h⟩ => h F σ H (.refl R)
theorem pds_cons (h1 : PDS X W st g) (h2 : PDB X W rest h) : PDB X W (st :: rest) (sSeq g h) :=
  pss_imp (pss_cons h1 h2) fun Dn σ H ⟨F, e, R, h⟩ => ⟨F, e, R, h.seq⟩
theorem pds_one (h1 : PDS X W st g) : PDB X W [st] g := pss_one h1
theorem pds_pass : PDS X W (.Pass pos) sNil := ps_imp ps_pass fun Dn σ H ⟨F, e, R, h⟩ => h F σ H (.refl R)
def sBrk : S := .bk
def sCnt : S := .ct
theorem pds_break : PDS X W (.Break pos) sBrk := ps_imp ps_break fun Dn σ H ⟨F, e, R, h⟩ => h F σ H (.refl R)
theorem pds_continue : PDS X W (.Continue pos) sCnt := ps_imp ps_continue fun Dn σ H ⟨F, e, R, h⟩ => h F σ H (.refl R)
def sExpr (f : M RV) : S := M.then f fun _ => .nx
theorem pds_expr (ha : PD X W a f) (hs : swapsWith a none pos.line X.env = pure false := by rfl) : PDS X W (.Expr a pos) (sExpr f) :=
  ps_imp (ps_expr ha hs) fun Dn σ H ⟨F, e, R, h⟩ => ⟨F, e, R, h.then.imp fun r F1 e1 H1 p1 h1 v hv => h1 F1 σ H1 (.refl p1.rel)⟩
def sRet (f : M RV) : S := M.then f fun r => .rt r
theorem pds_ret (ha : PD X W a f) : PDS X W (.Return (some a) pos) (sRet f) :=
  ps_imp (ps_ret ha) fun Dn σ H ⟨F, e, R, h⟩ => ⟨F, e, R, by
    unfold sRet M.then at h
    cases q : f e with
    | bad => rw [q] at h; exact h
    | exc x e1 => rw [q] at h; exact fun cls d F' H' p hx => h cls d F' σ H' p hx
    | ok r e1 => rw [q] at h; exact fun F1 H1 p v hv => h F1 σ H1 v p hv⟩
def sRetN : S := .rt (.sh .non)
theorem pds_retN : PDS X W (.Return none pos) sRetN := ps_imp ps_retN fun Dn σ H ⟨F, e, R, h⟩ => h F σ H _ (.refl R) .non
def sIf (c : M Bool) (g h : S) : S := M.then c fun b => if b = true then g else h
theorem pds_if {tc : M Bool} (hc : PDT X W c tc) (hg : PDB X W bd g) (hh : PDB X W orelse h) : PDS X W (.If c bd orelse pos) (sIf tc g h) :=
  ps_imp (ps_if hc hg hh) fun Dn σ H ⟨F, e, R, h⟩ => ⟨F, e, R, h.then.imp fun b F1 e1 H1 p1 h1 => by
    cases b with
    | true => exact ⟨F1, e1, p1.rel, h1⟩
    | false => exact ⟨F1, e1, p1.rel, h1⟩⟩
/-- what is never reached -/
def sNever : S := fun _ => .bad
theorem pds_never : PDS X W st sNever := ps_imp ps_never fun Dn σ H ⟨F, e, R, h⟩ => h
theorem pdb_never : PDB X W rest sNever := pss_imp pss_never fun Dn σ H ⟨F, e, R, h⟩ => h
theorem pds_set {i : Nat} {x : Str} {pos' : Pos} (hN : X.N.Nodup) (hi : X.N[i]? = some x) (hx : Loc X.env.scope x) (ha : PD X W a f) (hs : swapsWith a (some (.Name x pos')) pos.line X.env = pure false := by rfl)
    (hf : X.fn x = true ∨ X.env.scope.names.lookup x = some .local := by first | exact .inl rfl | exact .inr rfl | assumption) : PDS X W (.Assign [.Name x pos'] a pos) (sSet i f) :=
  ps_imp (ps_set hN hi hx ha hs hf) fun Dn σ H ⟨F, e, R, h⟩ => ⟨F, e, R, (set_of R h).imp fun r F1 e1 H1 p1 h1 v hv => by
    obtain ⟨F2, e2, p2, h2⟩ := h1 v hv
    exact h2 F2 _ H1 (.refl p2.rel)⟩
end
end Cw

/-! Cw, part E: targets, walked things, for, comprehensions, while. -/
namespace Cw
open PySem L2

/-! ### targets -/
/-- a target takes shared data: the slots afterwards -/
abbrev G := D → En → Option En
/-- the slots outside of ts stay -/
def Out (ts : List Nat) (σ σ' : St) : Prop := σ'.length = σ.length ∧ ∀ i, i ∉ ts → getS σ' i = getS σ i
def tG (K : Fg) (ts : List Nat) (a : G) : TG := fun v σ H Q => ∃ F e d e', Rel K F σ H e ∧ Rp K (Bd F σ e) H v d ∧ a d e = some e' ∧ ∀ F' σ' H', Post K F σ H e F' σ' H' e' → Out ts σ σ' → Q σ' H'
abbrev Gs := List D → En → Option En
def tGs (K : Fg) (ts : List Nat) (a : Gs) : TGs := fun vs σ H Q => ∃ F e ds e', Rel K F σ H e ∧ RpL K (Bd F σ e) H vs ds ∧ a ds e = some e' ∧ ∀ F' σ' H', Post K F σ H e F' σ' H' e' → Out ts σ σ' → Q σ' H'
abbrev PDG (X : Cx) (tg : Expr) (ts : List Nat) (a : G) : Prop := PG X tg (tG X.K ts a)
abbrev PDGs (X : Cx) (tg : List Expr) (ts : List Nat) (a : Gs) : Prop := PGs X tg (tGs X.K ts a)
theorem pg_imp {X : Cx} {e : Expr} {t u : TG} (h : PG X e t) (k : ∀ v σ H Q, u v σ H Q → t v σ H Q) : PG X e u := ⟨fun pins s σ H v u Q I r q => h.run pins s σ H v u Q I r (k v σ H Q q)⟩
theorem pgs_imp {X : Cx} {e : List Expr} {t u : TGs} (h : PGs X e t) (k : ∀ v σ H Q, u v σ H Q → t v σ H Q) : PGs X e u := ⟨fun pins s σ H v u Q I r q => h.run pins s σ H v u Q I r (k v σ H Q q)⟩
def gN (i : Nat) : G := fun d e => if isMu e i = true then none else some (e.set i (some (.sh, d)))
def gsNil : Gs := fun ds e => match ds with
  | [] => some e
  | _ => none
def gsCons (a : G) (b : Gs) : Gs := fun ds e => match ds with
  | [] => none
  | d :: ds => match a d e with
    | some e1 => b ds e1
    | none => none
def gT (n : Nat) (b : Gs) : G := fun d e => match d with
  | .tup ds => if ds.length = n then b ds e else none
  | _ => none
section
variable {X : Cx} {pos : Pos}
theorem pdg_name {i : Nat} {x : Str} (hN : X.N.Nodup) (hi : X.N[i]? = some x) (hx : Loc X.env.scope x) (hf : X.fn x = true ∨ X.env.scope.names.lookup x = some .local := by first | exact .inl rfl | exact .inr rfl | assumption) : PDG X (.Name x pos) [i] (gN i) :=
  pg_imp (pg_name hN hi hx hf) fun v σ H Q ⟨F, e, d, e', R, rp, q, h⟩ => by
    unfold gN at q
    split at q
    · cases q
    · rename_i nm
      cases q
      obtain ⟨r1, r2⟩ := R.setSh rp (isMu_ne nm)
      exact h F _ H ⟨r1, .refl, fun a z => .inl (r2 a z), .refl⟩ ⟨List.length_set .., fun j hj => getS_set_ne fun z => hj (by simp [z])⟩
theorem pdgs_nil : PDGs X [] [] gsNil := pgs_imp pgs_nil fun vs σ H Q ⟨F, e, ds, e', R, rp, q, h⟩ => by
  cases ds with
  | nil => cases rp; cases q; exact ⟨rfl, h F σ H (.refl R) ⟨rfl, fun _ _ => rfl⟩⟩
  | cons d ds => cases q
theorem pdgs_cons {tg : Expr} {es : List Expr} {a : G} {b : Gs} {t1 t2 : List Nat} (h1 : PDG X tg t1 a) (h2 : PDGs X es t2 b) (hs : (assignEach (tg :: es) X.env).map (·.2) = assign tg X.env :: (assignEach es X.env).map (·.2) := by rfl) : PDGs X (tg :: es) (t1 ++ t2) (gsCons a b) :=
  pgs_imp (pgs_cons h1 h2 hs) fun vs σ H Q ⟨F, e, ds, e', R, rp, q, h⟩ => by
    cases ds with
    | nil => cases q
    | cons d ds =>
      cases rp with
      | cons r rs =>
        unfold gsCons at q
        simp only at q
        cases w : a d e with
        | none => rw [w] at q; cases q
        | some e1 =>
          rw [w] at q
          exact ⟨_, _, rfl, F, e, d, e1, R, r, w, fun F1 σ1 H1 p1 o1 => ⟨F1, e1, ds, e', p1.rel, rs.post p1, q, fun F2 σ2 H2 p2 o2 => h F2 σ2 H2 (p1.trans p2) ⟨o2.1.trans o1.1, fun i hi => (o2.2 i fun z => hi (List.mem_append_right _ z)).trans (o1.2 i fun z => hi (List.mem_append_left _ z))⟩⟩⟩
theorem Rp.tup_inv {K : Fg} {B : Ad} {H : Hp} {v : V} {ds : List D} (h : Rp K B H v (.tup ds)) : ∃ a vs, v = .ref a ∧ TupAt K B H a vs ∧ RpL K B H vs ds := by
  cases h with
  | tup t r => exact ⟨_, _, rfl, t, r⟩
theorem pdg_tup {es : List Expr} {k n : Nat} {b : Gs} {ts : List Nat} (hc : X.calm = true) (h : PDGs X es ts b) (hn : (assignEach es X.env).length = n := by rfl) (hst : (assignEach es X.env).findIdx? (·.1) = none := by rfl) : PDG X (.Tuple es k pos) ts (gT n b) :=
  pg_imp (pg_tup hc h hn hst) fun v σ H Q ⟨F, e, d, e', R, rp, q, h⟩ => by
    cases d with
    | tup ds =>
      obtain ⟨a, vs, rfl, t, r⟩ := rp.tup_inv
      unfold gT at q
      simp only at q
      split at q
      · rename_i hl
        exact ⟨a, vs, rfl, t.sq, by rw [r.length]; exact hl, F, e, ds, e', R, r, q, h⟩
      · cases q
    | _ => cases q
end

/-! ### walked things -/
/-- what J stands on: it stays as long as shared things stay -/
structure ItOk (K : Fg) (J : It) (B : Ad) (H : Hp) (ds : List D) : Prop where
  ex : ∃ S : Ad → Hp → Prop, S B H ∧ (∀ B H B' H', S B H → (∀ a o, H a = some o → ¬ B a → H' a = some o) → (∀ a, B' a → B a ∨ H a = none) → S B' H') ∧
    ∀ B H, S B H → Trk B H → (∀ i d, ds[i]? = some d → J.go i H ∧ ∀ x H', J.yld i H x H' → Same H H' ∧ Rp K B H' x d) ∧ J.stop ds.length H
def tI (W : Wx) (K : Fg) (f : M (List D)) : TI := fun σ H Q => ∃ F e, Rel K F σ H e ∧ Aft W K F σ H e (fun ds F' e' H' => ∀ J, ItOk K J (Bd F' σ e') H' ds → Q J H') (f e)
abbrev PDI (X : Cx) (W : Wx) (tg it : Expr) (f : M (List D)) : Prop := PI X tg it (tI W X.K f)
theorem pi_imp {X : Cx} {tg e : Expr} {t u : TI} (h : PI X tg e t) (k : ∀ σ H Q, u σ H Q → t σ H Q) : PI X tg e u := ⟨fun pins s σ H Q I q => h.run pins s σ H Q I (k σ H Q q)⟩
theorem pi_or {X : Cx} {tg e : Expr} {t u : TI} (h : PI X tg e t) (h' : PI X tg e u) : PI X tg e (fun σ H Q => t σ H Q ∨ u σ H Q) :=
  ⟨fun pins s σ H Q I q => q.elim (h.run pins s σ H Q I) (h'.run pins s σ H Q I)⟩
/-- over a list or a tuple that is shared -/
def iSeq (f : M RV) : M (List D) := M.bind (M.bind f M.esc) fun d => match d with
  | .lst ds => M.ret ds
  | .tup ds => M.ret ds
  | _ => M.bad
theorem RpL.get {K : Fg} {B : Ad} {H : Hp} : ∀ {vs : List V} {ds : List D} {i : Nat} {d : D}, RpL K B H vs ds → ds[i]? = some d → ∃ v, vs[i]? = some v ∧ Rp K B H v d
  | _, _, 0, _, .cons r _, e => by simp at e; subst e; exact ⟨_, rfl, r⟩
  | _, _, i + 1, d, .cons _ t, e => by
    obtain ⟨u, h1, h2⟩ := RpL.get (i := i) (d := d) t (by simpa using e)
    exact ⟨u, by simpa using h1, h2⟩
  | _, _, _, _, .nil, e => by simp at e
theorem SqL.inj {K : Fg} {H : Hp} {a : Addr} {xs ys : List V} (h : Rd H a (.lst xs)) : Rd H a (.lst ys) → xs = ys := by
  intro h'
  rcases h with h | ⟨o, h⟩ <;> rcases h' with h' | ⟨o', h'⟩ <;> rw [h] at h' <;> cases h' <;> rfl

theorem Aft.know {α : Type} {W : Wx} {K : Fg} {F : Fx} {σ : St} {H : Hp} {e : En} {k : α → Fx → En → Hp → Prop} {r : R α} {P : α → Prop} (h : Aft W K F σ H e k r) (hp : ∀ a e', r = .ok a e' → P a) : Aft W K F σ H e (fun a F e H => P a ∧ k a F e H) r := by
  cases r with
  | ok a e' => exact fun F' H' p => ⟨hp a e' rfl, h F' H' p⟩
  | exc x e' => exact h
  | bad => exact h
theorem itOk_list {K : Fg} {B : Ad} {H : Hp} {a : Addr} {vs : List V} {ds : List D} (h : LstAt K B H a vs) (r : RpL K B H vs ds) : ItOk K (Itl K a) B H ds :=
  ⟨fun B H => LstAt K B H a vs ∧ RpL K B H vs ds, ⟨h, r⟩, fun B H B' H' ⟨h, r⟩ h1 h2 => ⟨h.step h1 h2, r.step h1 h2⟩, fun B H ⟨h, r⟩ _ => ⟨fun i d q => by
    obtain ⟨v, hv, rv⟩ := r.get q
    refine ⟨⟨vs, v, h.sq, hv⟩, fun x H' y => ?_⟩
    obtain ⟨rfl, y⟩ := y
    have e := hv.symm.trans (y vs h.sq)
    cases e
    exact ⟨Same.refl _, rv⟩, ⟨vs, h.sq, Nat.le_of_eq r.length⟩⟩⟩
theorem itOk_tup {K : Fg} {B : Ad} {H : Hp} {a : Addr} {vs : List V} {ds : List D} (h : TupAt K B H a vs) (r : RpL K B H vs ds) : ItOk K (Itt K a) B H ds :=
  ⟨fun B H => TupAt K B H a vs ∧ RpL K B H vs ds, ⟨h, r⟩, fun B H B' H' ⟨h, r⟩ h1 h2 => ⟨h.step h1 h2, r.step h1 h2⟩, fun B H ⟨h, r⟩ _ => ⟨fun i d q => by
    obtain ⟨v, hv, rv⟩ := r.get q
    refine ⟨⟨vs, v, h.sq, hv⟩, fun x H' y => ?_⟩
    obtain ⟨rfl, y⟩ := y
    have e := hv.symm.trans (y vs h.sq)
    cases e
    exact ⟨Same.refl _, rv⟩, ⟨vs, h.sq, Nat.le_of_eq r.length⟩⟩⟩
def rangeD (lo : Int) (n : Nat) : List D := (List.range n).map fun (k : Nat) => D.int (lo + (k : Int))
theorem itOk_range {K : Fg} {B : Ad} {H : Hp} {lo : Int} {n : Nat} : ItOk K (Itr lo n) B H (rangeD lo n) :=
  ⟨fun _ _ => True, trivial, fun _ _ _ _ _ _ _ => trivial, fun B H _ _ => ⟨fun i d q => by
    unfold rangeD at q
    rw [List.getElem?_map] at q
    have hi : i < n := by
      cases w : (List.range n)[i]? with
      | none => rw [w] at q; cases q
      | some k =>
        have := (List.getElem?_eq_some_iff.mp w).1
        rwa [List.length_range] at this
    rw [List.getElem?_range hi] at q
    cases q
    refine ⟨hi, fun x H' y => ?_⟩
    obtain ⟨rfl, rfl⟩ := y
    exact ⟨Same.refl _, .int _⟩, by
      show n ≤ (rangeD lo n).length
      unfold rangeD
      rw [List.length_map, List.length_range]
      exact Nat.le_refl _⟩⟩
section
variable {X : Cx} {W : Wx} {tg l : Expr} {f : M RV} {pos p : Pos}
theorem RpL.sq_lst {K : Fg} {B : Ad} {H : Hp} {v : V} {ds : List D} (h : Rp K B H v (.lst ds)) : ∃ a vs, v = .ref a ∧ LstAt K B H a vs ∧ RpL K B H vs ds := by
  cases h with
  | lst t r => exact ⟨_, _, rfl, t, r⟩
theorem pdi_seq (hl : PD X W l f) : PDI X W tg l (iSeq f) :=
  pi_imp (pi_or (pi_list hl) (pi_tup hl)) fun σ H Q ⟨F, e, R, h⟩ => by
    have hb := h.bind
    cases w : M.bind f M.esc e with
    | bad => rw [w] at hb; exact hb.elim
    | exc x e1 => exact .inl ⟨F, e, R, esc_of R (k := fun _ _ _ _ => False) (fun _ _ _ _ _ z _ => z.elim) (by rw [w] at hb ⊢; exact hb)⟩
    | ok d e1 =>
      cases d with
      | lst ds =>
        refine .inl ⟨F, e, R, esc_of R (k := fun d F1 e1 H1 => d = .lst ds ∧ Rel X.K F1 σ H1 e1 ∧ ∀ J, ItOk X.K J (Bd F1 σ e1) H1 ds → Q J H1) (fun d F1 e1 H1 v ⟨ed, R1, k⟩ rp => ?_) ?_⟩
        · subst ed
          obtain ⟨a, vs, rfl, t, r⟩ := RpL.sq_lst rp
          exact ⟨a, rfl, ⟨vs, t.sq⟩, k _ (itOk_list t r)⟩
        · rw [w] at hb ⊢
          exact fun F1 H1 p1 => ⟨rfl, p1.rel, hb F1 H1 p1 F1 H1 (.refl p1.rel)⟩
      | tup ds =>
        refine .inr ⟨F, e, R, esc_of R (k := fun d F1 e1 H1 => d = .tup ds ∧ Rel X.K F1 σ H1 e1 ∧ ∀ J, ItOk X.K J (Bd F1 σ e1) H1 ds → Q J H1) (fun d F1 e1 H1 v ⟨ed, R1, k⟩ rp => ?_) ?_⟩
        · subst ed
          obtain ⟨a, vs, rfl, t, r⟩ := rp.tup_inv
          exact ⟨a, rfl, ⟨vs, t.sq⟩, k _ (itOk_tup t r)⟩
        · rw [w] at hb ⊢
          exact fun F1 H1 p1 => ⟨rfl, p1.rel, hb F1 H1 p1 F1 H1 (.refl p1.rel)⟩
      | _ => exact .inl ⟨F, e, R, esc_of R (k := fun _ _ _ _ => False) (fun _ _ _ _ _ z _ => z.elim) (by rw [w] at hb ⊢; exact fun F1 H1 p1 => hb F1 H1 p1)⟩
/-! range -/
noncomputable def in62 (j : Int) : Bool := @decide (-(2 ^ 62) ≤ j ∧ j < 2 ^ 62) (Classical.propDecidable _)
theorem in62_iff {j : Int} : in62 j = true ↔ (-(2 ^ 62) ≤ j ∧ j < 2 ^ 62) := @decide_eq_true_iff _ (Classical.propDecidable _)
noncomputable def iRng1D (fs : M (List RV)) : M (List D) := M.bind fs fun rs => M.bind (getAll rs) fun ds => match ds with
  | [.int j] => if in62 j = true then M.ret (rangeD 0 j.toNat) else M.bad
  | _ => M.bad
noncomputable def iRng2D (fs : M (List RV)) : M (List D) := M.bind fs fun rs => M.bind (getAll rs) fun ds => match ds with
  | [.int i, .int j] => if in62 i = true ∧ in62 j = true then M.ret (rangeD i (j - i).toNat) else M.bad
  | _ => M.bad
theorem RpBL.one {K : Fg} {B : Ad} {H : Hp} {vs : List V} {d : D} (h : RpBL K B H vs [d]) : ∃ v, vs = [v] ∧ RpB K B H v d := by
  match vs, h with
  | [v], h => exact ⟨v, rfl, h.1⟩
theorem RpBL.two {K : Fg} {B : Ad} {H : Hp} {vs : List V} {d d' : D} (h : RpBL K B H vs [d, d']) : ∃ v w, vs = [v, w] ∧ RpB K B H v d ∧ RpB K B H w d' := by
  match vs, h with
  | [v, w], h => exact ⟨v, w, rfl, h.1, h.2.1⟩
theorem pdi_range1 {a : Expr} {fs : M (List RV)} (hg : Gl X "range") (hm : X.mg "range" = none) (ha : PDA X W [a] fs) (hs : starEach [a] X.env = [(false, eval a X.env)] := by rfl) : PDI X W tg (.Call (.Name "range" p) [a] [] pos) (iRng1D fs) :=
  pi_imp (pi_range1 hg hm ha hs) fun σ H Q ⟨F, e, R, h⟩ => ⟨F, e, R, h.bind.imp fun rs F1 e1 H1 p1 h1 vs hv => by
    obtain ⟨ds, rd, h2⟩ := getAll_of p1.rel hv h1
    match ds, rd, h2 with
    | [.int j], rd, h2 =>
      obtain ⟨v, rfl, rv⟩ := rd.one
      simp only at h2
      split at h2
      · rename_i hj
        replace hj := in62_iff.mp hj
        exact ⟨j, by rw [rv.int], hj.1, hj.2, h2 F1 H1 (.refl p1.rel) _ itOk_range⟩
      · exact h2.elim⟩
theorem pdi_range2 {a b : Expr} {fs : M (List RV)} (hg : Gl X "range") (hm : X.mg "range" = none) (ha : PDA X W [a, b] fs) (hs : starEach [a, b] X.env = [(false, eval a X.env), (false, eval b X.env)] := by rfl) (hs2 : starEach [b] X.env = [(false, eval b X.env)] := by rfl) : PDI X W tg (.Call (.Name "range" p) [a, b] [] pos) (iRng2D fs) :=
  pi_imp (pi_range2 hg hm ha hs hs2) fun σ H Q ⟨F, e, R, h⟩ => ⟨F, e, R, h.bind.imp fun rs F1 e1 H1 p1 h1 vs hv => by
    obtain ⟨ds, rd, h2⟩ := getAll_of p1.rel hv h1
    match ds, rd, h2 with
    | [.int i, .int j], rd, h2 =>
      obtain ⟨v, w, rfl, rv, rw'⟩ := rd.two
      simp only at h2
      split at h2
      · rename_i hj
        obtain ⟨⟨q1, q2⟩, q3, q4⟩ := And.imp in62_iff.mp in62_iff.mp hj
        exact ⟨i, j, by rw [rv.int, rw'.int], ⟨q1, q2, q3, q4⟩, h2 F1 H1 (.refl p1.rel) _ itOk_range⟩
      · exact h2.elim⟩
end

/-! ### for -/
def forL (a : G) (b : S) : List D → S
  | [], e => .nx e
  | d :: ds, e => match a d e with
    | none => .bad
    | some e1 => match b e1 with
      | .nx e2 => forL a b ds e2
      | .ct e2 => forL a b ds e2
      | .bk e2 => .nx e2
      | .rt r e2 => .rt r e2
      | .exc x e2 => .exc x e2
      | .bad => .bad
def sFor (f : M (List D)) (a : G) (b : S) : S := M.then f fun ds => forL a b ds
section
variable {X : Cx} {W : Wx} {tg it : Expr} {f : M (List D)} {a : G} {b : S} {pos : Pos} {body : List Stmt}
theorem for_of {K : Fg} {Dn : Ends} {σ : St} {H : Hp} {ts : List Nat} (h : tS W K (sFor f a b) Dn σ H) : tFor (tI W K f) (tG K ts a) (tS W K b) Dn σ H := by
  obtain ⟨F, e, R, h⟩ := h
  refine ⟨F, e, R, h.then.imp fun ds F1 e1 H1 p1 h1 J hJ => ?_⟩
  obtain ⟨⟨Sx, s0, st, sx⟩⟩ := hJ
  refine ⟨fun i m σ' H' => i + m = ds.length ∧ ∃ F' e', Rel K F' σ' H' e' ∧ Sx (Bd F' σ' e') H' ∧ SAft W K F' σ' H' e' Dn (forL a b (ds.drop i) e'), ⟨ds.length, by simp, F1, e1, p1.rel, s0, h1⟩, ?_⟩
  rintro i m σ' H' ⟨him, F', e', R', s', h'⟩
  obtain ⟨go, stop⟩ := sx _ _ s' R'.trk
  by_cases hi : i < ds.length
  · have hd : ds[i]? = some ds[i] := List.getElem?_eq_getElem hi
    obtain ⟨hgo, hy⟩ := go i _ hd
    refine .inr ⟨hgo, fun σ2 H2 => ∃ F2 e2, Rel K F2 σ2 H2 e2 ∧ Sx (Bd F2 σ2 e2) H2 ∧ SAft W K F2 σ2 H2 e2 Dn (forL a b (ds.drop (i + 1)) e2), fun σ2 H2 ⟨F2, e2, q1, q2, q3⟩ => ⟨m - 1, by omega, by omega, F2, e2, q1, q2, q3⟩, fun x H2 y => ?_⟩
    obtain ⟨sm, rp⟩ := hy x H2 y
    have pS := Post.same R' sm
    rw [List.drop_eq_getElem_cons hi] at h'
    unfold forL at h'
    cases w : a ds[i] e' with
    | none => simp only [w] at h'; exact h'.elim
    | some e2 =>
      simp only [w] at h'
      refine ⟨F', e', ds[i], e2, pS.rel, rp, w, fun F3 σ3 H3 p3 _ => ⟨F3, e2, p3.rel, ?_⟩⟩
      have pT := pS.trans p3
      have h4 := SAft.post pT h'
      have sT : ∀ {F4 : Fx} {σ4 : St} {H4 : Hp} {e4 : En}, Post K F3 σ3 H3 e2 F4 σ4 H4 e4 → Sx (Bd F4 σ4 e4) H4 := fun p4 => st _ _ _ _ s' (pT.trans p4).k1 (pT.trans p4).k2
      cases w2 : b e2 with
      | nx e5 => simp only [w2] at h4; exact fun F5 σ5 H5 p5 => ⟨F5, e5, p5.rel, sT p5, SAft.post p5 h4⟩
      | ct e5 => simp only [w2] at h4; exact fun F5 σ5 H5 p5 => ⟨F5, e5, p5.rel, sT p5, SAft.post p5 h4⟩
      | bk e5 => simp only [w2] at h4; exact fun F5 σ5 H5 p5 => h4 F5 σ5 H5 p5
      | rt r e5 => simp only [w2] at h4; exact h4
      | exc x e5 => simp only [w2] at h4; exact h4
      | bad => simp only [w2] at h4; exact h4
  · have e1 : i = ds.length := by omega
    subst e1
    rw [List.drop_eq_nil_of_le (Nat.le_refl _)] at h'
    exact .inl ⟨stop, h' F' σ' H' (.refl R')⟩
theorem pds_for {ts : List Nat} (hp : PassesOwn (model X.prog X.w) X.A X.env X.xe) (hc : X.calm = true) (hi : PDI X W tg it f) (hg : PDG X tg ts a) (hb : PDB X W body b) (hs : ∀ x, foldedSetIterable it X.env x = pure x := by intro _; rfl) : PDS X W (.For tg it body [] pos) (sFor f a b) :=
  ps_imp (ps_for hp hc hi hg hb hs) fun _ _ _ => for_of
/-! ### while, with fuel -/
def whileL (c : M Bool) (b : S) : Nat → S
  | 0, _ => .bad
  | n + 1, e => match c e with
    | .bad => .bad
    | .exc x e1 => .exc x e1
    | .ok false e1 => .nx e1
    | .ok true e1 => match b e1 with
      | .nx e2 => whileL c b n e2
      | .ct e2 => whileL c b n e2
      | .bk e2 => .nx e2
      | .rt r e2 => .rt r e2
      | .exc x e2 => .exc x e2
      | .bad => .bad
theorem while_of {K : Fg} {Dn : Ends} {σ : St} {H : Hp} {c : M Bool} {n : Nat} (h : tS W K (whileL c b n) Dn σ H) : tWhile (tT W K c) (tS W K b) Dn σ H := by
  refine ⟨fun m σ H => ∃ F e, Rel K F σ H e ∧ SAft W K F σ H e Dn (whileL c b m e), ⟨n, h⟩, ?_⟩
  rintro m σ H ⟨F, e, R, h⟩
  cases m with
  | zero => exact h.elim
  | succ m =>
    unfold whileL at h
    refine ⟨F, e, R, ?_⟩
    cases w : c e with
    | bad => rw [w] at h; exact h
    | exc x e1 => rw [w] at h; exact fun cls d F' H' p hx => h cls d F' σ H' p hx
    | ok t e1 =>
      rw [w] at h
      intro F1 H1 p1
      cases t with
      | false => exact h F1 σ H1 p1
      | true =>
        have h := SAft.post p1 h
        refine ⟨fun σ' H' => ∃ F e, Rel K F σ' H' e ∧ SAft W K F σ' H' e Dn (whileL c b m e), fun σ' H' q => ⟨m, Nat.lt_succ_self m, q⟩, F1, e1, p1.rel, ?_⟩
        cases w2 : b e1 with
        | nx e2 => simp only [w2] at h; exact fun F2 σ2 H2 p2 => ⟨F2, e2, p2.rel, SAft.post p2 h⟩
        | ct e2 => simp only [w2] at h; exact fun F2 σ2 H2 p2 => ⟨F2, e2, p2.rel, SAft.post p2 h⟩
        | bk e2 => simp only [w2] at h; exact fun F2 σ2 H2 p2 => h F2 σ2 H2 p2
        | rt r e2 => simp only [w2] at h; exact h
        | exc x e2 => simp only [w2] at h; exact h
        | bad => simp only [w2] at h; exact h
theorem pds_while {c : Expr} {tc : M Bool} {n : Nat} (hp : PassesOwn (model X.prog X.w) X.A X.env X.xe) (hc : PDT X W c tc) (hb : PDB X W body b) : PDS X W (.While c body [] pos) (whileL tc b n) :=
  ps_imp (ps_while hp hc hb) fun _ _ _ => while_of
end
end Cw

/-! Cw, part F: list comprehensions. -/
namespace Cw
open PySem L2

abbrev Wno : Wx := fun _ _ _ _ => False
def wipeE (e : En) : List Nat → En
  | [] => e
  | v :: vs => (wipeE e vs).set v none
theorem wipeE_length (e : En) : ∀ vs : List Nat, (wipeE e vs).length = e.length
  | [] => rfl
  | v :: vs => by unfold wipeE; rw [List.length_set, wipeE_length e vs]
theorem getE_wipe {e : En} {i : Nat} {x : Fl × D} : ∀ {vs : List Nat}, getE (wipeE e vs) i = some x → i ∉ vs ∧ getE e i = some x
  | [], h => ⟨by simp, h⟩
  | v :: vs, h => by
    unfold wipeE at h
    by_cases hv : v = i
    · subst hv
      by_cases hl : v < (wipeE e vs).length
      · rw [getE_set_same hl] at h; cases h
      · rw [List.set_eq_of_length_le (Nat.le_of_not_lt hl)] at h
        exact absurd (getE_lt h) hl
    · rw [getE_set_ne hv] at h
      obtain ⟨a, b⟩ := getE_wipe h
      exact ⟨by simp only [List.mem_cons, not_or]; exact ⟨fun z => hv z.symm, a⟩, b⟩
theorem getE_wipe_out {e : En} {i : Nat} : ∀ {vs : List Nat}, i ∉ vs → getE (wipeE e vs) i = getE e i
  | [], _ => rfl
  | v :: vs, h => by
    unfold wipeE
    simp only [List.mem_cons, not_or] at h
    rw [getE_set_ne fun z => h.1 z.symm]
    exact getE_wipe_out h.2
theorem getS_wipe_out {σ : St} {i : Nat} : ∀ {vs : List Nat}, i ∉ vs → getS (wipe σ vs) i = getS σ i
  | [], _ => rfl
  | v :: vs, h => by
    unfold wipe
    simp only [List.mem_cons, not_or] at h
    rw [getS_set_ne fun z => h.1 z.symm]
    exact getS_wipe_out h.2
/-- no changed parameter among these slots -/
def noMu (e : En) (vs : List Nat) : Bool := vs.all fun i => !isMu e i
section
variable {K : Fg} {F : Fx} {σ : St} {H : Hp} {e : En} {vs : List Nat}
/-- the slots vs are unknown: whatever stands there -/
theorem Rel.wipe' {σ' : St} (R : Rel K F σ H e) (nm : noMu e vs = true) (hl : σ'.length = σ.length) (hs : ∀ i, i ∉ vs → getS σ' i = getS σ i) :
    Rel K F σ' H (wipeE e vs) ∧ ∀ a, Own σ' (wipeE e vs) a → Own σ e a := by
  have ow : ∀ a, Own σ' (wipeE e vs) a → Own σ e a := fun a ⟨i, f, d, q, n, s⟩ => by
    obtain ⟨hi, q⟩ := getE_wipe q
    rw [hs i hi] at s
    exact ⟨i, f, d, q, n, s⟩
  have bd : ∀ a, Bd F σ' (wipeE e vs) a → Bd F σ e a := fun a h => h.elim .inl fun z => .inr (ow a z)
  refine ⟨⟨by rw [wipeE_length, hl]; exact R.len, fun i d q => ?_, fun i f d q n => ?_, fun i j f g d d' p q1 n1 q2 n2 s1 s2 => ?_, fun a z => ⟨fun w => (R.ext a z).1 (ow a w), (R.ext a z).2⟩, fun q hq => ?_⟩, ow⟩
  · obtain ⟨hi, q⟩ := getE_wipe q
    obtain ⟨v, a, b⟩ := R.val i d q
    exact ⟨v, by rw [hs i hi]; exact a, b.anti bd⟩
  · obtain ⟨hi, q⟩ := getE_wipe q
    obtain ⟨v, a, b⟩ := R.own i f d q n
    exact ⟨v, by rw [hs i hi]; exact a, b.anti bd⟩
  · obtain ⟨hi, q1⟩ := getE_wipe q1
    obtain ⟨hj, q2⟩ := getE_wipe q2
    rw [hs i hi] at s1
    rw [hs j hj] at s2
    exact R.dist i j f g d d' p q1 n1 q2 n2 s1 s2
  · obtain ⟨a, d, b⟩ := R.pin q hq
    have hn : q.1 ∉ vs := fun z => by
      have := (List.all_eq_true.mp nm) q.1 z
      unfold isMu at this
      rw [b] at this
      cases this
    exact ⟨by rw [hs _ hn]; exact a, d, by rw [getE_wipe_out hn]; exact b⟩
/-- an object around is changed -/
theorem Rel.updX {p : Addr} {o : HO} (R : Rel K F σ H e) (hp : F.bx p) : Rel K F σ (upd H p o) e := by
  have k1 : ∀ a u, H a = some u → ¬ Bd F σ e a → upd H p o a = some u := fun a u q n => by
    have hne : a ≠ p := fun z => n (.inl (by rw [z]; exact hp))
    rw [upd_ne hne]; exact q
  refine ⟨R.len, fun i d q => ?_, fun i f d q n => ?_, R.dist, fun a z => ⟨(R.ext a z).1, ?_⟩, R.pin⟩
  · obtain ⟨v, a, b⟩ := R.val i d q
    exact ⟨v, a, b.step k1 fun a z => .inl z⟩
  · obtain ⟨p', a, b⟩ := R.own i f d q n
    refine ⟨p', a, b.step k1 (fun a z => .inl z) (upd_ne fun z => ?_)⟩
    exact (R.ext p hp).1 ⟨i, f, d, q, n, z ▸ a⟩
  · unfold upd
    split
    · exact fun z => nomatch z
    · exact (R.ext a z).2
end

/-- one turn after another: the items that are made -/
def lcL (vs : List Nat) (a : G) (tt : M Bool) (te : M RV) : List D → M (List D)
  | [], e => .ok [] e
  | d :: ds, e => match a d e with
    | none => .bad
    | some e1 => match tt e1 with
      | .ok true e2 => match M.bind te M.esc e2 with
        | .ok y e3 => if noMu e3 vs = true then (match lcL vs a tt te ds (wipeE e3 vs) with
          | .ok ys e4 => .ok (y :: ys) e4
          | .exc x e4 => .exc x e4
          | .bad => .bad) else .bad
        | _ => .bad
      | .ok false e2 => if noMu e2 vs = true then lcL vs a tt te ds (wipeE e2 vs) else .bad
      | _ => .bad
def M.wipe (vs : List Nat) : M Unit := fun e => if noMu e vs = true then .ok () (wipeE e vs) else .bad
def eLc (vs : List Nat) (f : M (List D)) (a : G) (tt : M Bool) (te : M RV) : M RV :=
  M.bind f fun ds => M.bind (M.wipe vs) fun _ => M.bind (lcL vs a tt te ds) fun ys => if ys.length ≤ sizeLine then M.ret (.fr (.lst ys)) else M.bad
def eYes : M Bool := M.ret true

section
variable {K : Fg} {σ : St} {vs : List Nat} {a : G} {tt : M Bool} {te : M RV} {J : It}
theorem RpL.append {B : Ad} {H : Hp} {v : V} {d : D} (r : Rp K B H v d) : ∀ {vs : List V} {ds : List D}, RpL K B H vs ds → RpL K B H (vs ++ [v]) (ds ++ [d])
  | _, _, .nil => .cons r .nil
  | _, _, .cons a b => .cons a (RpL.append r b)
theorem lcL_noexc : ∀ {ds : List D} {e e' : En} {x : Xc}, lcL vs a tt te ds e ≠ .exc x e'
  | [], _, _, _ => fun h => by cases h
  | d :: ds, e, e', x => fun h => by
    unfold lcL at h
    cases w : a d e with
    | none => simp only [w] at h; cases h
    | some e1 =>
      simp only [w] at h
      cases w2 : tt e1 with
      | bad => simp only [w2] at h; cases h
      | exc x e2 => simp only [w2] at h; cases h
      | ok b e2 =>
        cases b with
        | true =>
          simp only [w2] at h
          cases w3 : M.bind te M.esc e2 with
          | bad => simp only [w3] at h; cases h
          | exc x e2 => simp only [w3] at h; cases h
          | ok y e3 =>
            simp only [w3] at h
            split at h
            · cases w4 : lcL vs a tt te ds (wipeE e3 vs) with
              | bad => simp only [w4] at h; cases h
              | exc x2 e5 => exact lcL_noexc w4
              | ok ys e5 => simp only [w4] at h; cases h
            · cases h
        | false =>
          simp only [w2] at h
          split at h
          · exact lcL_noexc h
          · cases h
theorem mem_wipe_eq {σ σ2 : St} (hl : σ2.length = σ.length) (h : ∀ i, i ∉ vs → getS σ2 i = getS σ i) : L2.wipe σ2 vs = L2.wipe σ vs := by
  have key : ∀ (s t : St), s.length = t.length → (∀ i, getS s i = getS t i) → s = t := by
    intro s
    induction s with
    | nil => intro t h1 _; cases t with
      | nil => rfl
      | cons _ _ => simp at h1
    | cons x s ih =>
      intro t h1 h2
      cases t with
      | nil => simp at h1
      | cons y t =>
        have e0 : x = y := h2 0
        have e1 := ih t (by simpa using h1) fun i => h2 (i + 1)
        rw [e0, e1]
  refine key _ _ (by rw [wipe_length, wipe_length, hl]) fun i => ?_
  by_cases hi : i ∈ vs
  · have z : ∀ (s : St) (ws : List Nat), i ∈ ws → getS (L2.wipe s ws) i = none := by
      intro s ws
      induction ws with
      | nil => intro q; cases q
      | cons w ws ih =>
        intro q
        unfold L2.wipe
        by_cases hw : w = i
        · subst hw
          by_cases hlt : w < (L2.wipe s ws).length
          · exact getS_set_same hlt
          · cases w' : getS ((L2.wipe s ws).set w none) w with
            | none => rfl
            | some v =>
              have := getS_lt w'
              rw [List.length_set] at this
              exact absurd this hlt
        · rw [getS_set_ne hw]
          rcases List.mem_cons.mp q with q | q
          · exact absurd q.symm hw
          · exact ih q
    rw [z _ _ hi, z _ _ hi]
  · rw [getS_wipe_out hi, getS_wipe_out hi]; exact h i hi
/-- the loop of a comprehension: acc is made so far at the new list p -/
theorem lc_run {F : Fx} {H : Hp} {e e9 : En} {p : Addr} {ds ys acc : List D} {Qd : Hp → Prop} {ts : List Nat} (hts : ∀ i, i ∈ ts → i ∈ vs) (R : Rel K F (L2.wipe σ vs) H e) (hp : F.bx p) (hacc : OwnAt K (Bd F (L2.wipe σ vs) e) H p (.lst acc)) (hJ : ItOk K J (Bd F (L2.wipe σ vs) e) H ds)
    (hr : lcL vs a tt te ds e = .ok ys e9) (hz : acc.length + ys.length ≤ sizeLine)
    (hQ : ∀ F' H', Rel K F' (L2.wipe σ vs) H' e9 → Stp (fun b => Own (L2.wipe σ vs) e b ∨ b = p) H H' → (∀ b, Own (L2.wipe σ vs) e9 b → Own (L2.wipe σ vs) e b ∨ H b = none) → Le F F' H → OwnAt K (Bd F' (L2.wipe σ vs) e9) H' p (.lst (acc ++ ys)) → Qd H') :
    ∃ W : Nat → Nat → Hp → Prop, (∃ m, W 0 m H) ∧ ∀ i m H, W i m H →
      (J.stop i H ∧ Qd H) ∨ (J.go i H ∧ ∃ Nx : Hp → Prop, (∀ H', Nx H' → ∃ m', m' < m ∧ W (i + 1) m' H') ∧ ∀ x H', J.yld i H x H' → tG K ts a x (L2.wipe σ vs) H' fun σ2 H2 => L2.wipe σ2 vs = L2.wipe σ vs ∧ tT Wno K tt σ2 H2 fun b H3 =>
        if b = true then tE Wno K te σ2 H3 fun y H4 => ∃ acc, H4 p = some (.lst acc) ∧ acc.length < sizeLine ∧ Nx (upd H4 p (.lst (acc ++ [y]))) else Nx H3) := by
  obtain ⟨⟨Sx, s0, st, sx⟩⟩ := hJ
  refine ⟨fun i m H' => i + m = ds.length ∧ ∃ F' e' ac zs, Rel K F' (L2.wipe σ vs) H' e' ∧ Sx (Bd F' (L2.wipe σ vs) e') H' ∧ F'.bx p ∧ OwnAt K (Bd F' (L2.wipe σ vs) e') H' p (.lst ac) ∧ lcL vs a tt te (ds.drop i) e' = .ok zs e9 ∧ ac ++ zs = acc ++ ys ∧
      Stp (fun b => Own (L2.wipe σ vs) e b ∨ b = p) H H' ∧ (∀ b, Own (L2.wipe σ vs) e' b → Own (L2.wipe σ vs) e b ∨ H b = none) ∧ Le F F' H, ⟨ds.length, by simp, F, e, acc, ys, R, s0, hp, hacc, hr, rfl, .refl, fun _ z => .inl z, .refl⟩, ?_⟩
  rintro i m H' ⟨him, F', e', ac, zs, R', s', hp', ho, hl, hac, stp, ow, le⟩
  obtain ⟨go, stop⟩ := sx _ _ s' R'.trk
  by_cases hi : i < ds.length
  · have hd : ds[i]? = some ds[i] := List.getElem?_eq_getElem hi
    obtain ⟨hgo, hy⟩ := go i _ hd
    refine .inr ⟨hgo, fun H2 => ∃ F' e' ac zs, Rel K F' (L2.wipe σ vs) H2 e' ∧ Sx (Bd F' (L2.wipe σ vs) e') H2 ∧ F'.bx p ∧ OwnAt K (Bd F' (L2.wipe σ vs) e') H2 p (.lst ac) ∧ lcL vs a tt te (ds.drop (i + 1)) e' = .ok zs e9 ∧ ac ++ zs = acc ++ ys ∧
      Stp (fun b => Own (L2.wipe σ vs) e b ∨ b = p) H H2 ∧ (∀ b, Own (L2.wipe σ vs) e' b → Own (L2.wipe σ vs) e b ∨ H b = none) ∧ Le F F' H, fun H2 q => ⟨m - 1, by omega, by omega, q⟩, fun x H2 y => ?_⟩
    obtain ⟨sm, rp⟩ := hy x H2 y
    have pS := Post.same R' sm
    rw [List.drop_eq_getElem_cons hi] at hl
    unfold lcL at hl
    cases w : a ds[i] e' with
    | none => simp only [w] at hl; cases hl
    | some e2 =>
      simp only [w] at hl
      refine ⟨F', e', ds[i], e2, pS.rel, rp, w, fun F3 σ3 H3 p3 o3 => ⟨mem_wipe_eq (by rw [o3.1, wipe_length]) fun j hj => ?_, F3, e2, p3.rel, ?_⟩⟩
      · rw [o3.2 j fun z => hj (hts j z), getS_wipe_out hj]
      · have pT := pS.trans p3
        have out3 : ∀ i, i ∉ vs → getS σ3 i = getS (L2.wipe σ vs) i := fun i hi => o3.2 i fun z => hi (hts i z)
        -- the end of a turn
        have fin : ∀ {F4 : Fx} {H4 : Hp} {e4 : En} {zs' : List D}, Post K F' (L2.wipe σ vs) H' e' F4 σ3 H4 e4 → noMu e4 vs = true → lcL vs a tt te (ds.drop (i + 1)) (wipeE e4 vs) = .ok zs' e9 → ac ++ zs' = acc ++ ys →
            ∃ F' e' ac zs, Rel K F' (L2.wipe σ vs) H4 e' ∧ Sx (Bd F' (L2.wipe σ vs) e') H4 ∧ F'.bx p ∧ OwnAt K (Bd F' (L2.wipe σ vs) e') H4 p (.lst ac) ∧ lcL vs a tt te (ds.drop (i + 1)) e' = .ok zs e9 ∧ ac ++ zs = acc ++ ys ∧
              Stp (fun b => Own (L2.wipe σ vs) e b ∨ b = p) H H4 ∧ (∀ b, Own (L2.wipe σ vs) e' b → Own (L2.wipe σ vs) e b ∨ H b = none) ∧ Le F F' H := fun {F4 H4 e4 zs'} p4 nm hl' hac' => by
          obtain ⟨Rw, oww⟩ := p4.rel.wipe' (σ' := L2.wipe σ vs) nm (by rw [o3.1]) fun i hi => (out3 i hi).symm
          have p5 : Post K F' (L2.wipe σ vs) H' e' F4 (L2.wipe σ vs) H4 (wipeE e4 vs) := ⟨Rw, p4.stp, fun b z => p4.ow b (oww b z), p4.le⟩
          refine ⟨F4, _, ac, zs', Rw, st _ _ _ _ s' p5.k1 p5.k2, p4.le.up p hp', ho.step p5.k1 p5.k2 (p5.around R' hp'), hl', hac', stp.trans (p5.stp) fun b z => ?_, fun b z => (p5.ow b z).elim (ow b) fun z => .inr (stp.back b z), ⟨p5.le.pn.trans le.pn, fun b z => p5.le.up b (le.up b z), fun b z => (p5.le.dn b z).elim (le.dn b) fun z => .inr (stp.back b z)⟩⟩
          exact (ow b z).elim (fun z => .inl (.inl z)) .inr
        cases w2 : tt e2 with
        | bad => simp only [w2] at hl; cases hl
        | exc x e3 => simp only [w2] at hl; cases hl
        | ok b e3 =>
          intro F4 H4 p4
          cases b with
          | false =>
            simp only [w2] at hl
            split at hl
            · rename_i nm
              exact fin (pT.trans p4) nm hl hac
            · cases hl
          | true =>
            simp only [w2] at hl
            refine ⟨F4, e3, p4.rel, esc_of p4.rel (k := fun y F5 e5 H5 => Post K F' (L2.wipe σ vs) H' e' F5 σ3 H5 e5 ∧ noMu e5 vs = true ∧ ∃ zs', lcL vs a tt te (ds.drop (i + 1)) (wipeE e5 vs) = .ok zs' e9 ∧ zs = y :: zs') (fun y F5 e5 H5 v ⟨p5, nm, zs', hl', ez⟩ rpv => ?_) ?_⟩
            · subst ez
              have ho5 := ho.step p5.k1 p5.k2 (p5.around R' hp')
              obtain ⟨avs, hav, rav⟩ := ho5
              have hp5 := p5.le.up p hp'
              have hlen : avs.length < sizeLine := by
                have e1 := congrArg List.length hac
                simp only [List.length_append, List.length_cons] at e1
                rw [rav.length]; omega
              refine ⟨avs, hav, hlen, ?_⟩
              obtain ⟨Rw, oww⟩ := (p5.rel.updX (o := .lst (avs ++ [v])) hp5).wipe' (σ' := L2.wipe σ vs) nm (by rw [o3.1]) fun i hi => (out3 i hi).symm
              have kk1 : ∀ a o, H5 a = some o → ¬ Bd F5 σ3 e5 a → upd H5 p (.lst (avs ++ [v])) a = some o := fun a o q n => by
                have hne : a ≠ p := fun z => n (.inl (by rw [z]; exact hp5))
                rw [upd_ne hne]; exact q
              have kk2 : ∀ a, Bd F5 (L2.wipe σ vs) (wipeE e5 vs) a → Bd F5 σ3 e5 a ∨ H5 a = none := fun a z => .inl (z.elim .inl fun z => .inr (oww a z))
              refine ⟨F5, _, ac ++ [y], zs', Rw, st _ _ _ _ (st _ _ _ _ s' p5.k1 p5.k2) kk1 kk2, hp5, ⟨_, upd_same, ?_⟩, hl', ?_, ?_, fun b z => (p5.ow b (oww b z)).elim (ow b) fun z => .inr (stp.back b z), ⟨p5.le.pn.trans le.pn, fun b z => p5.le.up b (le.up b z), fun b z => (p5.le.dn b z).elim (le.dn b) fun z => .inr (stp.back b z)⟩⟩
              · exact RpL.append (rpv.step kk1 kk2) (rav.step kk1 kk2)
              · rw [List.append_assoc]; exact hac
              · refine ⟨fun b o q n => ?_, fun b q => ?_⟩
                · have hne : b ≠ p := fun z => n (.inr z)
                  rw [upd_ne hne]
                  exact p5.stp.keep b o (stp.keep b o q n) fun z => (ow b z).elim (fun z => n (.inl z)) fun z => by rw [q] at z; cases z
                · refine stp.back b (p5.stp.back b ?_)
                  by_cases hb : b = p
                  · rw [hb, upd_same] at q; cases q
                  · rw [upd_ne hb] at q; exact q
            · cases w3 : M.bind te M.esc e3 with
              | bad => simp only [w3] at hl; cases hl
              | exc x e5 => simp only [w3] at hl; cases hl
              | ok y e5 =>
                simp only [w3] at hl
                split at hl
                · rename_i nm
                  cases w4 : lcL vs a tt te (ds.drop (i + 1)) (wipeE e5 vs) with
                  | bad => simp only [w4] at hl; cases hl
                  | exc x2 e6 => exact absurd w4 lcL_noexc
                  | ok zs' e6 =>
                    simp only [w4] at hl
                    cases hl
                    exact fun F6 H6 p6 => ⟨(pT.trans p4).trans p6, nm, zs', w4, rfl⟩
                · cases hl
  · have e1 : i = ds.length := by omega
    subst e1
    rw [List.drop_eq_nil_of_le (Nat.le_refl _)] at hl
    unfold lcL at hl
    cases hl
    rw [List.append_nil] at hac
    subst hac
    exact .inl ⟨stop, hQ F' H' R' stp ow le ho⟩
def Wiped (vs : List Nat) (e : En) : Prop := ∀ i, i ∈ vs → getE e i = none
theorem wiped_wipe {e : En} : Wiped vs (wipeE e vs) := fun i hi => by
  cases w : getE (wipeE e vs) i with
  | none => rfl
  | some x => exact absurd hi (getE_wipe w).1
theorem lcL_wiped : ∀ {ds ys : List D} {e e' : En}, Wiped vs e → lcL vs a tt te ds e = .ok ys e' → Wiped vs e'
  | [], _, _, _, hw, h => by unfold lcL at h; cases h; exact hw
  | d :: ds, ys, e, e', hw, h => by
    unfold lcL at h
    cases w : a d e with
    | none => simp only [w] at h; cases h
    | some e1 =>
      simp only [w] at h
      cases w2 : tt e1 with
      | bad => simp only [w2] at h; cases h
      | exc x e2 => simp only [w2] at h; cases h
      | ok b e2 =>
        cases b with
        | true =>
          simp only [w2] at h
          cases w3 : M.bind te M.esc e2 with
          | bad => simp only [w3] at h; cases h
          | exc x e2 => simp only [w3] at h; cases h
          | ok y e3 =>
            simp only [w3] at h
            split at h
            · cases w4 : lcL vs a tt te ds (wipeE e3 vs) with
              | bad => simp only [w4] at h; cases h
              | exc x2 e5 => simp only [w4] at h; cases h
              | ok ys e5 => simp only [w4] at h; cases h; exact lcL_wiped wiped_wipe w4
            · cases h
        | false =>
          simp only [w2] at h
          split at h
          · exact lcL_wiped wiped_wipe h
          · cases h
theorem Rel.swap {F : Fx} {σ σ' : St} {H : Hp} {e : En} (R : Rel K F σ H e) (hw : Wiped vs e) (hl : σ'.length = σ.length) (hs : ∀ i, i ∉ vs → getS σ' i = getS σ i) :
    Rel K F σ' H e ∧ ∀ a, Own σ' e a ↔ Own σ e a := by
  have hn : ∀ {i x}, getE e i = some x → i ∉ vs := fun q hi => by rw [hw _ hi] at q; cases q
  have ow : ∀ a, Own σ' e a ↔ Own σ e a := fun a => ⟨fun ⟨i, f, d, q, n, s⟩ => ⟨i, f, d, q, n, by rw [← hs i (hn q)]; exact s⟩, fun ⟨i, f, d, q, n, s⟩ => ⟨i, f, d, q, n, by rw [hs i (hn q)]; exact s⟩⟩
  have bd : ∀ a, Bd F σ' e a → Bd F σ e a := fun a h => h.elim .inl fun z => .inr ((ow a).mp z)
  refine ⟨⟨by rw [hl]; exact R.len, fun i d q => ?_, fun i f d q n => ?_, fun i j f g d d' p q1 n1 q2 n2 s1 s2 => ?_, fun a z => ⟨fun w => (R.ext a z).1 ((ow a).mp w), (R.ext a z).2⟩, fun q hq => ?_⟩, ow⟩
  · obtain ⟨v, a, b⟩ := R.val i d q
    exact ⟨v, by rw [hs i (hn q)]; exact a, b.anti bd⟩
  · obtain ⟨v, a, b⟩ := R.own i f d q n
    exact ⟨v, by rw [hs i (hn q)]; exact a, b.anti bd⟩
  · rw [hs i (hn q1)] at s1
    rw [hs j (hn q2)] at s2
    exact R.dist i j f g d d' p q1 n1 q2 n2 s1 s2
  · obtain ⟨a, d, b⟩ := R.pin q hq
    exact ⟨by rw [hs _ (hn b)]; exact a, d, b⟩
theorem ItOk.step {B B' : Ad} {H H' : Hp} {ds : List D} (h : ItOk K J B H ds) (h1 : ∀ a o, H a = some o → ¬ B a → H' a = some o) (h2 : ∀ a, B' a → B a ∨ H a = none) : ItOk K J B' H' ds := by
  obtain ⟨S, s0, st, sx⟩ := h
  exact ⟨S, st _ _ _ _ s0 h1 h2, st, sx⟩
theorem lc_of {W : Wx} {f : M (List D)} {H : Hp} {Q : VK} {ts : List Nat} (hts : ∀ i, i ∈ ts → i ∈ vs) (h : tE W K (eLc vs f a tt te) σ H Q) : tLc (tI W K f) (tG K ts a) (tT Wno K tt) (tE Wno K te) vs σ H Q := by
  obtain ⟨F, e, R, h⟩ := h
  refine ⟨F, e, R, h.bind.imp fun ds F1 e1 H1 p1 h1 J hJ p np => ?_⟩
  unfold M.bind M.wipe at h1
  by_cases nm : noMu e1 vs = true
  · simp only [if_pos nm] at h1
    cases w : lcL vs a tt te ds (wipeE e1 vs) with
    | bad => simp only [w] at h1; exact h1.elim
    | exc x e2 => exact absurd w lcL_noexc
    | ok ys e9 =>
      simp only [w] at h1
      by_cases hz : ys.length ≤ sizeLine
      · simp only [if_pos hz] at h1
        obtain ⟨Rw, oww⟩ := p1.rel.wipe' (σ' := L2.wipe σ vs) nm (wipe_length _ _) fun i hi => getS_wipe_out hi
        have s := same_upd (o := .lst []) np
        have Rp' := Rw.plus s np (by rw [upd_same]; exact fun z => nomatch z)
        have hJ' : ItOk K J (Bd (F1.plus p) (L2.wipe σ vs) (wipeE e1 vs)) (upd H1 p (.lst [])) ds := hJ.step (fun a o q _ => s a o q) fun b z => by
          rcases z with (z | z) | z
          · exact .inl (.inl z)
          · exact .inr (z ▸ np)
          · exact .inl (.inr (oww b z))
        refine lc_run hts Rp' (.inr rfl) (acc := []) ⟨[], upd_same, .nil⟩ hJ' w (by simpa using hz) fun F' H' R' stp ow le o => ?_
        have hw := lcL_wiped wiped_wipe w
        obtain ⟨R9, ow9⟩ := R'.swap (σ' := σ) hw (wipe_length _ _).symm fun i hi => (getS_wipe_out hi).symm
        have np' : ∀ b, upd H1 p (.lst []) b = none → H1 b = none := fun b q => s.free q
        have ps : Post K F1 σ H1 e1 F' σ H' e9 := ⟨R9, ⟨fun b u q n => stp.keep b u (s b u q) fun z => z.elim (fun z => n (oww b z)) fun z => (by rw [z, np] at q; cases q), fun b q => np' b (stp.back b q)⟩,
          fun b z => (ow b ((ow9 b).mp z)).elim (fun z => .inl (oww b z)) fun z => .inr (np' b z), ⟨le.pn, fun b z => le.up b (.inl z), fun b z => (le.dn b z).elim (fun z => z.elim .inl fun z => .inr (z ▸ np)) fun z => .inr (np' b z)⟩⟩
        refine h1 F' H' ps _ ⟨p, rfl, p1.stp.back p np, le.up p (.inr rfl), ?_⟩
        have o : OwnAt K (Bd F' (L2.wipe σ vs) e9) H' p (.lst ys) := o
        exact o.anti fun b z => z.elim .inl fun z => .inr ((ow9 b).mp z)
      · simp only [if_neg hz] at h1; exact h1.elim
  · simp only [if_neg nm] at h1; exact h1.elim
end
section
variable {X : Cx} {W : Wx}
theorem pts_imp {X : Cx} {e : List Expr} {t u : TT} (h : PTs X e t) (k : ∀ σ H Q, u σ H Q → t σ H Q) : PTs X e u := ⟨fun pins s σ H Q I q => h.run pins s σ H Q I (k σ H Q q)⟩
abbrev PDTs (X : Cx) (W : Wx) (e : List Expr) (f : M Bool) : Prop := PTs X e (tT W X.K f)
theorem pdts_nil : PDTs X W [] eYes := pts_imp pts_nil fun σ H Q ⟨F, e, R, h⟩ => h F H (.refl R)
theorem pdts_one {c : Expr} {t : M Bool} (h : PDT X W c t) : PDTs X W [c] t := pts_one h
theorem pd_lc {elt tg iter : Expr} {ifs : List Expr} {scope : Scope} {own : List (Str × Nat)} {pos : Pos} {f : M (List D)} {a : G} {ts : List Nat} {tt : M Bool} {te : M RV} (hc : X.calm = true) (hN : X.N.Nodup) (hi : PDI X W tg iter f) (ok : BlkOk X.N X.env.scope scope own)
    (hg : ∀ (s : Shared) (H : Hp) (C : Addr) (cl : List (Str × Addr)) (fp : List Addr), PDG (X.blk s H scope (compEnvC scope cl C X.env) fp) tg ts a) (ht : ∀ (s : Shared) (H : Hp) (C : Addr) (cl : List (Str × Addr)) (fp : List Addr), PDTs (X.blk s H scope (compEnvC scope cl C X.env) fp) Wno ifs tt)
    (he : ∀ (s : Shared) (H : Hp) (C : Addr) (cl : List (Str × Addr)) (fp : List Addr), PD (X.blk s H scope (compEnvC scope cl C X.env) fp) Wno elt te) (hts : ∀ i, i ∈ ts → i ∈ own.map (·.2)) (hs : ∀ x, foldedSetIterable iter X.env x = pure x := by intro _; rfl) :
    PD X W (.ListComp elt [⟨tg, iter, ifs, 0⟩] scope pos) (eLc (own.map (·.2)) f a tt te) :=
  pe_imp (pe_lc hc hN hi ok hg ht he hs) fun _ _ _ => lc_of hts
theorem pds_setLc {i : Nat} {y : Str} {py : Pos} {elt tg iter : Expr} {ifs : List Expr} {scope : Scope} {own : List (Str × Nat)} {pos spos : Pos} {f : M (List D)} {a : G} {ts : List Nat} {tt : M Bool} {te : M RV} (hc : X.calm = true) (hN : X.N.Nodup) (hy : X.N[i]? = some y) (hyl : X.env.scope.names.lookup y = some .local)
    (hsw : swapsWith (.ListComp elt [⟨tg, iter, ifs, 0⟩] scope pos) (some (.Name y py)) spos.line X.env = pure true) (hi : PDI X W tg iter f) (ok : BlkOk X.N X.env.scope scope own)
    (hg : ∀ (s : Shared) (H : Hp) (C : Addr) (cl : List (Str × Addr)) (fp : List Addr), PDG (X.blk s H scope (compEnvC scope cl C X.env) fp) tg ts a) (ht : ∀ (s : Shared) (H : Hp) (C : Addr) (cl : List (Str × Addr)) (fp : List Addr), PDTs (X.blk s H scope (compEnvC scope cl C X.env) fp) Wno ifs tt)
    (he : ∀ (s : Shared) (H : Hp) (C : Addr) (cl : List (Str × Addr)) (fp : List Addr), PD (X.blk s H scope (compEnvC scope cl C X.env) fp) Wno elt te) (hts : ∀ i, i ∈ ts → i ∈ own.map (·.2)) (hs : ∀ x, foldedSetIterable iter X.env x = pure x := by intro _; rfl) :
    PDS X W (.Assign [.Name y py] (.ListComp elt [⟨tg, iter, ifs, 0⟩] scope pos) spos) (sSet i (eLc (own.map (·.2)) f a tt te)) :=
  ps_imp (ps_setLc hc hN hy hyl hsw hi ok hg ht he hs) fun Dn σ H ⟨F, e, R, h⟩ => lc_of hts (Q := fun x H1 => Dn.nx (σ.set i (some x)) H1) ⟨F, e, R, (set_of R h).imp fun r F1 e1 H1 p1 h1 v hv => by
    obtain ⟨F2, e2, p2, h2⟩ := h1 v hv
    exact h2 F2 _ H1 (.refl p2.rel)⟩
end
end Cw

/-! Cw, part G: defs and their calls. -/
namespace Cw
open PySem L2

inductive FR where
  | ok (r : Bool × D) (ms : List D)
  | exc (x : Xc) (ms : List D)
  | bad
/-- a def's mirror: the arguments' data; what it gives, and what the changed arguments hold then -/
abbrev Fn := List D → FR
def muA : List Bool → List V → List Addr
  | true :: ms, .ref p :: vs => p :: muA ms vs
  | _ :: ms, _ :: vs => muA ms vs
  | _, _ => []
def ArgOk (K : Fg) (B : Ad) (H : Hp) : List Bool → List V → List D → Prop
  | [], [], [] => True
  | false :: ms, v :: vs, d :: ds => Rp K B H v d ∧ ArgOk K B H ms vs ds
  | true :: ms, v :: vs, d :: ds => (∃ p, v = .ref p ∧ B p ∧ OwnAt K B H p d) ∧ ArgOk K B H ms vs ds
  | _, _, _ => False
def MuOk (K : Fg) (B : Ad) (H : Hp) : List Addr → List D → Prop
  | [], [] => True
  | p :: ps, d :: ds => OwnAt K B H p d ∧ MuOk K B H ps ds
  | _, _ => False
def FnEnd (K : Fg) (B : Ad) (H : Hp) (mu : List Addr) (Q : VK) (E : XK) : FR → Prop
  | .ok (false, d) ms => ∀ v H', Stp (· ∈ mu) H H' → Rp K B H' v d → MuOk K B H' mu ms → Q v H'
  | .ok (true, d) ms => ∀ p H', Stp (· ∈ mu) H H' → H p = none → OwnAt K (Bp B p) H' p d → MuOk K (Bp B p) H' mu ms → Q (.ref p) H'
  | .exc x ms => ∀ cls d H', Stp (· ∈ mu) H H' → XcOk K B H' cls d x → MuOk K B H' mu ms → E cls d H'
  | .bad => False
/-- the promise: the def does what F says -/
def spD (K : Fg) (modes : List Bool) (F : Fn) : Sp := fun vs H Q E =>
  ∃ B ds, ArgOk K B H modes vs ds ∧ (muA modes vs).Nodup ∧ (∀ a, B a → H a ≠ none) ∧ FnEnd K B H (muA modes vs) Q E (F ds)
theorem ArgOk.length {K : Fg} {B : Ad} {H : Hp} : ∀ {ms : List Bool} {vs : List V} {ds : List D}, ArgOk K B H ms vs ds → vs.length = ms.length ∧ ds.length = ms.length
  | [], [], [], _ => ⟨rfl, rfl⟩
  | false :: ms, v :: vs, d :: ds, h => by
    have := ArgOk.length h.2
    simp only [List.length_cons]; omega
  | true :: ms, v :: vs, d :: ds, h => by
    have := ArgOk.length h.2
    simp only [List.length_cons]; omega

/-! ### a body's mirror as a def's mirror -/
def initE : List Bool → List D → En
  | false :: ms, d :: ds => some (.sh, d) :: initE ms ds
  | true :: ms, d :: ds => some (.mu, d) :: initE ms ds
  | _, _ => []
/-- what the changed parameters hold -/
def muOf : List Bool → En → Option (List D)
  | [], _ => some []
  | false :: ms, _ :: e => muOf ms e
  | true :: ms, some (.mu, d) :: e => match muOf ms e with
    | some ds => some (d :: ds)
    | none => none
  | _, _ => none
def finR (modes : List Bool) : SR → FR
  | .nx e => match muOf modes e with
    | some ms => .ok (false, .non) ms
    | none => .bad
  | .rt (.sh d) e => match muOf modes e with
    | some ms => .ok (false, d) ms
    | none => .bad
  | .rt (.fr d) e => match muOf modes e with
    | some ms => .ok (true, d) ms
    | none => .bad
  | .rt (.sl i) e => match muOf modes e, getE e i with
    | some ms, some (.sh, d) => .ok (false, d) ms
    | some ms, some (.ow, d) => .ok (true, d) ms
    | _, _ => .bad
  | .exc x e => match muOf modes e with
    | some ms => .exc x ms
    | none => .bad
  | _ => .bad
def fnOf (n : Nat) (modes : List Bool) (g : S) : Fn := fun ds => finR modes (g (initE modes ds ++ List.replicate (n - modes.length) none))

section
variable {K : Fg} {B : Ad} {H : Hp}
theorem muA_mem_B : ∀ {ms : List Bool} {vs : List V} {ds : List D}, ArgOk K B H ms vs ds → ∀ p, p ∈ muA ms vs → B p
  | [], [], [], _, p, h => by cases h
  | false :: ms, v :: vs, d :: ds, ⟨_, h⟩, p, hp => by
    have : muA (false :: ms) (v :: vs) = muA ms vs := by cases v <;> rfl
    rw [this] at hp
    exact muA_mem_B h p hp
  | true :: ms, v :: vs, d :: ds, ⟨⟨q, e, b, _⟩, h⟩, p, hp => by
    subst e
    rcases List.mem_cons.mp hp with z | z
    · rw [z]; exact b
    · exact muA_mem_B h p z
/-- the slots at the entry -/
theorem init_get : ∀ {ms : List Bool} {vs : List V} {ds : List D}, ArgOk K B H ms vs ds → ∀ (k : Nat) i f d, getE (initE ms ds ++ List.replicate k none) i = some (f, d) →
    ∃ v, getS (vs.map some ++ List.replicate k none) i = some v ∧ ((f = .sh ∧ Rp K B H v d) ∨ (f = .mu ∧ ∃ p, v = .ref p ∧ p ∈ muA ms vs ∧ OwnAt K B H p d))
  | [], [], [], _, k, i, f, d, h => by
    exfalso
    have : ∀ (k i : Nat) (x : Fl × D), getE (List.replicate k none) i ≠ some x := by
      intro k
      induction k with
      | zero => intro i x h; cases h
      | succ k ih =>
        intro i x h
        cases i with
        | zero => cases h
        | succ i => exact ih i x h
    exact this k i _ h
  | false :: ms, v :: vs, d0 :: ds, ⟨r, hr⟩, k, 0, f, d, h => by
    cases h
    exact ⟨v, rfl, .inl ⟨rfl, r⟩⟩
  | true :: ms, v :: vs, d0 :: ds, ⟨⟨p, e, b, o⟩, hr⟩, k, 0, f, d, h => by
    cases h
    subst e
    exact ⟨_, rfl, .inr ⟨rfl, p, rfl, List.mem_cons_self .., o⟩⟩
  | false :: ms, v :: vs, d0 :: ds, ⟨r, hr⟩, k, i + 1, f, d, h => by
    obtain ⟨v', a, b⟩ := init_get hr k i f d h
    have em : muA (false :: ms) (v :: vs) = muA ms vs := by cases v <;> rfl
    exact ⟨v', a, by rw [em]; exact b⟩
  | true :: ms, v :: vs, d0 :: ds, ⟨⟨p, e, b, o⟩, hr⟩, k, i + 1, f, d, h => by
    subst e
    obtain ⟨v', a, c⟩ := init_get hr k i f d h
    refine ⟨v', a, c.imp id ?_⟩
    rintro ⟨f, q, e, m, o⟩
    exact ⟨f, q, e, List.mem_cons_of_mem _ m, o⟩
theorem init_len : ∀ {ms : List Bool} {vs : List V} {ds : List D}, ArgOk K B H ms vs ds → (initE ms ds).length = vs.length
  | [], [], [], _ => rfl
  | false :: ms, v :: vs, d :: ds, ⟨_, h⟩ => congrArg (· + 1) (init_len h)
  | true :: ms, v :: vs, d :: ds, ⟨_, h⟩ => congrArg (· + 1) (init_len h)
/-- the changed parameters' slots and addresses -/
def pinsOf : Nat → List Bool → List V → List (Nat × Addr)
  | i, true :: ms, .ref p :: vs => (i, p) :: pinsOf (i + 1) ms vs
  | i, _ :: ms, _ :: vs => pinsOf (i + 1) ms vs
  | _, _, _ => []
theorem pins_get : ∀ {ms : List Bool} {vs : List V} {ds : List D}, ArgOk K B H ms vs ds → ∀ (k j : Nat) q, q ∈ pinsOf j ms vs → j ≤ q.1 ∧ getS (vs.map some ++ List.replicate k none) (q.1 - j) = some (.ref q.2) ∧ ∃ d, getE (initE ms ds ++ List.replicate k none) (q.1 - j) = some (.mu, d)
  | [], [], [], _, k, j, q, h => by cases h
  | false :: ms, v :: vs, d :: ds, ⟨_, h⟩, k, j, q, hq => by
    have em : pinsOf j (false :: ms) (v :: vs) = pinsOf (j + 1) ms vs := by cases v <;> rfl
    rw [em] at hq
    obtain ⟨h1, h2, h3⟩ := pins_get h k (j + 1) q hq
    have e : q.1 - j = (q.1 - (j + 1)) + 1 := by omega
    rw [e]
    exact ⟨by omega, h2, h3⟩
  | true :: ms, v :: vs, d :: ds, ⟨⟨p, e, b, o⟩, h⟩, k, j, q, hq => by
    subst e
    rcases List.mem_cons.mp hq with z | z
    · subst z
      have e : j - j = 0 := by omega
      rw [show ((j, p) : Nat × Addr).1 = j from rfl, e]
      exact ⟨Nat.le_refl _, rfl, d, rfl⟩
    · obtain ⟨h1, h2, h3⟩ := pins_get h k (j + 1) q z
      have e : q.1 - j = (q.1 - (j + 1)) + 1 := by omega
      rw [e]
      exact ⟨by omega, h2, h3⟩
theorem pins_muA : ∀ {ms : List Bool} {vs : List V} {ds : List D}, ArgOk K B H ms vs ds → ∀ j, (pinsOf j ms vs).map (·.2) = muA ms vs
  | [], [], [], _, _ => rfl
  | false :: ms, v :: vs, d :: ds, ⟨_, h⟩, j => by
    have e1 : pinsOf j (false :: ms) (v :: vs) = pinsOf (j + 1) ms vs := by cases v <;> rfl
    have e2 : muA (false :: ms) (v :: vs) = muA ms vs := by cases v <;> rfl
    rw [e1, e2]; exact pins_muA h (j + 1)
  | true :: ms, v :: vs, d :: ds, ⟨⟨p, e, _⟩, h⟩, j => by
    subst e
    show p :: (pinsOf (j + 1) ms vs).map (·.2) = p :: muA ms vs
    rw [pins_muA h (j + 1)]
/-- what the pinned slots hold at the end -/
theorem mu_end {e : En} : ∀ {ms : List Bool} {vs : List V} {ds ds' : List D}, ArgOk K B H ms vs ds → ∀ (e : En), muOf ms e = some ds' → ∀ (B' : Ad) (H' : Hp),
    (∀ i p, (i, p) ∈ pinsOf 0 ms vs → ∀ d, getE e i = some (.mu, d) → OwnAt K B' H' p d) → MuOk K B' H' (muA ms vs) ds'
  | [], [], [], ds', _, e, hm, B', H', hp => by
    cases e <;> (cases hm; exact trivial)
  | false :: ms, v :: vs, d :: ds, ds', ⟨_, h⟩, e, hm, B', H', hp => by
    have e2 : muA (false :: ms) (v :: vs) = muA ms vs := by cases v <;> rfl
    have e1 : pinsOf 0 (false :: ms) (v :: vs) = pinsOf 1 ms vs := by cases v <;> rfl
    rw [e2]
    cases e with
    | nil => cases hm
    | cons x e =>
      refine mu_end (e := e) h e hm B' H' fun i p hi d q => hp (i + 1) p ?_ d q
      rw [e1]
      have sh : ∀ (ms : List Bool) (vs : List V) (j i : Nat) (p : Addr), (i, p) ∈ pinsOf j ms vs → (i + 1, p) ∈ pinsOf (j + 1) ms vs := by
        intro ms
        induction ms with
        | nil => intro vs j i p h; cases vs <;> cases h
        | cons m ms ih =>
          intro vs j i p h
          cases vs with
          | nil => cases m <;> cases h
          | cons v vs =>
            cases m with
            | false =>
              have a1 : pinsOf j (false :: ms) (v :: vs) = pinsOf (j + 1) ms vs := by cases v <;> rfl
              have a2 : pinsOf (j + 1) (false :: ms) (v :: vs) = pinsOf (j + 2) ms vs := by cases v <;> rfl
              rw [a1] at h; rw [a2]; exact ih vs _ _ _ h
            | true =>
              cases v with
              | ref q =>
                rcases List.mem_cons.mp h with z | z
                · cases z; exact List.mem_cons_self ..
                · exact List.mem_cons_of_mem _ (ih vs _ _ _ z)
              | _ => exact ih vs _ _ _ h
      exact sh ms vs 0 i p hi
  | true :: ms, v :: vs, d :: ds, ds', ⟨⟨p, ep, _⟩, h⟩, e, hm, B', H', hp => by
    subst ep
    cases e with
    | nil => cases hm
    | cons x e =>
      cases x with
      | none => cases hm
      | some x =>
        obtain ⟨f, d0⟩ := x
        cases f with
        | sh => cases hm
        | ow => cases hm
        | mu =>
          unfold muOf at hm
          cases w : muOf ms e with
          | none => simp only [w] at hm; cases hm
          | some dr =>
            simp only [w] at hm
            cases hm
            refine ⟨hp 0 p (List.mem_cons_self ..) d0 rfl, mu_end (e := e) h e w B' H' fun i p' hi d q => hp (i + 1) p' (List.mem_cons_of_mem _ ?_) d q⟩
            have sh : ∀ (ms : List Bool) (vs : List V) (j i : Nat) (p : Addr), (i, p) ∈ pinsOf j ms vs → (i + 1, p) ∈ pinsOf (j + 1) ms vs := by
              intro ms
              induction ms with
              | nil => intro vs j i p h; cases vs <;> cases h
              | cons m ms ih =>
                intro vs j i p h
                cases vs with
                | nil => cases m <;> cases h
                | cons v vs =>
                  cases m with
                  | false =>
                    have a1 : pinsOf j (false :: ms) (v :: vs) = pinsOf (j + 1) ms vs := by cases v <;> rfl
                    have a2 : pinsOf (j + 1) (false :: ms) (v :: vs) = pinsOf (j + 2) ms vs := by cases v <;> rfl
                    rw [a1] at h; rw [a2]; exact ih vs _ _ _ h
                  | true =>
                    cases v with
                    | ref q =>
                      rcases List.mem_cons.mp h with z | z
                      · cases z; exact List.mem_cons_self ..
                      · exact List.mem_cons_of_mem _ (ih vs _ _ _ z)
                    | _ => exact ih vs _ _ _ h
            exact sh ms vs 0 i p' hi
end
section
variable {K : Fg} {B : Ad} {H : Hp}
theorem init_dist : ∀ {ms : List Bool} {vs : List V} {ds : List D}, ArgOk K B H ms vs ds → (muA ms vs).Nodup → ∀ (k i j : Nat) (d d' : D) (p : Addr), getE (initE ms ds ++ List.replicate k none) i = some (.mu, d) → getE (initE ms ds ++ List.replicate k none) j = some (.mu, d') →
    getS (vs.map some ++ List.replicate k none) i = some (.ref p) → getS (vs.map some ++ List.replicate k none) j = some (.ref p) → i = j
  | [], [], [], h, nd, k, i, j, d, d', p, h1, h2, s1, s2 => by
    obtain ⟨v, _, q⟩ := init_get h k i _ _ h1
    rcases q with ⟨z, _⟩ | ⟨_, p, _, m, _⟩
    · cases z
    · cases m
  | false :: ms, v :: vs, d0 :: ds, ⟨r, hr⟩, nd, k, i, j, d, d', p, h1, h2, s1, s2 => by
    have em : muA (false :: ms) (v :: vs) = muA ms vs := by cases v <;> rfl
    rw [em] at nd
    cases i with
    | zero => cases h1
    | succ i =>
      cases j with
      | zero => cases h2
      | succ j => exact congrArg (· + 1) (init_dist hr nd k i j d d' p h1 h2 s1 s2)
  | true :: ms, v :: vs, d0 :: ds, ⟨⟨q, e, b, o⟩, hr⟩, nd, k, i, j, d, d', p, h1, h2, s1, s2 => by
    subst e
    obtain ⟨n1, n2⟩ := List.nodup_cons.mp nd
    have key : ∀ (j : Nat) (d' : D), getE (initE ms ds ++ List.replicate k none) j = some (.mu, d') → getS (vs.map some ++ List.replicate k none) j ≠ some (.ref q) := fun j d' h2 s2 => by
      obtain ⟨v', a, c⟩ := init_get hr k j _ _ h2
      rcases c with ⟨z, _⟩ | ⟨_, p', e', m, _⟩
      · cases z
      · rw [s2] at a; cases a
        cases e'
        exact n1 m
    cases i with
    | zero =>
      cases s1
      cases j with
      | zero => rfl
      | succ j => exact absurd s2 (key j d' h2)
    | succ i =>
      cases j with
      | zero => cases s2; exact absurd s1 (key i d h1)
      | succ j => exact congrArg (· + 1) (init_dist hr n2 k i j d d' p h1 h2 s1 s2)
theorem own_init {ms : List Bool} {vs : List V} {ds : List D} (h : ArgOk K B H ms vs ds) (k : Nat) (a : Addr) : Own (vs.map some ++ List.replicate k none) (initE ms ds ++ List.replicate k none) a ↔ a ∈ muA ms vs := by
  constructor
  · rintro ⟨i, f, d, q, n, s⟩
    obtain ⟨v, b, c⟩ := init_get h k i f d q
    rcases c with ⟨z, _⟩ | ⟨_, p, e, m, _⟩
    · exact absurd z n
    · rw [s] at b; cases b
      cases e; exact m
  · intro hm
    rw [← pins_muA h 0] at hm
    obtain ⟨q, hq, e⟩ := List.mem_map.mp hm
    obtain ⟨_, h2, d, h3⟩ := pins_get h k 0 q hq
    exact ⟨_, .mu, d, h3, by decide, e ▸ h2⟩
theorem rel_init {ms : List Bool} {vs : List V} {ds : List D} (h : ArgOk K B H ms vs ds) (nd : (muA ms vs).Nodup) (tr : ∀ a, B a → H a ≠ none) (k : Nat) :
    Rel K ⟨fun a => B a ∧ a ∉ muA ms vs, pinsOf 0 ms vs⟩ (vs.map some ++ List.replicate k none) H (initE ms ds ++ List.replicate k none) := by
  have bd : ∀ a, Bd ⟨fun a => B a ∧ a ∉ muA ms vs, pinsOf 0 ms vs⟩ (vs.map some ++ List.replicate k none) (initE ms ds ++ List.replicate k none) a → B a := fun a z => by
    rcases z with z | z
    · exact z.1
    · exact muA_mem_B h a ((own_init h k a).mp z)
  refine ⟨by rw [List.length_append, List.length_append, List.length_map, init_len h, List.length_replicate, List.length_replicate], fun i d q => ?_, fun i f d q n => ?_, fun i j f g d d' p q1 n1 q2 n2 s1 s2 => ?_, fun a z => ⟨fun w => z.2 ((own_init h k a).mp w), tr a z.1⟩, fun q hq => ?_⟩
  · obtain ⟨v, a, c⟩ := init_get h k i _ d q
    rcases c with ⟨_, r⟩ | ⟨z, _⟩
    · exact ⟨v, a, r.anti bd⟩
    · cases z
  · obtain ⟨v, a, c⟩ := init_get h k i f d q
    rcases c with ⟨z, _⟩ | ⟨_, p, e, m, o⟩
    · exact absurd z n
    · exact ⟨p, e ▸ a, o.anti bd⟩
  · have m1 : f = .mu := by
      obtain ⟨v, a, c⟩ := init_get h k i f d q1
      rcases c with ⟨z, _⟩ | ⟨z, _⟩
      · exact absurd z n1
      · exact z
    have m2 : g = .mu := by
      obtain ⟨v, a, c⟩ := init_get h k j g d' q2
      rcases c with ⟨z, _⟩ | ⟨z, _⟩
      · exact absurd z n2
      · exact z
    subst m1 m2
    exact init_dist h nd k i j d d' p q1 q2 s1 s2
  · obtain ⟨_, h2, h3⟩ := pins_get h k 0 q hq
    exact ⟨h2, h3⟩
/-- from the promise to the body -/
theorem body_of {W : Wx} {E : XK} {modes : List Bool} {g : S} {n : Nat} {vs : List V} {Q : VK} (hW : ∀ cls d σ H, E cls d H → W cls d σ H) (hsp : spD K modes (fnOf n modes g) vs H Q E) :
    tS W K g { nx := fun _ H' => Q .non H', rt := Q } (vs.map some ++ List.replicate (n - vs.length) none) H := by
  obtain ⟨B, ds, ha, nd, tr, fe⟩ := hsp
  have hl := ha.length
  unfold fnOf at fe
  rw [← hl.1] at fe
  have R := rel_init ha nd tr (n - vs.length)
  refine ⟨_, _, R, ?_⟩
  -- what the end gives
  have mu : ∀ {F' σ' H' e' ms}, Post K ⟨fun a => B a ∧ a ∉ muA modes vs, pinsOf 0 modes vs⟩ (vs.map some ++ List.replicate (n - vs.length) none) H (initE modes ds ++ List.replicate (n - vs.length) none) F' σ' H' e' → muOf modes e' = some ms → ∀ B' : Ad, (∀ a, B' a → Bd F' σ' e' a) → MuOk K B' H' (muA modes vs) ms := fun {F' σ' H' e' ms} p hm B' hb => by
    refine mu_end (e := e') ha e' hm B' H' fun i q hq d hd => ?_
    have hq' : (i, q) ∈ F'.pn := by rw [p.le.pn]; exact hq
    obtain ⟨s1, _⟩ := p.rel.pin _ hq'
    obtain ⟨q', s2, o⟩ := p.rel.own i .mu d hd (by decide)
    rw [s1] at s2; cases s2
    exact o.anti hb
  have bb : ∀ {F' σ' H' e'}, Post K ⟨fun a => B a ∧ a ∉ muA modes vs, pinsOf 0 modes vs⟩ (vs.map some ++ List.replicate (n - vs.length) none) H (initE modes ds ++ List.replicate (n - vs.length) none) F' σ' H' e' → ∀ a, B a → Bd F' σ' e' a := fun {F' σ' H' e'} p a ba => by
    by_cases hm : a ∈ muA modes vs
    · rw [← pins_muA ha 0] at hm
      obtain ⟨q, hq, e⟩ := List.mem_map.mp hm
      have hq' : q ∈ F'.pn := by rw [p.le.pn]; exact hq
      obtain ⟨s1, d, h1⟩ := p.rel.pin q hq'
      exact .inr ⟨q.1, .mu, d, h1, by decide, e ▸ s1⟩
    · exact .inl (p.le.up a ⟨ba, hm⟩)
  have stp : ∀ {F' σ' H' e'}, Post K ⟨fun a => B a ∧ a ∉ muA modes vs, pinsOf 0 modes vs⟩ (vs.map some ++ List.replicate (n - vs.length) none) H (initE modes ds ++ List.replicate (n - vs.length) none) F' σ' H' e' → Stp (· ∈ muA modes vs) H H' := fun {F' σ' H' e'} p =>
    ⟨fun a o q na => p.stp.keep a o q fun z => na ((own_init ha _ a).mp z), p.stp.back⟩
  cases w : g (initE modes ds ++ List.replicate (n - vs.length) none) with
  | bad => rw [w] at fe; exact fe
  | bk e' => rw [w] at fe; exact fe.elim
  | ct e' => rw [w] at fe; exact fe.elim
  | nx e' =>
    rw [w] at fe
    intro F' σ' H' p
    unfold finR at fe
    cases hm : muOf modes e' with
    | none => simp only [hm] at fe; exact fe.elim
    | some ms => simp only [hm] at fe; exact fe _ H' (stp p) .non (mu p hm B (bb p))
  | exc x e' =>
    rw [w] at fe
    intro cls d F' σ' H' p hx
    unfold finR at fe
    cases hm : muOf modes e' with
    | none => simp only [hm] at fe; exact fe.elim
    | some ms =>
      simp only [hm] at fe
      refine hW _ _ _ _ (fe cls d H' (stp p) ⟨hx.1, ?_⟩ (mu p hm B (bb p)))
      have h2 := hx.2
      cases hf : x.fs with
      | nil => rw [hf] at h2; exact h2
      | cons y ys =>
        rw [hf] at h2
        obtain ⟨a, vs', e1, nb, e2, r⟩ := h2
        exact ⟨a, vs', e1, fun z => nb (bb p a z), e2, r.step (fun _ _ q _ => q) fun a z => .inl (bb p a z)⟩
  | rt r e' =>
    rw [w] at fe
    intro F' σ' H' v p hv
    unfold finR at fe
    have fre : ∀ (q : Addr) (d : D) (ms : List D), muOf modes e' = some ms → FnEnd K B H (muA modes vs) Q E (.ok (true, d) ms) → Bd F' σ' e' q → H q = none → OwnAt K (Bd F' σ' e') H' q d → Q (.ref q) H' := fun q d ms hm fe bq nq o => by
      have b2 : ∀ a, Bp B q a → Bd F' σ' e' a := fun a z => z.elim (bb p a) fun z => by rw [z]; exact bq
      exact fe q H' (stp p) nq (o.anti b2) (mu p hm _ b2)
    cases r with
    | sh d =>
      simp only at fe
      cases hm : muOf modes e' with
      | none => simp only [hm] at fe; exact fe.elim
      | some ms => simp only [hm] at fe; exact fe v H' (stp p) (Rp.anti hv (bb p)) (mu p hm B (bb p))
    | fr d =>
      simp only at fe
      cases hm : muOf modes e' with
      | none => simp only [hm] at fe; exact fe.elim
      | some ms =>
        simp only [hm] at fe
        obtain ⟨q, rfl, nq, fq, o⟩ := hv
        exact fre q d ms hm fe (.inl fq) nq o
    | sl i =>
      simp only at fe
      cases hm : muOf modes e' with
      | none => simp only [hm] at fe; exact fe.elim
      | some ms =>
        cases hg : getE e' i with
        | none => simp only [hm, hg] at fe; exact fe.elim
        | some y =>
          obtain ⟨f, d⟩ := y
          cases f with
          | mu => simp only [hm, hg] at fe; exact fe.elim
          | sh =>
            simp only [hm, hg] at fe
            obtain ⟨v', s1, r1⟩ := p.rel.val i d hg
            have s1 := (show getS σ' i = some v from hv).symm.trans s1
            cases s1
            exact fe v H' (stp p) (r1.anti (bb p)) (mu p hm B (bb p))
          | ow =>
            simp only [hm, hg] at fe
            obtain ⟨q, s1, o⟩ := p.rel.own i .ow d hg (by decide)
            have s2 := (show getS σ' i = some v from hv).symm.trans s1
            cases s2
            have oq : Own σ' e' q := ⟨i, .ow, d, hg, by decide, s1⟩
            have nq : H q = none := by
              rcases p.ow q oq with z | z
              · exfalso
                have hmq := (own_init ha _ q).mp z
                rw [← pins_muA ha 0] at hmq
                obtain ⟨u, hu, e⟩ := List.mem_map.mp hmq
                have hu' : u ∈ F'.pn := by rw [p.le.pn]; exact hu
                obtain ⟨s3, d3, h3⟩ := p.rel.pin u hu'
                have := p.rel.dist i u.1 .ow .mu d d3 q hg (by decide) h3 (by decide) s1 (e ▸ s3)
                rw [← this, hg] at h3
                cases h3
              · exact z
            exact fre q d ms hm fe (.inr oq) nq o
end
/-- as the layer's promise of a def, where no repr is under way -/
structure FnG (P : Program) (w : World) (K : Fg) (mg : Str → Option Value) (base : Heap) (CX : CXT) (k : Nat) (f : Addr) (fd : FuncData) (ps : List Str) (sp : Sp) : Prop where
  len : ∀ vs H Q E, sp vs H Q E → vs.length = ps.length
  run : ∀ (A : Around) (outer : List PySem.Env) (s : Shared) (H : Hp) (args : Args) (us : List Value) (vs : List V) (Q : VK) (E : XK), Room k A → A.guards = some [] →
    Env0 P w K mg base A outer s H → BindsTo s fd args (ps.zip us) → Vals vs us → sp vs H Q E → codeAny (model P w) A (.call (.ref f) args) (CR CX outer P w H s Q E) s
theorem FnG.mono {P : Program} {w : World} {K : Fg} {mg : Str → Option Value} {base : Heap} {CX : CXT} {j k : Nat} {f : Addr} {fd : FuncData} {ps : List Str} {sp : Sp} (F : FnG P w K mg base CX j f fd ps sp) (h : j ≤ k) : FnG P w K mg base CX k f fd ps sp :=
  ⟨F.len, fun A o s H a us vs Q E hr => F.run A o s H a us vs Q E (hr.mono h)⟩
/-- a def by its body -/
theorem FnG.of {CX : CXT} {P : Program} {w : World} {K : Fg} {mg : Str → Option Value} {base : Heap} {x qual : Str} {st : Stmt} {f : Addr} {fd : FuncData} {N ps : List Str} {k : Nat} {sp : Sp} (F : Fun K x qual st f fd) (Sc : FnScope N ps (defScope st))
    (len : ∀ vs H Q E, sp vs H Q E → vs.length = ps.length)
    (bod : ∀ (cdv : Value) (A : Around) (outer : List PySem.Env) (s : Shared) (H : Hp) (vs : List V) (Q : VK) (E : XK), Room k (A.deeper (PyProof.Rows.envOfC qual (defScope st) s.heap.objs.size f cdv)) → A.guards = some [] → sp vs H Q E →
      ∃ t, PSs (cxOf CX P w K mg base N qual (defScope st) f cdv A outer s H E) (defBody st) t ∧ t { nx := fun _ H' => Q .non H', rt := Q } (start N vs) H) :
    FnG P w K mg base CX (k + 1) f fd ps sp := by
  obtain ⟨oc, od, kV, doc, pm, an, cdv, ct, osl, rfl, lk, hcd⟩ := F.ex
  constructor
  · exact len
  intro A outer s H args us vs Q E hr hgd e0 hb r hsp
  have lenv := len _ _ _ _ hsp
  have inK : K.In s.heap := e0.mod.kin.keeps (fun b o e => (e0.bs b o e).1)
  have noL : s.heap.NoLimit := e0.mod.nolimit.keeps (fun b o e => (e0.bs b o e).1)
  refine PySem.codeAny_call_function hr.depth (inK _ _ lk) rfl Sc.co Sc.gen rfl (PySem.W.codeRec_of inK hcd) (hb _ _ _ _ ?_)
  apply PySem.wpAny_newFunctionEnv_cells Sc.kind
  · rintro ⟨n, v⟩ hy
    cases Sc.par n (List.of_mem_zip hy).1 with
    | inl q => exact Or.inl q
    | inr q => exact Or.inr ⟨q, PySem.W.cellsFrom_some _ _ _ (.inl q)⟩
  intro env he s1 x
  subst he
  constructor
  · exact noL.keeps x.toInCall.keep
  apply PySem.codeAny_func
  obtain ⟨t, ht, hq⟩ := bod cdv A outer s H vs Q E (hr.deeper _) hgd hsp
  have I := inv_start (CX := CX) (E := E) Sc hr.hd e0 lenv r x
  apply wpAny_mono (ht.run [] s1 (start N vs) H _ I hq) _ (fun e s' z => z)
  intro fl s' z
  match fl, z with
  | .ret u, ⟨v, σ', H', J, rv, q⟩ => exact ⟨v, H', J.os, J.bare, J.base, J.hok, rv, q⟩
  | .next, ⟨σ', H', J, q⟩ => exact ⟨.non, H', J.os, J.bare, J.base, J.hok, rfl, q⟩
  | .brk, ⟨_, _, _, q⟩ => exact q.elim
  | .cont, ⟨_, _, _, q⟩ => exact q.elim
/-- a def; what it raises leaves it -/
theorem fn_ok {P : Program} {w : World} {K : Fg} {mg : Str → Option Value} {base : Heap} {x qual : Str} {st : Stmt} {f : Addr} {fd : FuncData} {N ps : List Str} {k : Nat} {g : S} (F : Fun K x qual st f fd) (Sc : FnScope N ps (defScope st)) (modes : List Bool) (hl : modes.length = ps.length)
    (hb : ∀ (cdv : Value) (A : Around) (outer : List PySem.Env) (s : Shared) (H : Hp) (E : XK), Room k (A.deeper (PyProof.Rows.envOfC qual (defScope st) s.heap.objs.size f cdv)) → A.guards = some [] →
      Takes (cxOf (L2.CX P w) P w K mg base N qual (defScope st) f cdv A outer s H E) (fun cls d _ H => E cls d H) → PassesOwn (model P w) (cxOf (L2.CX P w) P w K mg base N qual (defScope st) f cdv A outer s H E).A (cxOf (L2.CX P w) P w K mg base N qual (defScope st) f cdv A outer s H E).env (cxOf (L2.CX P w) P w K mg base N qual (defScope st) f cdv A outer s H E).xe →
      PDB (cxOf (L2.CX P w) P w K mg base N qual (defScope st) f cdv A outer s H E) (fun cls d _ H => E cls d H) (defBody st) g) :
    FnG P w K mg base (L2.CX P w) (k + 1) f fd ps (spD K modes (fnOf N.length modes g)) := by
  refine FnG.of F Sc (fun vs H Q E h => ?_) (fun cdv A outer s H vs Q E hr hg h => ⟨_, hb cdv A outer s H E hr hg (takes_of rfl rfl rfl rfl) (passes_of rfl), ?_⟩)
  · obtain ⟨B, ds, ha, _⟩ := h
    rw [ha.length.1, hl]
  · exact body_of (K := K) (E := E) (fun _ _ _ _ z => z) h
/-- what is wished of no exception is passed on by anybody -/
theorem passN {X : Cx} (σ : St) : PassesAt (L2.CX X.prog X.w) X σ (WE Wno σ) := fun _ _ _ _ _ _ h => by
  obtain ⟨_, _, _, _, _, _, _, _, _, _, _, _, z⟩ := h
  exact z.elim
/-- the callee runs -/
theorem runG {X : Cx} {CX : CXT} {k : Nat} {f : Addr} {fd : FuncData} {ps : List Str} {sp : Sp} {E : St → XK} {pins : List (Addr × Obj)} {σ : St} {H : Hp} {s : Shared} {Q : VK} {us ws : List Value} {vs xs : List V} (F : FnG X.prog X.w X.K X.mg X.base CX k f fd ps sp) (hr : Room k X.A) (hgd : X.A.guards = some []) (hb : Binds X.K fd ps ws)
    (hd : Vals xs ws) (hx : PassesAt CX X σ (E σ)) (I : Inv X pins σ H s) (r : Vals vs us) (h : sp (vs ++ xs) H Q (E σ)) : wpAny (model X.prog X.w) X.A (call (.ref f) us) (EP X pins σ Q) X.xe s := by
  have r2 := Vals.append r hd
  have hl : (us ++ ws).length = ps.length := r2.length.symm.trans (F.len _ _ _ _ h)
  apply PySem.wpAny_call
  apply codeAny_mono (F.run X.A X.stack s H ⟨us, []⟩ (us ++ ws) (vs ++ xs) Q (E σ) hr hgd I.env0 (hb s us I.kIn hl) r2 h)
  intro res s' z
  match res, z with
  | .error e, z => exact hx pins H s e s' I z
  | .ok (.ret u), z => exact I.after z
end Cw

/-! Cw, part H: calls of defs, making of instances, methods, fields. -/
namespace Cw
open PySem L2

/-! ### arguments: kept as they are (a slot that is handed on), or shared -/
def kCons (f : M RV) (fs : M (List RV)) : M (List RV) := M.bind f fun r => M.bind fs fun rs => M.ret (r :: rs)
def sCons (f : M RV) (fs : M (List RV)) : M (List RV) := M.bind (M.bind f M.esc) fun d => M.bind fs fun rs => M.ret (.sh d :: rs)
section
variable {X : Cx} {W : Wx} {a : Expr} {f : M RV} {es : List Expr} {fs : M (List RV)}
theorem pda_keep (ha : PD X W a f) (hr : PDA X W es fs) (hs : starEach (a :: es) X.env = (false, eval a X.env) :: starEach es X.env := by rfl) : PDA X W (a :: es) (kCons f fs) :=
  pa_imp (pa_cons ha hr hs) fun σ H Q ⟨F, e, R, h⟩ => ⟨F, e, R, h.bind.imp fun r F1 e1 H1 p1 h1 v hv => ⟨F1, e1, p1.rel, h1.bind.imp fun rs F2 e2 H2 p2 h2 vs hvs => Aft.ret p2.rel h2 (v :: vs) ⟨hv.post p1.rel p2, hvs.back p1.stp.back⟩⟩⟩
theorem pda_esc (ha : PD X W a f) (hr : PDA X W es fs) (hs : starEach (a :: es) X.env = (false, eval a X.env) :: starEach es X.env := by rfl) : PDA X W (a :: es) (sCons f fs) :=
  pa_imp (pa_cons ha hr hs) fun σ H Q ⟨F, e, R, h⟩ => ⟨F, e, R, esc_of R (k := fun d F1 e1 H1 => Rel X.K F1 σ H1 e1 ∧ (∀ a, H1 a = none → H a = none) ∧ Aft W X.K F1 σ H1 e1 (fun rs F' e' H' => ∀ vs, HeldL X.K F' σ H H' e' vs rs → Q vs H') ((M.bind fs fun rs => M.ret (.sh d :: rs)) e1))
    (fun d F1 e1 H1 v ⟨R1, bk, h1⟩ hv => ⟨F1, e1, R1, h1.bind.imp fun rs F2 e2 H2 p2 h2 vs hvs => Aft.ret p2.rel h2 (v :: vs) (show HeldL X.K F2 σ H H2 e2 (v :: vs) (.sh d :: rs) from ⟨Rp.post hv p2, hvs.back bk⟩)⟩)
    (h.bind.imp fun r F1 e1 H1 p1 h1 => ⟨p1.rel, p1.stp.back, h1⟩)⟩
end

/-! ### the slots of changed arguments -/
def gather : List Bool → List RV → En → Option (List D)
  | [], [], _ => some []
  | false :: ms, .sh d :: rs, e => match gather ms rs e with
    | some ds => some (d :: ds)
    | none => none
  | true :: ms, .sl i :: rs, e => match getE e i with
    | some (.sh, _) => none
    | some (_, d) => (match gather ms rs e with
      | some ds => some (d :: ds)
      | none => none)
    | none => none
  | _, _, _ => none
def muI : List Bool → List RV → List Nat
  | true :: ms, .sl i :: rs => i :: muI ms rs
  | _ :: ms, _ :: rs => muI ms rs
  | _, _ => []
def scatter : List Nat → List D → En → Option En
  | [], [], e => some e
  | i :: is, d :: ds, e => match getE e i with
    | some (f, _) => scatter is ds (e.set i (some (f, d)))
    | none => none
  | _, _, _ => none
def callM (modes : List Bool) (F : Fn) (rs : List RV) : M RV := fun e =>
  if (muI modes rs).Nodup then (match gather modes rs e with
    | none => .bad
    | some ds => match F ds with
      | .ok r ms => (match scatter (muI modes rs) ms e with
        | some e' => .ok (toRV r) e'
        | none => .bad)
      | .exc x ms => (match scatter (muI modes rs) ms e with
        | some e' => .exc x e'
        | none => .bad)
      | .bad => .bad) else .bad
def eCall (modes : List Bool) (F : Fn) (fs : M (List RV)) : M RV := M.bind fs (callM modes F)

section
variable {K : Fg} {F F2 : Fx} {σ : St} {H H' H0 : Hp} {e e2 : En}
theorem scatter_spec : ∀ {is : List Nat} {ds : List D} {e e2 : En}, is.Nodup → scatter is ds e = some e2 → e2.length = e.length ∧ is.length = ds.length ∧
    (∀ j f d, getE e2 j = some (f, d) → (∃ k : Nat, is[k]? = some j ∧ ds[k]? = some d ∧ ∃ d0, getE e j = some (f, d0)) ∨ (j ∉ is ∧ getE e j = some (f, d))) ∧ ∀ j f d0, getE e j = some (f, d0) → ∃ d, getE e2 j = some (f, d)
  | [], [], e, e2, _, h => by
    cases h
    exact ⟨rfl, rfl, fun j f d q => .inr ⟨by simp, q⟩, fun j f d0 q => ⟨d0, q⟩⟩
  | [], _ :: _, _, _, _, h => by cases h
  | _ :: _, [], _, _, _, h => by cases h
  | i :: is, d :: ds, e, e2, nd, h => by
    unfold scatter at h
    obtain ⟨n1, n2⟩ := List.nodup_cons.mp nd
    cases w : getE e i with
    | none => simp only [w] at h; cases h
    | some y =>
      obtain ⟨f0, d00⟩ := y
      simp only [w] at h
      obtain ⟨h1, h2, h3, h4⟩ := scatter_spec n2 h
      have hi := getE_lt w
      refine ⟨by rw [h1, List.length_set], by simp [h2], fun j f d' q => ?_, fun j f d0 q => ?_⟩
      · rcases h3 j f d' q with ⟨k, a, b, c⟩ | ⟨a, b⟩
        · left
          refine ⟨k + 1, by simpa using a, by simpa using b, ?_⟩
          obtain ⟨d0, c⟩ := c
          have hij : i ≠ j := fun z => n1 (z ▸ List.mem_of_getElem? a)
          rw [getE_set_ne hij] at c
          exact ⟨d0, c⟩
        · by_cases hij : i = j
          · subst hij
            rw [getE_set_same hi] at b
            cases b
            exact .inl ⟨0, rfl, rfl, d00, w⟩
          · rw [getE_set_ne hij] at b
            exact .inr ⟨by simp only [List.mem_cons, not_or]; exact ⟨fun z => hij z.symm, a⟩, b⟩
      · by_cases hij : i = j
        · subst hij
          rw [w] at q; cases q
          exact h4 i f0 d (getE_set_same hi)
        · exact h4 j f d0 (by rw [getE_set_ne hij]; exact q)
theorem Rel.reown (R : Rel K F σ H e) (hl : e2.length = e.length) (hfl : ∀ i f d, getE e2 i = some (f, d) → ∃ d0, getE e i = some (f, d0) ∧ (f = .sh → d = d0)) (hbk : ∀ i f d0, getE e i = some (f, d0) → ∃ d, getE e2 i = some (f, d))
    (hk1 : ∀ a o, H a = some o → ¬ Bd F σ e a → H' a = some o) (hk2 : ∀ a, Bd F2 σ e a → Bd F σ e a ∨ H a = none) (hown : ∀ i f d p, getE e2 i = some (f, d) → f ≠ .sh → getS σ i = some (.ref p) → OwnAt K (Bd F2 σ e) H' p d)
    (hext : ∀ a, F2.bx a → ¬ Own σ e a ∧ H' a ≠ none) (hpn : F2.pn = F.pn) : Rel K F2 σ H' e2 ∧ ∀ a, Own σ e2 a ↔ Own σ e a := by
  have ow : ∀ a, Own σ e2 a ↔ Own σ e a := fun a => ⟨fun ⟨i, f, d, q, n, s⟩ => let ⟨d0, q0, _⟩ := hfl i f d q; ⟨i, f, d0, q0, n, s⟩, fun ⟨i, f, d, q, n, s⟩ => let ⟨d1, q1⟩ := hbk i f d q; ⟨i, f, d1, q1, n, s⟩⟩
  have bd : ∀ a, Bd F2 σ e2 a → Bd F2 σ e a := fun a z => z.elim .inl fun z => .inr ((ow a).mp z)
  refine ⟨⟨by rw [hl]; exact R.len, fun i d q => ?_, fun i f d q n => ?_, fun i j f g d d' p q1 n1 q2 n2 s1 s2 => ?_, fun a z => ⟨fun w => (hext a z).1 ((ow a).mp w), (hext a z).2⟩, fun q hq => ?_⟩, ow⟩
  · obtain ⟨d0, q0, e0⟩ := hfl i _ d q
    obtain ⟨v, a, b⟩ := R.val i d0 q0
    exact ⟨v, a, e0 rfl ▸ (b.step hk1 fun a z => hk2 a (bd a z))⟩
  · obtain ⟨d0, q0, _⟩ := hfl i f d q
    obtain ⟨p, a, _⟩ := R.own i f d0 q0 n
    exact ⟨p, a, (hown i f d p q n a).anti bd⟩
  · obtain ⟨d1, q1, _⟩ := hfl i f d q1
    obtain ⟨d2, q2, _⟩ := hfl j g d' q2
    exact R.dist i j f g d1 d2 p q1 n1 q2 n2 s1 s2
  · rw [hpn] at hq
    obtain ⟨a, d, b⟩ := R.pin q hq
    exact ⟨a, hbk _ _ d b⟩
/-- the arguments as the promise wants them -/
theorem arg_ok (R : Rel K F σ H e) : ∀ {modes : List Bool} {vs : List V} {rs : List RV} {ds : List D}, HeldL K F σ H0 H e vs rs → gather modes rs e = some ds → ArgOk K (Bd F σ e) H modes vs ds
  | [], [], [], ds, h, q => by cases q; exact trivial
  | [], _ :: _, [], ds, h, q => h.elim
  | [], _, _ :: _, ds, h, q => by cases q
  | false :: ms, v :: vs, .sh d :: rs, ds, h, q => by
    unfold gather at q
    cases w : gather ms rs e with
    | none => simp only [w] at q; cases q
    | some dr => simp only [w] at q; cases q; exact ⟨h.1, arg_ok R h.2 w⟩
  | true :: ms, v :: vs, .sl i :: rs, ds, h, q => by
    unfold gather at q
    cases g : getE e i with
    | none => simp only [g] at q; cases q
    | some y =>
      obtain ⟨f, d⟩ := y
      have own : f ≠ .sh → (∃ p, v = .ref p ∧ Bd F σ e p ∧ OwnAt K (Bd F σ e) H p d) := fun n => by
        obtain ⟨p, s, o⟩ := R.own i f d g n
        have hv := (show getS σ i = some v from h.1).symm.trans s
        cases hv
        exact ⟨p, rfl, .inr ⟨i, f, d, g, n, s⟩, o⟩
      cases w : gather ms rs e with
      | none => cases f <;> simp only [g, w] at q <;> cases q
      | some dr =>
        cases f with
        | sh => simp only [g] at q; cases q
        | ow => simp only [g, w] at q; cases q; exact ⟨own (by decide), arg_ok R h.2 w⟩
        | mu => simp only [g, w] at q; cases q; exact ⟨own (by decide), arg_ok R h.2 w⟩
  | _ :: _, [], rs, ds, h, q => by
    cases rs with
    | nil => rename_i b _; cases b <;> cases q
    | cons _ _ => exact h.elim
  | false :: _, _, [], ds, h, q => by cases q
  | true :: _, _, [], ds, h, q => by cases q
  | false :: _, _, .fr _ :: _, ds, h, q => by cases q
  | false :: _, _, .sl _ :: _, ds, h, q => by cases q
  | true :: _, _, .sh _ :: _, ds, h, q => by cases q
  | true :: _, _, .fr _ :: _, ds, h, q => by cases q
/-- the addresses of the changed arguments, by their slots -/
theorem muA_at : ∀ {modes : List Bool} {vs : List V} {rs : List RV} {ds : List D}, Rel K F σ H e → HeldL K F σ H0 H e vs rs → gather modes rs e = some ds →
    (muA modes vs).length = (muI modes rs).length ∧ ∀ (k i : Nat), (muI modes rs)[k]? = some i → ∃ p f d, (muA modes vs)[k]? = some p ∧ getS σ i = some (.ref p) ∧ getE e i = some (f, d) ∧ f ≠ .sh
  | [], [], [], ds, R, h, q => ⟨rfl, fun k i z => by cases z⟩
  | [], _ :: _, [], ds, R, h, q => h.elim
  | [], _, _ :: _, ds, R, h, q => by cases q
  | false :: ms, v :: vs, .sh d :: rs, ds, R, h, q => by
    unfold gather at q
    cases w : gather ms rs e with
    | none => simp only [w] at q; cases q
    | some dr =>
      have e1 : muA (false :: ms) (v :: vs) = muA ms vs := by cases v <;> rfl
      rw [e1]
      exact muA_at R h.2 w
  | true :: ms, v :: vs, .sl i :: rs, ds, R, h, q => by
    unfold gather at q
    cases g : getE e i with
    | none => simp only [g] at q; cases q
    | some y =>
      obtain ⟨f, d⟩ := y
      cases w : gather ms rs e with
      | none => cases f <;> simp only [g, w] at q <;> cases q
      | some dr =>
        have n : f ≠ .sh := fun z => by subst z; simp only [g] at q; cases q
        obtain ⟨p, s, o⟩ := R.own i f d g n
        have hv := (show getS σ i = some v from h.1).symm.trans s
        cases hv
        obtain ⟨l1, l2⟩ := muA_at R h.2 w
        refine ⟨congrArg (· + 1) l1, fun k j z => ?_⟩
        cases k with
        | zero => cases z; exact ⟨p, f, d, rfl, s, g, n⟩
        | succ k => exact l2 k j z
  | _ :: _, [], rs, ds, R, h, q => by
    cases rs with
    | nil => rename_i b _; cases b <;> cases q
    | cons _ _ => exact h.elim
  | false :: _, _, [], ds, R, h, q => by cases q
  | true :: _, _, [], ds, R, h, q => by cases q
  | false :: _, _, .fr _ :: _, ds, R, h, q => by cases q
  | false :: _, _, .sl _ :: _, ds, R, h, q => by cases q
  | true :: _, _, .sh _ :: _, ds, R, h, q => by cases q
  | true :: _, _, .fr _ :: _, ds, R, h, q => by cases q
theorem MuOk.at {B : Ad} : ∀ {ps : List Addr} {ds : List D}, MuOk K B H ps ds → ∀ (k : Nat) (p : Addr) (d : D), ps[k]? = some p → ds[k]? = some d → OwnAt K B H p d
  | [], [], _, k, p, d, h, _ => by cases h
  | q :: ps, x :: ds, h, 0, p, d, h1, h2 => by cases h1; cases h2; exact h.1
  | q :: ps, x :: ds, h, k + 1, p, d, h1, h2 => MuOk.at h.2 k p d h1 h2
  | [], _ :: _, h, _, _, _, _, _ => h.elim
  | _ :: _, [], h, _, _, _, _, _ => h.elim
theorem MuOk.anti {B B' : Ad} (k : ∀ a, B' a → B a) : ∀ {ps : List Addr} {ds : List D}, MuOk K B H ps ds → MuOk K B' H ps ds
  | [], [], _ => trivial
  | _ :: _, _ :: _, h => ⟨h.1.anti k, MuOk.anti k h.2⟩
  | [], _ :: _, h => h.elim
  | _ :: _, [], h => h.elim
theorem nodup_of_ix {l : List Addr} (h : ∀ (i j : Nat) (p : Addr), l[i]? = some p → l[j]? = some p → i = j) : l.Nodup := by
  induction l with
  | nil => exact List.nodup_nil
  | cons x l ih =>
    refine List.nodup_cons.mpr ⟨fun hx => ?_, ih fun i j p h1 h2 => ?_⟩
    · obtain ⟨k, hk⟩ := List.getElem?_of_mem hx
      have := h 0 (k + 1) x rfl hk
      omega
    · have := h (i + 1) (j + 1) p h1 h2
      omega
/-- what stands behind a call -/
theorem call_core {modes : List Bool} {vs : List V} {rs : List RV} {ds ms : List D} (R : Rel K F σ H e) (hv : HeldL K F σ H0 H e vs rs) (nd : (muI modes rs).Nodup) (hg : gather modes rs e = some ds) (hs : scatter (muI modes rs) ms e = some e2) :
    (muA modes vs).Nodup ∧ (∀ a, Bd F σ e a → H a ≠ none) ∧ ∀ (F2 : Fx) (H' : Hp), Stp (· ∈ muA modes vs) H H' → (∀ a, F.bx a → F2.bx a) → (∀ a, F2.bx a → F.bx a ∨ (H a = none ∧ H' a ≠ none)) → F2.pn = F.pn → MuOk K (Bd F2 σ e) H' (muA modes vs) ms → Post K F σ H e F2 σ H' e2 ∧ ∀ a, Own σ e2 a ↔ Own σ e a := by
  obtain ⟨la, at'⟩ := muA_at R hv hg
  obtain ⟨s1, s2, s3, s4⟩ := scatter_spec nd hs
  have ndA : (muA modes vs).Nodup := nodup_of_ix fun i j p h1 h2 => by
    have hi : i < (muI modes rs).length := la ▸ (List.getElem?_eq_some_iff.mp h1).1
    have hj : j < (muI modes rs).length := la ▸ (List.getElem?_eq_some_iff.mp h2).1
    obtain ⟨p1, f1, d1, a1, b1, c1, n1⟩ := at' i _ (List.getElem?_eq_getElem hi)
    obtain ⟨p2, f2, d2, a2, b2, c2, n2⟩ := at' j _ (List.getElem?_eq_getElem hj)
    rw [h1] at a1; cases a1
    rw [h2] at a2; cases a2
    have hd := R.dist _ _ f1 f2 d1 d2 p c1 n1 c2 n2 b1 b2
    exact (List.getElem_inj nd).mp hd
  have inOwn : ∀ p, p ∈ muA modes vs → Own σ e p := fun p hp => by
    obtain ⟨k, hk⟩ := List.getElem?_of_mem hp
    have hi : k < (muI modes rs).length := la ▸ (List.getElem?_eq_some_iff.mp hk).1
    obtain ⟨p1, f1, d1, a1, b1, c1, n1⟩ := at' k _ (List.getElem?_eq_getElem hi)
    rw [hk] at a1; cases a1
    exact ⟨_, f1, d1, c1, n1, b1⟩
  have tr : ∀ a, Bd F σ e a → H a ≠ none := fun a z => by
    rcases z with z | ⟨i, f, d, q, n, s⟩
    · exact (R.ext a z).2
    · obtain ⟨p, s', o⟩ := R.own i f d q n
      rw [s] at s'; cases s'; exact o.some
  refine ⟨ndA, tr, fun F2 H' st up dn pn mo => ?_⟩
  have k1 : ∀ a o, H a = some o → ¬ Bd F σ e a → H' a = some o := fun a o q n => st.keep a o q fun z => n (.inr (inOwn a z))
  have k2 : ∀ a, Bd F2 σ e a → Bd F σ e a ∨ H a = none := fun a z => z.elim (fun z => (dn a z).elim (fun z => .inl (.inl z)) fun z => .inr z.1) fun z => .inl (.inr z)
  suffices rr : Rel K F2 σ H' e2 ∧ ∀ a, Own σ e2 a ↔ Own σ e a by
    obtain ⟨R2, ow⟩ := rr
    exact ⟨⟨R2, ⟨fun a o q n => st.keep a o q fun z => n (inOwn a z), st.back⟩, fun a z => .inl ((ow a).mp z), ⟨pn, up, fun a z => (dn a z).imp id fun z => z.1⟩⟩, ow⟩
  refine R.reown (F2 := F2) (H' := H') (e2 := e2) s1 (fun i f d q => ?_) s4 k1 k2 (fun i f d p q n s => ?_) (fun a z => ?_) pn
  · rcases s3 i f d q with ⟨k, a, b, d0, c⟩ | ⟨a, b⟩
    · refine ⟨d0, c, fun z => ?_⟩
      subst z
      obtain ⟨p1, f1, d1, a1, b1, c1, n1⟩ := at' k i a
      rw [c] at c1; cases c1; exact absurd rfl n1
    · exact ⟨d, b, fun _ => rfl⟩
  · rcases s3 i f d q with ⟨k, a, b, d0, c⟩ | ⟨a, b⟩
    · obtain ⟨p1, f1, d1, a1, b1, c1, n1⟩ := at' k i a
      rw [s] at b1; cases b1
      exact mo.at k p d a1 b
    · obtain ⟨p', s', o⟩ := R.own i f d b n
      rw [s] at s'; cases s'
      refine o.step k1 k2 ?_
      cases w : H p with
      | none => exact absurd w o.some
      | some ob =>
        refine st.keep p ob w fun z => ?_
        obtain ⟨k, hk⟩ := List.getElem?_of_mem z
        have hi : k < (muI modes rs).length := la ▸ (List.getElem?_eq_some_iff.mp hk).1
        obtain ⟨p1, f1, d1, a1, b1, c1, n1⟩ := at' k _ (List.getElem?_eq_getElem hi)
        rw [hk] at a1; cases a1
        have := R.dist _ _ f1 f d1 d p c1 n1 b n b1 s
        exact a (this ▸ List.getElem_mem hi)
  · rcases dn a z with z | z
    · exact ⟨(R.ext a z).1, fun w => (R.ext a z).2 (st.back a w)⟩
    · refine ⟨fun ⟨i, f, d, q, n, s⟩ => ?_, z.2⟩
      obtain ⟨p', s', o⟩ := R.own i f d q n
      rw [s] at s'; cases s'
      exact o.some z.1
/-- the call's end, as the mirror says -/
theorem call_sp {modes : List Bool} {G : Fn} {vs : List V} {rs : List RV} {ds ms : List D} {r : Bool × D} {Q : VK} {E : XK} (R : Rel K F σ H e) (hv : HeldL K F σ H0 H e vs rs) (nd : (muI modes rs).Nodup) (hg : gather modes rs e = some ds) (hG : G ds = .ok r ms) (hs : scatter (muI modes rs) ms e = some e2)
    (hQ : ∀ v H' F', Post K F σ H e F' σ H' e2 → Held K F' σ H H' e2 v (toRV r) → Q v H') : spD K modes G vs H Q E := by
  obtain ⟨ndA, tr, fin⟩ := call_core R hv nd hg hs
  refine ⟨Bd F σ e, ds, arg_ok R hv hg, ndA, tr, ?_⟩
  rw [hG]
  obtain ⟨b, d⟩ := r
  cases b with
  | false =>
    intro v H' st rp mo
    obtain ⟨p, ow⟩ := fin F H' st (fun _ z => z) (fun _ z => .inl z) rfl mo
    exact hQ v H' F p (rp.anti fun a z => z.elim .inl fun z => .inr ((ow a).mp z))
  | true =>
    intro q H' st nq o mo
    obtain ⟨p, ow⟩ := fin (F.plus q) H' st (fun _ z => .inl z) (fun a z => z.elim .inl fun z => .inr ⟨z ▸ nq, z ▸ o.some⟩) rfl (by
      have : ∀ a, Bd (F.plus q) σ e a → Bp (Bd F σ e) q a := fun a z => by
        rcases z with (z | z) | z
        · exact .inl (.inl z)
        · exact .inr z
        · exact .inl (.inr z)
      exact MuOk.anti this mo)
    exact hQ _ H' _ p ⟨q, rfl, nq, .inr rfl, o.anti fun a z => by
      rcases z with (z | z) | z
      · exact .inl (.inl z)
      · exact .inr z
      · exact .inl (.inr ((ow a).mp z))⟩
end
theorem XcOk.anti {K : Fg} {B B' : Ad} {H : Hp} {cls : Value} {d : Option Addr} {x : Xc} (h : XcOk K B H cls d x) (k : ∀ a, B' a → B a) : XcOk K B' H cls d x := by
  refine ⟨h.1, ?_⟩
  have h2 := h.2
  cases hf : x.fs with
  | nil => rw [hf] at h2; exact h2
  | cons y ys =>
    rw [hf] at h2
    obtain ⟨a, vs', e1, nb, e2, r⟩ := h2
    exact ⟨a, vs', e1, fun z => nb (k a z), e2, r.step (fun _ _ q _ => q) fun a z => .inl (k a z)⟩
section
variable {K : Fg} {F F2 : Fx} {σ : St} {H H' H0 : Hp} {e e2 : En}
/-- the call's end by an exception -/
theorem call_spX {modes : List Bool} {G : Fn} {vs : List V} {rs : List RV} {ds ms : List D} {x : Xc} {Q : VK} {E : XK} (R : Rel K F σ H e) (hv : HeldL K F σ H0 H e vs rs) (nd : (muI modes rs).Nodup) (hg : gather modes rs e = some ds) (hG : G ds = .exc x ms) (hs : scatter (muI modes rs) ms e = some e2)
    (hQ : ∀ cls d H', Post K F σ H e F σ H' e2 → XcOk K (Bd F σ e2) H' cls d x → E cls d H') : spD K modes G vs H Q E := by
  obtain ⟨ndA, tr, fin⟩ := call_core R hv nd hg hs
  refine ⟨Bd F σ e, ds, arg_ok R hv hg, ndA, tr, ?_⟩
  rw [hG]
  intro cls d H' st hx mo
  obtain ⟨p, ow⟩ := fin F H' st (fun _ z => z) (fun _ z => .inl z) rfl mo
  exact hQ cls d H' p (hx.anti fun a z => z.elim .inl fun z => .inr ((ow a).mp z))
end
end Cw

/-! Cw, part I: calls, methods, fields; changes of owned objects. -/
namespace Cw
open PySem L2

/-! ### the rules of calls, over FnG -/
def tCallG (sp : Sp) (dvs : List V) (E : St → XK) (t : TA) : TE := fun σ H Q => t σ H fun vs H1 => sp (vs ++ dvs) H1 Q (E σ)
def tMethG (C : Addr) (m : Str) (sp : Sp) (dvs : List V) (E : St → XK) (ta : TE) (t : TA) : TE := fun σ H Q => ta σ H fun x H1 => ∃ a dx fs, x = .ref a ∧ H1 a = some (.ins C dx fs) ∧ fs.lookup m = none ∧
  t σ H1 fun vs H2 => sp (x :: (vs ++ dvs)) H2 Q (E σ)
def tMakeG (C : Addr) (sp : Sp) (dvs : List V) (E : St → XK) (t : TA) : TE := fun σ H Q => t σ H fun vs H1 => ∀ x dx, H1 x = none → H1 dx = none → dx ≠ x →
  sp (.ref x :: (vs ++ dvs)) (upd (upd H1 dx (.own x)) x (.ins C dx [])) (fun v H2 => v = .non ∧ Q (.ref x) H2) (E σ)
section
variable {X : Cx} {CX : CXT} {k : Nat} {f C : Addr} {fd : FuncData} {ps : List Str} {sp : Sp} {E : St → XK} {x m : Str} {p pos apos : Pos} {e o : Expr} {es : List Expr} {ta : TE} {t : TA} {ws : List Value} {xs : List V}
theorem peg_call (F : FnG X.prog X.w X.K X.mg X.base CX k f fd ps sp) (hr : Room k X.A) (hgd : X.A.guards = some []) (hg : Gl X x) (hm : X.mg x = some (.ref f)) (hk : PySem.W.keepIn X.K (.ref f) = true) (hb : Binds X.K fd ps ws) (hd : Vals xs ws) (hx : ∀ σ, PassesAt CX X σ (E σ)) (ha : PA X (e :: es) t)
    (hdb : (x == ("__debug__" : Str)) = false) (he : starEach (e :: es) X.env = (false, eval e X.env) :: starEach es X.env) (hpl : (backTo pos (starEach es X.env)).any (·.1) = false) : PE X (.Call (.Name x p) (e :: es) [] pos) (tCallG sp xs E t) := by
  constructor
  intro pins s σ H Q I h
  apply PySem.wpAny_Call_Name_kw
  apply ld_glob I hg hm _ hdb
  apply PySem.W.callWith_K (h₀ := X.base) I.ok.mod.kin hk _ he hpl
  apply thn (ha.run pos pins s σ H _ I h)
  rintro us s1 ⟨vs, H1, I1, r, q⟩
  exact ⟨I1.kIn, runG F hr hgd hb hd (hx σ) I1 r q⟩
theorem peg_call0 (F : FnG X.prog X.w X.K X.mg X.base CX k f fd ps sp) (hr : Room k X.A) (hgd : X.A.guards = some []) (hg : Gl X x) (hm : X.mg x = some (.ref f)) (hk : PySem.W.keepIn X.K (.ref f) = true) (hb : Binds X.K fd ps ws) (hd : Vals xs ws) (hx : ∀ σ, PassesAt CX X σ (E σ))
    (hdb : (x == ("__debug__" : Str)) = false) : PE X (.Call (.Name x p) [] [] pos) (tCallG sp xs E tNil) := by
  constructor
  intro pins s σ H Q I h
  apply PySem.wpAny_Call_Name_kw
  apply ld_glob I hg hm _ hdb
  exact PySem.W.callWith_K0 I.kIn hk (runG (us := []) F hr hgd hb hd (hx σ) I .nil h)
theorem peg_meth {pl : Sem Bool} (he : PE X o ta) (c : Cls X.K C) (hm : Meth X.K C m f) (F : FnG X.prog X.w X.K X.mg X.base CX k f fd ps sp) (hr : Room k X.A) (hgd : X.A.guards = some []) (hb : Binds X.K fd ps ws) (hd : Vals xs ws) (hx : ∀ σ, PassesAt CX X σ (E σ)) (ha : PA X (e :: es) t)
    (hst : starEach (e :: es) X.env = (false, eval e X.env) :: starEach es X.env) (hpl : (backTo pos (starEach es X.env)).any (·.1) = false)
    (ht : eval (.Call (.Attribute o m apos) (e :: es) [] pos) X.env = (do
      let ov ← eval o X.env
      standAt apos.atName
      let (f, first) ← holding [ov] (getMethod ov m pl)
      callWith pos f first (backTo pos (starEach (e :: es) X.env)) (backToKw pos (keywordEach [] X.env)))) : PE X (.Call (.Attribute o m apos) (e :: es) [] pos) (tMethG C m sp xs E ta t) := by
  constructor
  intro pins s σ H Q I h
  apply PySem.W.methodCall_KW (pl := pl) _ ht
  apply thn (he.run pins s σ H _ I h)
  rintro u s1 ⟨_, H1, I1, rx, a, dx, fs, rfl, ea, l, q⟩
  cases (show u = Value.ref a from rx)
  apply getmeth_ok I1 ea c hm l
  apply PySem.W.callWith_K (first := [.ref a]) (h₀ := X.base) I.ok.mod.kin hm.kp _ hst hpl
  apply thn (ha.run pos pins s1 σ H1 _ I1 q)
  rintro us s2 ⟨vs, H2, I2, r, q2⟩
  exact ⟨I2.kIn, runG (us := .ref a :: us) (vs := .ref a :: vs) F hr hgd hb hd (hx σ) I2 (.cons rfl r) q2⟩
theorem peg_meth0 {pl : Sem Bool} (he : PE X o ta) (c : Cls X.K C) (hm : Meth X.K C m f) (F : FnG X.prog X.w X.K X.mg X.base CX k f fd ps sp) (hr : Room k X.A) (hgd : X.A.guards = some []) (hb : Binds X.K fd ps ws) (hd : Vals xs ws) (hx : ∀ σ, PassesAt CX X σ (E σ))
    (ht : eval (.Call (.Attribute o m apos) [] [] pos) X.env = (do
      let ov ← eval o X.env
      standAt apos.atName
      let (f, first) ← holding [ov] (getMethod ov m pl)
      callWith pos f first (backTo pos (starEach [] X.env)) (backToKw pos (keywordEach [] X.env)))) : PE X (.Call (.Attribute o m apos) [] [] pos) (tMethG C m sp xs E ta tNil) := by
  constructor
  intro pins s σ H Q I h
  apply PySem.W.methodCall_KW (pl := pl) _ ht
  apply thn (he.run pins s σ H _ I h)
  rintro u s1 ⟨_, H1, I1, rx, a, dx, fs, rfl, ea, l, q⟩
  cases (show u = Value.ref a from rx)
  apply getmeth_ok I1 ea c hm l
  exact PySem.W.callWith_K0 (first := [.ref a]) I1.kIn hm.kp (runG (us := [.ref a]) (vs := [.ref a]) F hr hgd hb hd (hx σ) I1 (.cons rfl .nil) q)
theorem guards_make {A : Around} (hgd : A.guards = some []) (C : Addr) (us : List Value) : (A.under (.builtin "type.__call__" ⟨.ref C :: us, []⟩)).guards = some [] := by
  have n : ("type.__call__" : String) ∉ guardIds := by decide +kernel
  simp [Around.under, Code.guards, Code.isGuard, pushGuards, hgd, n]
theorem peg_make (Mc : Mk X.K C f) (F : FnG X.prog X.w X.K X.mg X.base CX k f fd ps sp) (hr : Room (k + 1) X.A) (hgd : X.A.guards = some []) (hg : Gl X x) (hm : X.mg x = some (.ref C)) (hb : Binds X.K fd ps ws) (hd : Vals xs ws) (hx : ∀ σ, PassesAt CX X σ (E σ)) (ha : PA X (e :: es) t)
    (hdb : (x == ("__debug__" : Str)) = false) (he : starEach (e :: es) X.env = (false, eval e X.env) :: starEach es X.env) (hpl : (backTo pos (starEach es X.env)).any (·.1) = false) : PE X (.Call (.Name x p) (e :: es) [] pos) (tMakeG C sp xs E t) := by
  constructor
  intro pins s σ H Q I h
  apply PySem.wpAny_Call_Name_kw
  apply ld_glob I hg hm _ hdb
  apply PySem.W.callWith_K (h₀ := X.base) I.ok.mod.kin Mc.kp _ he hpl
  apply thn (ha.run pos pins s σ H _ I h)
  rintro us s1 ⟨vs, H1, I1, r, q⟩
  refine ⟨I1.kIn, ?_⟩
  have hq := q (s1.heap.objs.size + 1) s1.heap.objs.size (I1.hok.fresh (Nat.le_succ _)) (I1.hok.fresh (Nat.le_refl _)) (Nat.ne_of_lt (Nat.lt_succ_self _))
  have I2 := Inv.made (C := C) I1
  have r2 := Vals.append r hd
  have hl : (us ++ ws).length + 1 = ps.length := by
    have e1 := F.len _ _ _ _ hq
    have e2 := r2.length
    simp only [List.length_cons] at e1
    omega
  apply PySem.wpAny_call
  apply make_map (f := f) I1.kIn Mc.makes Mc.init (beq_iff_eq.mp Mc.fn)
  have run := F.run _ X.stack _ _ ⟨Value.ref (s1.heap.objs.size + 1) :: us, []⟩ (Value.ref (s1.heap.objs.size + 1) :: (us ++ ws)) (V.ref (s1.heap.objs.size + 1) :: (vs ++ xs)) _ (E σ) (hr.make C us []) (guards_make hgd C us)
    (I2.env0.make C us []) (hb _ (Value.ref (s1.heap.objs.size + 1) :: us) I2.kIn (by simpa using hl)) (.cons rfl r2) hq
  apply codeAny_mono run
  intro res s' z
  match res, z with
  | .error e, z => exact hx σ pins _ _ e s' I2 z
  | .ok (.ret u), z =>
    obtain ⟨v, H', I3, rv, rfl, q3⟩ := I2.after z
    exact ⟨rv, V.ref (s1.heap.objs.size + 1), H', I3, rfl, q3⟩
end

section
variable {X : Cx} {W : Wx} {x m : Str} {p pos apos : Pos} {e o : Expr} {es : List Expr} {fs : M (List RV)} {CX : CXT} {k : Nat} {f C : Addr} {fd : FuncData} {ps : List Str} {modes : List Bool} {G : Fn} {g : M RV}
theorem HeldL.nilR {K : Fg} {F : Fx} {σ : St} {H0 H : Hp} {e : En} {vs : List V} {rs : List RV} (h : HeldL K F σ H0 H e vs rs) : HeldL K F σ H0 H e (vs ++ []) (rs ++ []) := by
  rw [List.append_nil, List.append_nil]; exact h
theorem callM_of {K : Fg} {F : Fx} {σ : St} {H0 H : Hp} {e : En} {vs : List V} {rs : List RV} {Q : VK} (R : Rel K F σ H e) (bk : ∀ a, H a = none → H0 a = none) (hv : HeldL K F σ H0 H e vs rs) (h : Aft W K F σ H e (fun r F' e' H' => ∀ v, Held K F' σ H0 H' e' v r → Q v H') (callM modes G rs e)) : spD K modes G vs H Q (WE W σ) := by
  unfold callM at h
  by_cases nd : (muI modes rs).Nodup
  · rw [if_pos nd] at h
    cases hg : gather modes rs e with
    | none => simp only [hg] at h; exact h.elim
    | some ds =>
      simp only [hg] at h
      cases hG : G ds with
      | bad => simp only [hG] at h; exact h.elim
      | exc x ms =>
        simp only [hG] at h
        cases hs : scatter (muI modes rs) ms e with
        | none => simp only [hs] at h; exact h.elim
        | some e2 =>
          simp only [hs] at h
          exact call_spX R hv nd hg hG hs fun cls d H' ps hx => h cls d F H' ps hx
      | ok r ms =>
        simp only [hG] at h
        cases hs : scatter (muI modes rs) ms e with
        | none => simp only [hs] at h; exact h.elim
        | some e2 =>
          simp only [hs] at h
          exact call_sp R hv nd hg hG hs fun v H' F' ps hh => h F' H' ps v (hh.back bk)
  · rw [if_neg nd] at h; exact h.elim
theorem pd_call (Fo : FnG X.prog X.w X.K X.mg X.base CX k f fd ps (spD X.K modes G)) (hr : Room k X.A) (hgd : X.A.guards = some []) (hg : Gl X x) (hm : X.mg x = some (.ref f)) (hk : PySem.W.keepIn X.K (.ref f) = true) (hb : Binds X.K fd ps []) (hx : ∀ σ, PassesAt CX X σ (WE W σ))
    (ha : PDA X W (e :: es) fs) (hdb : (x == ("__debug__" : Str)) = false := by decide) (he : starEach (e :: es) X.env = (false, eval e X.env) :: starEach es X.env := by rfl) (hpl : (backTo pos (starEach es X.env)).any (·.1) = false := by rfl) :
    PD X W (.Call (.Name x p) (e :: es) [] pos) (eCall modes G fs) :=
  pe_imp (peg_call Fo hr hgd hg hm hk hb .nil hx ha hdb he hpl) fun σ H Q ⟨F, e, R, h⟩ => ⟨F, e, R, h.bind.imp fun rs F1 e1 H1 p1 h1 vs hv => by
    show spD X.K modes G (vs ++ []) H1 Q (WE W σ)
    rw [List.append_nil]
    exact callM_of p1.rel p1.stp.back hv h1⟩
theorem pd_call0 (Fo : FnG X.prog X.w X.K X.mg X.base CX k f fd ps (spD X.K modes G)) (hr : Room k X.A) (hgd : X.A.guards = some []) (hg : Gl X x) (hm : X.mg x = some (.ref f)) (hk : PySem.W.keepIn X.K (.ref f) = true) (hb : Binds X.K fd ps []) (hx : ∀ σ, PassesAt CX X σ (WE W σ))
    (hdb : (x == ("__debug__" : Str)) = false := by decide) : PD X W (.Call (.Name x p) [] [] pos) (eCall modes G aNil) :=
  pe_imp (peg_call0 Fo hr hgd hg hm hk hb .nil hx hdb) fun σ H Q ⟨F, e, R, h⟩ => by
    have h1 := Aft.ret R h.bind
    show spD X.K modes G ([] ++ []) H Q (WE W σ)
    exact callM_of R (fun _ z => z) (vs := []) (rs := []) trivial h1

/-! fields -/
theorem RpF.lookup {K : Fg} {B : Ad} {H : Hp} {n : Str} : ∀ {vs : List (Str × V)} {ds : List (Str × D)}, RpF K B H vs ds → (∀ d, ds.lookup n = some d → ∃ v, vs.lookup n = some v ∧ Rp K B H v d) ∧ (ds.lookup n = none → vs.lookup n = none)
  | _, _, .nil => ⟨fun d h => (by cases h), fun _ => rfl⟩
  | _, _, .cons (n := q) (v := v) (d := d0) r t => by
    obtain ⟨a, b⟩ := RpF.lookup (n := n) t
    simp only [List.lookup_cons]
    cases n == q with
    | true => exact ⟨fun d h => (by cases h; exact ⟨v, rfl, r⟩), fun h => (by cases h)⟩
    | false => exact ⟨a, b⟩
theorem RpF.length {K : Fg} {B : Ad} {H : Hp} : ∀ {vs : List (Str × V)} {ds : List (Str × D)}, RpF K B H vs ds → vs.length = ds.length
  | _, _, .nil => rfl
  | _, _, .cons _ r => congrArg (· + 1) r.length
theorem RpB.ins {K : Fg} {B : Ad} {H : Hp} {v : V} {C : Addr} {ds : List (Str × D)} (h : RpB K B H v (.ins C ds)) : ∃ a dx fs, v = .ref a ∧ H a = some (.ins C dx fs) ∧ RpF K B H fs ds := by
  rcases h with h | ⟨p, rfl, dx, fs, h, r⟩
  · cases h with
    | ins nb h r => exact ⟨_, _, _, rfl, h, r⟩
  · exact ⟨p, dx, fs, rfl, h, r⟩
def eFld (C : Addr) (n : Str) (g : M RV) : M RV := M.bind g fun r => M.bind (M.get r) fun d => match d with
  | .ins C' ds => if C' = C then (match ds.lookup n with
    | some x => M.ret (.sh x)
    | none => M.bad) else M.bad
  | _ => M.bad
theorem pd_fld {n : Str} (he : PD X W o g) (hc : Cls X.K C) (hn : NoAttr X.K C n) (hb : attributeBase o n X.env (eval o X.env) = eval o X.env := by rfl) : PD X W (.Attribute o n pos) (eFld C n g) :=
  pe_imp (pe_fld he hb) fun σ H Q ⟨F, e, R, h⟩ => ⟨F, e, R, h.bind.imp fun r F1 e1 H1 p1 h1 v hv => by
    obtain ⟨d, ld, rd, h2⟩ := get_of p1.rel hv h1
    cases d with
    | ins C' ds =>
      simp only at h2
      by_cases hC : C' = C
      · subst hC
        rw [if_pos rfl] at h2
        obtain ⟨a, dx, fs, rfl, ha, rf⟩ := rd.ins
        cases hl : ds.lookup n with
        | none => simp only [hl] at h2; exact h2.elim
        | some y =>
          simp only [hl] at h2
          obtain ⟨v, lv, rv⟩ := rf.lookup.1 y hl
          exact ⟨a, C', dx, fs, v, rfl, ha, hc, hn, lv, Aft.ret p1.rel h2 v rv⟩
      · rw [if_neg hC] at h2; exact h2.elim
    | _ => exact h2.elim⟩
/-! methods of shared instances, of a slot's own instance -/
def eMeth (C : Addr) (m : Str) (modes : List Bool) (G : Fn) (g : M RV) (fs : M (List RV)) : M RV := M.bind (M.bind g M.esc) fun d => match d with
  | .ins C' ds => if C' = C ∧ ds.lookup m = none then M.bind fs fun rs => callM (false :: modes) G (.sh (.ins C' ds) :: rs) else M.bad
  | _ => M.bad
theorem meth_of {K : Fg} {σ : St} {H : Hp} {Q : VK} (h : tE W K (eMeth C m modes G g fs) σ H Q) : tMethG C m (spD K (false :: modes) G) [] (WE W) (tE W K g) (tA W K fs) σ H Q := by
  obtain ⟨F, e, R, h⟩ := h
  refine ⟨F, e, R, esc_of R (k := fun d F1 e1 H1 => Rel K F1 σ H1 e1 ∧ (∀ a, H1 a = none → H a = none) ∧ Aft W K F1 σ H1 e1 (fun r F' e' H' => ∀ v, Held K F' σ H H' e' v r → Q v H') ((match d with
    | .ins C' ds => if C' = C ∧ ds.lookup m = none then M.bind fs fun rs => callM (false :: modes) G (.sh (.ins C' ds) :: rs) else M.bad
    | _ => M.bad) e1)) (fun d F1 e1 H1 v ⟨R1, bk, h1⟩ rp => ?_) (h.bind.imp fun r F1 e1 H1 p1 h1 => ⟨p1.rel, p1.stp.back, h1⟩)⟩
  cases d with
  | ins C' ds =>
    simp only at h1
    by_cases hC : C' = C ∧ ds.lookup m = none
    · rw [if_pos hC] at h1
      obtain ⟨rfl, hl⟩ := hC
      obtain ⟨a, dx, fs', rfl, ha, rf⟩ := RpB.ins (.inl rp)
      refine ⟨a, dx, fs', rfl, ha, rf.lookup.2 hl, F1, e1, R1, h1.bind.imp fun rs F2 e2 H2 p2 h2 vs hv => ?_⟩
      show spD K (false :: modes) G (V.ref a :: (vs ++ [])) H2 Q (WE W σ)
      rw [List.append_nil]
      exact callM_of p2.rel (fun a z => bk a (p2.stp.back a z)) (vs := .ref a :: vs) (rs := .sh (.ins C' ds) :: rs) (show HeldL K F2 σ H H2 e2 (.ref a :: vs) (.sh (.ins C' ds) :: rs) from ⟨Rp.post rp p2, hv.back bk⟩) h2
    · rw [if_neg hC] at h1; exact h1.elim
  | _ => exact h1.elim
theorem pd_meth {pl : Sem Bool} (ho : PD X W o g) (c : Cls X.K C) (hm : Meth X.K C m f) (Fo : FnG X.prog X.w X.K X.mg X.base CX k f fd ps (spD X.K (false :: modes) G)) (hr : Room k X.A) (hgd : X.A.guards = some []) (hb : Binds X.K fd ps []) (hx : ∀ σ, PassesAt CX X σ (WE W σ)) (ha : PDA X W (e :: es) fs)
    (hst : starEach (e :: es) X.env = (false, eval e X.env) :: starEach es X.env := by rfl) (hpl : (backTo pos (starEach es X.env)).any (·.1) = false := by rfl)
    (ht : eval (.Call (.Attribute o m apos) (e :: es) [] pos) X.env = (do
      let ov ← eval o X.env
      standAt apos.atName
      let (f, first) ← holding [ov] (getMethod ov m pl)
      callWith pos f first (backTo pos (starEach (e :: es) X.env)) (backToKw pos (keywordEach [] X.env))) := by rfl) :
    PD X W (.Call (.Attribute o m apos) (e :: es) [] pos) (eMeth C m modes G g fs) :=
  pe_imp (peg_meth (pl := pl) ho c hm Fo hr hgd hb .nil hx ha hst hpl ht) fun _ _ _ => meth_of
theorem pd_meth0 {pl : Sem Bool} (ho : PD X W o g) (c : Cls X.K C) (hm : Meth X.K C m f) (Fo : FnG X.prog X.w X.K X.mg X.base CX k f fd ps (spD X.K [false] G)) (hr : Room k X.A) (hgd : X.A.guards = some []) (hb : Binds X.K fd ps []) (hx : ∀ σ, PassesAt CX X σ (WE W σ))
    (ht : eval (.Call (.Attribute o m apos) [] [] pos) X.env = (do
      let ov ← eval o X.env
      standAt apos.atName
      let (f, first) ← holding [ov] (getMethod ov m pl)
      callWith pos f first (backTo pos (starEach [] X.env)) (backToKw pos (keywordEach [] X.env))) := by rfl) :
    PD X W (.Call (.Attribute o m apos) [] [] pos) (eMeth C m [] G g aNil) :=
  pe_imp (peg_meth0 (pl := pl) ho c hm Fo hr hgd hb .nil hx ht) fun σ H Q h => by
    have h := meth_of h
    obtain ⟨F, e, R, h⟩ := h
    refine ⟨F, e, R, h.imp fun r F1 e1 H1 p1 h1 v hv => ?_⟩
    obtain ⟨a, dx, fs, ex, ha, hl, F2, e2, R2, h2⟩ := h1 v hv
    exact ⟨a, dx, fs, ex, ha, hl, Aft.ret R2 h2 [] trivial⟩
end

/-! ### an owned object is changed -/
section
variable {K : Fg} {F : Fx} {σ : St} {H : Hp} {e : En}
theorem Rel.mut {i : Nat} {f : Fl} {d0 d' : D} {p : Addr} {o : HO} (R : Rel K F σ H e) (g : getE e i = some (f, d0)) (n : f ≠ .sh) (s : getS σ i = some (.ref p)) (ho : OwnAt K (Bd F σ e) (upd H p o) p d') :
    Post K F σ H e F σ (upd H p o) (e.set i (some (f, d'))) ∧ ∀ a, Own σ (e.set i (some (f, d'))) a ↔ Own σ e a := by
  have hi := getE_lt g
  have own : Own σ e p := ⟨i, f, d0, g, n, s⟩
  have k1 : ∀ a u, H a = some u → ¬ Bd F σ e a → upd H p o a = some u := fun a u q nb => by
    have hne : a ≠ p := fun z => nb (.inr (by rw [z]; exact own))
    rw [upd_ne hne]; exact q
  have tr : ∀ a, upd H p o a = none → H a = none := fun a q => by
    by_cases ha : a = p
    · rw [ha, upd_same] at q; cases q
    · rw [upd_ne ha] at q; exact q
  have rr : Rel K F σ (upd H p o) (e.set i (some (f, d'))) ∧ ∀ a, Own σ (e.set i (some (f, d'))) a ↔ Own σ e a := by
    refine R.reown (List.length_set ..) (fun j f' d q => ?_) (fun j f' d q => ?_) k1 (fun a z => .inl z) (fun j f' d q' q n' s' => ?_) (fun a z => ⟨(R.ext a z).1, fun w => (R.ext a z).2 (tr a w)⟩) rfl
    · by_cases hj : i = j
      · subst hj
        rw [getE_set_same hi] at q; cases q
        exact ⟨d0, g, fun z => absurd z n⟩
      · rw [getE_set_ne hj] at q
        exact ⟨d, q, fun _ => rfl⟩
    · by_cases hj : i = j
      · subst hj
        rw [g] at q; cases q
        exact ⟨d', getE_set_same hi⟩
      · exact ⟨d, by rw [getE_set_ne hj]; exact q⟩
    · by_cases hj : i = j
      · subst hj
        rw [getE_set_same hi] at q; cases q
        rw [s] at s'; cases s'
        exact ho
      · rw [getE_set_ne hj] at q
        obtain ⟨p', a, b⟩ := R.own j f' d q n'
        rw [s'] at a; cases a
        refine b.step k1 (fun a z => .inl z) (upd_ne fun z => ?_)
        subst z
        exact hj (R.dist i j f f' d0 d _ g n q n' s s')
  exact ⟨⟨rr.1, ⟨fun a u q nb => by
    have hne : a ≠ p := fun z => nb (by rw [z]; exact own)
    rw [upd_ne hne]; exact q, tr⟩, fun a z => .inl ((rr.2 a).mp z), .refl⟩, rr.2⟩
theorem step_upd {p : Addr} {o : HO} {B : Ad} (hp : B p) : ∀ a u, H a = some u → ¬ B a → upd H p o a = some u := fun a u q nb => by
  have hne : a ≠ p := fun z => nb (by rw [z]; exact hp)
  rw [upd_ne hne]; exact q
end
/-- a method of the list in slot i that changes it: what it holds then -/
def eMut (i : Nat) (dop : List D → List D → Option (List D)) (fs : M (List D)) : M RV := M.bind (eVar i) fun _ => M.bind (M.get (.sl i)) fun d0 => match d0 with
  | .lst _ => M.bind fs fun ds => fun e => match getE e i with
    | some (.sh, _) => .bad
    | some (f, .lst xs) => (match dop xs ds with
      | some ys => .ok (.sh .non) (e.set i (some (f, .lst ys)))
      | none => .bad)
    | _ => .bad
  | _ => M.bad
/-- what such a method does by values: op on any lists of values, as dop on their data -/
def rMut (vop : List V → List V → List V) (ok : List V → List V → Prop) : V → List V → Hp → VK → Prop := fun x vs H Q => ∃ l xs, x = .ref l ∧ H l = some (.lst xs) ∧ ok xs vs ∧ Q .non (upd H l (.lst (vop xs vs)))
section
variable {X : Cx} {W : Wx} {apos cpos p pos : Pos} {e o : Expr} {es : List Expr} {fs : M (List D)} {name : Str} {id : String} {i : Nat} {dop : List D → List D → Option (List D)} {vop : List V → List V → List V} {ok : List V → List V → Prop}
theorem RpL.sqB {K : Fg} {B : Ad} {H : Hp} {v : V} {ds : List D} (h : RpB K B H v (.lst ds)) : ∃ a vs, v = .ref a ∧ SqL K H a vs ∧ RpL K B H vs ds := by
  rcases h with h | ⟨p, rfl, vs, h, r⟩
  · obtain ⟨a, vs, e, t, r⟩ := RpL.sq_lst h
    exact ⟨a, vs, e, t.sq, r⟩
  · exact ⟨p, vs, rfl, SqL.of h, r⟩
theorem mut_of {K : Fg} {σ : St} {H : Hp} {Q : VK} (hop : ∀ B H xs vs ds es ys, RpL K B H xs ds → RpL K B H vs es → dop ds es = some ys → ok xs vs ∧ RpL K B H (vop xs vs) ys) (h : tE W K (eMut i dop fs) σ H Q) :
    tBM K "list" (rMut vop ok) (tE W K (eVar i)) (tAD W K fs) σ H Q := by
  obtain ⟨F, e, R, h⟩ := h
  refine ⟨F, e, R, ?_⟩
  have hb := h.bind
  unfold eVar at hb ⊢
  cases w : getE e i with
  | none => simp only [w] at hb; exact hb
  | some y =>
    simp only [w] at hb ⊢
    intro F1 H1 p1 v hv
    have h1 := hb F1 H1 p1
    obtain ⟨d0, l0, r0, h2⟩ := get_of p1.rel (H0 := H) hv h1
    cases d0 with
    | lst xs0 =>
      simp only at h2
      obtain ⟨a, vs0, rfl, sq, _⟩ := RpL.sqB r0
      refine ⟨.inl ⟨rfl, vs0, sq⟩, F1, e, p1.rel, h2.bind.imp fun ds F2 e2 H2 p2 h3 vs rvs => ?_⟩
      cases g : getE e2 i with
      | none => simp only [g] at h3; exact h3.elim
      | some z =>
        obtain ⟨f, d⟩ := z
        have own : f ≠ .sh → ∀ xs, d = .lst xs → ∀ ys, dop xs ds = some ys → (∀ F' H', Post K F2 σ H2 e2 F' σ H' (e2.set i (some (f, .lst ys))) → ∀ v, Held K F' σ H H' (e2.set i (some (f, .lst ys))) v (.sh .non) → Q v H') → rMut vop ok (.ref a) vs H2 Q := fun n xs ed ys hd hq => by
          subst ed
          obtain ⟨q, s, xvs, hx, rx⟩ := p2.rel.own i f _ g n
          have hv' := (show getS σ i = some (.ref a) from hv).symm.trans s
          cases hv'
          obtain ⟨h4, h5⟩ := hop _ _ _ _ _ _ _ rx rvs hd
          have bq : Bd F2 σ e2 a := .inr ⟨i, f, _, g, n, s⟩
          obtain ⟨po, _⟩ := p2.rel.mut (o := .lst (vop xvs vs)) (d' := .lst ys) g n s ⟨_, upd_same, h5.step (step_upd bq) fun a z => .inl z⟩
          exact ⟨a, xvs, rfl, hx, h4, hq F2 _ po _ .non⟩
        cases d with
        | lst xs =>
          cases f with
          | sh => simp only [g] at h3; exact h3.elim
          | ow =>
            simp only [g] at h3
            cases hd : dop xs ds with
            | none => simp only [hd] at h3; exact h3.elim
            | some ys => simp only [hd] at h3; exact own (by decide) xs rfl ys hd h3
          | mu =>
            simp only [g] at h3
            cases hd : dop xs ds with
            | none => simp only [hd] at h3; exact h3.elim
            | some ys => simp only [hd] at h3; exact own (by decide) xs rfl ys hd h3
        | _ => cases f <;> (simp only [g] at h3; exact h3.elim)
    | _ => exact h2.elim
theorem pd_mut {x : Str} (hN : X.N[i]? = some x) (hv : Vis X.env.scope x) (slot : Slot "list" name id) (hty : typeOf (.builtin id) = pure (.type "method_descriptor")) (hm : MtR X id (rMut vop ok)) (hop : ∀ B H xs vs ds es ys, RpL X.K B H xs ds → RpL X.K B H vs es → dop ds es = some ys → ok xs vs ∧ RpL X.K B H (vop xs vs) ys)
    (ha : PDL X W (e :: es) fs) (hd : (x == ("__debug__" : Str)) = false := by decide) (hcd : (x == ("__classdict__" : Str)) = false := by decide)
    (hbase : attributeBase (.Name x p) name X.env (eval (.Name x p) X.env) = eval (.Name x p) X.env := by rfl)
    (hfew : ((backTo cpos (starEach (e :: es) X.env)).all (fun x => !x.1) && (backToKw cpos (keywordEach [] X.env)).all (fun x => x.1.isSome)
      && decide ((e :: es).length + ([] : List Keyword).length + (if ([] : List Keyword).isEmpty then 0 else 1) < 30)) = true := by rfl)
    (hline : (apos.endLine == cpos.line) = true := by rfl) (hs : starEach (e :: es) X.env = (false, eval e X.env) :: starEach es X.env := by rfl) (hplain : (backTo cpos (starEach es X.env)).any (·.1) = false := by rfl) :
    PD X W (.Call (.Attribute (.Name x p) name apos) (e :: es) [] cpos) (eMut i dop fs) :=
  pe_imp (pe_bm PySem.F.plainAttrs_list slot hty hm (pd_var (W := W) (pos := p) hN hv hd hcd) ha hbase hfew hline hs hplain) fun _ _ _ => mut_of hop
theorem pd_mut0 {x : Str} (hN : X.N[i]? = some x) (hv : Vis X.env.scope x) (slot : Slot "list" name id) (hty : typeOf (.builtin id) = pure (.type "method_descriptor")) (hm : MtR X id (rMut vop ok)) (hop : ∀ B H xs vs ds es ys, RpL X.K B H xs ds → RpL X.K B H vs es → dop ds es = some ys → ok xs vs ∧ RpL X.K B H (vop xs vs) ys)
    (hd : (x == ("__debug__" : Str)) = false := by decide) (hcd : (x == ("__classdict__" : Str)) = false := by decide)
    (hbase : attributeBase (.Name x p) name X.env (eval (.Name x p) X.env) = eval (.Name x p) X.env := by rfl) (hline : (apos.endLine == cpos.line) = true := by rfl) :
    PD X W (.Call (.Attribute (.Name x p) name apos) [] [] cpos) (eMut i dop aNil) :=
  pe_imp (pe_bm0 PySem.F.plainAttrs_list slot hty hm (pd_var (W := W) (pos := p) hN hv hd hcd) hbase hline) fun σ H Q h => by
    have h := mut_of (W := W) hop h
    obtain ⟨F, e, R, h⟩ := h
    refine ⟨F, e, R, h.imp fun r F1 e1 H1 p1 h1 v hv => ?_⟩
    obtain ⟨ty, F2, e2, R2, h2⟩ := h1 v hv
    exact ⟨ty, Aft.ret R2 h2 [] .nil⟩
def dApp (xs ds : List D) : Option (List D) := match ds with
  | [y] => if xs.length < sizeLine then some (xs ++ [y]) else none
  | _ => none
theorem mt_app : MtR X "list.append" (rMut (fun xs vs => xs ++ vs) fun xs vs => xs.length < sizeLine ∧ ∃ y, vs = [y]) := fun pins s σ H x vs v us Q I rx rv ⟨l, xs, e1, h1, ⟨h2, y, e2⟩, q⟩ =>
  mt_append pins s σ H x vs v us Q I rx rv ⟨l, xs, y, e1, e2, h1, h2, by rw [e2] at q; exact q⟩
theorem RpL.app {K : Fg} {B : Ad} {H : Hp} : ∀ {vs ws : List V} {ds es : List D}, RpL K B H vs ds → RpL K B H ws es → RpL K B H (vs ++ ws) (ds ++ es)
  | _, _, _, _, .nil, h => h
  | _, _, _, _, .cons a r, h => .cons a (r.app h)
theorem pd_append {x : Str} (hN : X.N[i]? = some x) (hv : Vis X.env.scope x) (ha : PDL X W [e] fs) (hd : (x == ("__debug__" : Str)) = false := by decide) (hcd : (x == ("__classdict__" : Str)) = false := by decide)
    (hbase : attributeBase (.Name x p) "append" X.env (eval (.Name x p) X.env) = eval (.Name x p) X.env := by rfl)
    (hfew : ((backTo cpos (starEach [e] X.env)).all (fun x => !x.1) && (backToKw cpos (keywordEach [] X.env)).all (fun x => x.1.isSome)
      && decide ([e].length + ([] : List Keyword).length + (if ([] : List Keyword).isEmpty then 0 else 1) < 30)) = true := by rfl)
    (hline : (apos.endLine == cpos.line) = true := by rfl) (hs : starEach [e] X.env = (false, eval e X.env) :: starEach [] X.env := by rfl) (hplain : (backTo cpos (starEach [] X.env)).any (·.1) = false := by rfl) :
    PD X W (.Call (.Attribute (.Name x p) "append" apos) [e] [] cpos) (eMut i dApp fs) :=
  pd_mut hN hv PySem.F.slot_list_append PySem.F.type_list_append mt_app (fun B H xs vs ds es ys r1 r2 q => by
    unfold dApp at q
    match es, r2, q with
    | [y], r2, q =>
      simp only at q
      split at q
      · rename_i hz
        cases q
        cases r2 with
        | cons a b =>
          cases b
          exact ⟨⟨by rw [r1.length]; exact hz, _, rfl⟩, r1.app (.cons a .nil)⟩
      · cases q) ha hd hcd hbase hfew hline hs hplain
def dRev (xs ds : List D) : Option (List D) := match ds with
  | [] => some xs.reverse
  | _ => none
theorem RpL.rev {K : Fg} {B : Ad} {H : Hp} : ∀ {vs : List V} {ds : List D}, RpL K B H vs ds → RpL K B H vs.reverse ds.reverse
  | _, _, .nil => .nil
  | _, _, .cons a r => by rw [List.reverse_cons, List.reverse_cons]; exact r.rev.app (.cons a .nil)
theorem mt_rev : MtR X "list.reverse" (rMut (fun xs vs => xs.reverse) fun xs vs => vs = []) := fun pins s σ H x vs v us Q I rx rv ⟨l, xs, e1, h1, e2, q⟩ =>
  mt_reverse pins s σ H x vs v us Q I rx rv ⟨l, xs, e1, e2, h1, q⟩
theorem pd_reverse {x : Str} (hN : X.N[i]? = some x) (hv : Vis X.env.scope x) (hd : (x == ("__debug__" : Str)) = false := by decide) (hcd : (x == ("__classdict__" : Str)) = false := by decide)
    (hbase : attributeBase (.Name x p) "reverse" X.env (eval (.Name x p) X.env) = eval (.Name x p) X.env := by rfl) (hline : (apos.endLine == cpos.line) = true := by rfl) :
    PD X W (.Call (.Attribute (.Name x p) "reverse" apos) [] [] cpos) (eMut i dRev aNil) :=
  pd_mut0 hN hv PySem.F.slot_list_reverse PySem.F.type_list_reverse mt_rev (fun B H xs vs ds es ys r1 r2 q => by
    unfold dRev at q
    match es, r2, q with
    | [], r2, q => cases q; cases r2; exact ⟨rfl, r1.rev⟩) hd hcd hbase hline
end
end Cw

set_option maxHeartbeats 4000000
/-! Cw, part Ib: tuple * int, all counts from 0 to 1000 -/
namespace Cw
open PySem L2 PySem.Spec PyProof.Rows
/-- the same object -/
theorem tuple_mulS (l : Addr) (items : Array Value) (n : Nat) (dd : Option Addr) (sl : Array (Option Value)) (x : Int) (u : Tok) (c0 : (decide (x < -(2 ^ 63)) || decide (x ≥ 2 ^ 63)) = false) (c1 : (items.isEmpty || x == 1) = true) :
    Meets (Builtin.«tuple.__mul__» ⟨[.ref l, .int x u], []⟩) (fun _ R s => s.heap.get? l = some { cls := .type "tuple", dict := dd, data := .seq items n, slots := sl } ∧
      R (.ok (.ret (Value.ref l))) s) :=
  .of_wp fun prog w A R s h => by
    obtain ⟨hp, g, d, tk, os⟩ := s
    obtain ⟨hl, h⟩ := h
    have f1 := AutoSeq1.idx_int
    wp_walk using wpAny_loadPart' hl
    repeat (first
      | (refine wpAny_ite_false (decide_eq_false (by rw [c0]; exact Bool.false_ne_true)) ?_; wp_walk using wpAny_loadPart' hl)
      | (refine wpAny_ite_true (decide_eq_true c1) ?_; wp_walk using wpAny_loadPart' hl))
    exact ⟨_, rfl, h⟩
/-- none of them -/
theorem tuple_mulZ (l : Addr) (items : Array Value) (n : Nat) (dd : Option Addr) (sl : Array (Option Value)) (x : Int) (u : Tok) (c0 : (decide (x < -(2 ^ 63)) || decide (x ≥ 2 ^ 63)) = false) (c1 : (items.isEmpty || x == 1) = false) (c2 : (decide (x ≤ 0) || items.isEmpty) = true) :
    Meets (Builtin.«tuple.__mul__» ⟨[.ref l, .int x u], []⟩) (fun _ R s => s.heap.get? l = some { cls := .type "tuple", dict := dd, data := .seq items n, slots := sl } ∧
      R (.ok (.ret (Value.ref s.heap.objs.size))) { s with heap := s.heap.push { cls := Value.type "tuple", data := Data.seq #[] }, toks := s.toks }) :=
  .of_wp fun prog w A R s h => by
    obtain ⟨hp, g, d, tk, os⟩ := s
    obtain ⟨hl, h⟩ := h
    have f1 := AutoSeq1.idx_int
    wp_walk using wpAny_loadPart' hl
    repeat (first
      | (refine wpAny_ite_false (decide_eq_false (by rw [c0]; exact Bool.false_ne_true)) ?_; wp_walk using wpAny_loadPart' hl)
      | (refine wpAny_ite_false (decide_eq_false (by rw [c1]; exact Bool.false_ne_true)) ?_; wp_walk using wpAny_loadPart' hl)
      | (refine wpAny_ite_true (decide_eq_true c2) ?_; wp_walk using wpAny_loadPart' hl))
    exact ⟨_, rfl, h⟩
def rRepA (K : PySem.W.Frag) : R2 := fun x y H Q => ∃ l k xs, x = .ref l ∧ y = .int k ∧ SqT K H l xs ∧ 0 ≤ k ∧ k ≤ 1000 ∧ xs.length ≤ 1000 ∧ ((xs = [] ∨ k = 1) → Q (.ref l) H) ∧
  (xs ≠ [] → k ≠ 1 → ∀ p, H p = none → Q (.ref p) (upd H p (.tup (List.replicate k.toNat xs).flatten)))
variable {X : Cx}
theorem op_repTA : OpR X (binaryOp .Mult) (rRepA X.K) := by
  intro pins s σ H x y v u Q I rx ry h
  obtain ⟨l, k, xs, rfl, rfl, hT, h0, h1, hz, qs, qn⟩ := h
  by_cases hbig : xs ≠ [] ∧ 2 ≤ k
  · exact op_repT pins s σ H _ _ v u Q I rx ry ⟨l, k, xs, rfl, rfl, hT, hbig.1, hbig.2, h1, hz, qn hbig.1 (by omega)⟩
  cases rx
  obtain ⟨t, rfl⟩ := ry
  obtain ⟨its, r, ⟨⟨cls, dd, data, sl⟩, ho, hc, n, hd⟩, hs⟩ := I.tuple hT
  simp only at hc hd
  subst hc hd
  have hle : its.length = xs.length := r.length.symm
  have c0 : (decide (k < -(2 ^ 63)) || decide (k ≥ 2 ^ 63)) = false := by
    rw [decide_eq_false (by omega), decide_eq_false (by omega)] <;> rfl
  by_cases hsame : xs = [] ∨ k = 1
  · have c1 : (its.toArray.isEmpty || k == 1) = true := by
      rcases hsame with e | e
      · rw [e] at hle
        rw [List.eq_nil_of_length_eq_zero hle]; rfl
      · rw [e]; simp
    refine wpAny_binaryOp_repeat_ref (T := "tuple") (U := "int") (by decide) ⟨_, ho, rfl⟩ (fun s' => typeIs_int s' k t) noFill_tuple_mul F.fills_int_mul F.slot_int_rmul repeat_tuple F.slot_int_index.lookup
      (call_meets F.slot_int_rmul (typeIs_int s k t) F.entry_int_rmul (F.args_int_rmul_2 _ _) (int_rmul_tuple k t l its.toArray n dd sl)
        ⟨ho, rfl, ⟨_, ho, rfl⟩, call_meets F.slot_tuple_mul ⟨_, ho, rfl⟩ F.entry_tuple_mul (F.args_tuple_mul_2 _ _) (tuple_mulS l its.toArray n dd sl k t c0 c1) ⟨ho, ?_⟩⟩)
    exact ⟨.ref l, H, I, rfl, qs hsame⟩
  · have hne : xs ≠ [] := fun e => hsame (.inl e)
    have hk : k = 0 := by
      have : k ≠ 1 := fun e => hsame (.inr e)
      have : ¬ 2 ≤ k := fun e => hbig ⟨hne, e⟩
      omega
    have hn : its ≠ [] := fun e => hne (by
      rw [e] at hle
      exact List.eq_nil_of_length_eq_zero hle.symm)
    have hi : its.toArray.isEmpty = false := by
      cases its with
      | nil => exact absurd rfl hn
      | cons a b => rfl
    have c1 : (its.toArray.isEmpty || k == 1) = false := by
      rw [hi, Bool.false_or]
      exact beq_eq_false_iff_ne.mpr (by omega)
    have c2 : (decide (k ≤ 0) || its.toArray.isEmpty) = true := by
      rw [decide_eq_true (by omega)]; rfl
    refine wpAny_binaryOp_repeat_ref (T := "tuple") (U := "int") (by decide) ⟨_, ho, rfl⟩ (fun s' => typeIs_int s' k t) noFill_tuple_mul F.fills_int_mul F.slot_int_rmul repeat_tuple F.slot_int_index.lookup
      (call_meets F.slot_int_rmul (typeIs_int s k t) F.entry_int_rmul (F.args_int_rmul_2 _ _) (int_rmul_tuple k t l its.toArray n dd sl)
        ⟨ho, rfl, ⟨_, ho, rfl⟩, call_meets F.slot_tuple_mul ⟨_, ho, rfl⟩ F.entry_tuple_mul (F.args_tuple_mul_2 _ _) (tuple_mulZ l its.toArray n dd sl k t c0 c1 c2) ⟨ho, ?_⟩⟩)
    have q := qn hne (by omega) s.heap.objs.size (I.hok.fresh (Nat.le_refl _))
    subst hk
    refine ⟨.ref s.heap.objs.size, _, I.laid (t' := s.toks) (o := .tup []) (fun b ob q => Heap.get?_push_of_some _ q) (Nat.le_refl _) ?_, rfl, q⟩
    exact ⟨Nat.zero_le _, [], .nil, IsTup.new _ _⟩
end Cw

/-! Cw, part J: operations on data. -/
namespace Cw
open PySem L2

section
variable {K : Fg} {B : Ad} {H : Hp} {v : V} {Q : VK}
theorem RpB.tup {ds : List D} (h : RpB K B H v (.tup ds)) : ∃ a vs, v = .ref a ∧ TupAt K B H a vs ∧ RpL K B H vs ds := by
  rcases h with h | ⟨p, _, h⟩
  · exact h.tup_inv
  · exact h.elim
theorem RpB.lst {ds : List D} (h : RpB K B H v (.lst ds)) : ∃ a vs, v = .ref a ∧ H a = some (.lst vs) ∧ RpL K B H vs ds := by
  rcases h with h | ⟨p, rfl, vs, h, r⟩
  · obtain ⟨a, vs, e, t, r⟩ := RpL.sq_lst h
    exact ⟨a, vs, e, t.2, r⟩
  · exact ⟨p, vs, rfl, h, r⟩
theorem RpB.scr {ds : List D} (h : RpB K B H v (.scr ds)) : ∃ a vs, v = .ref a ∧ SqL K H a vs ∧ RpL K B H vs ds := by
  rcases h with h | ⟨p, _, h⟩
  · cases h with
    | scr t r => exact ⟨_, _, rfl, t.sq, r⟩
  · exact h.elim
theorem Res.int {i : Int} (h : Res K B H Q (some (false, .int i))) : Q (.int i) H := h _ H (Same.refl H) (.int i)
theorem Res.bl {i : Bool} (h : Res K B H Q (some (false, .bl i))) : Q (.bl i) H := h _ H (Same.refl H) (.bl i)
theorem Res.str {i : Str} (h : Res K B H Q (some (false, .str i))) : Q (.str i) H := h _ H (Same.refl H) (.str i)
theorem Res.old {d : D} {v : V} (h : Res K B H Q (some (false, d))) (r : Rp K B H v d) : Q v H := h _ H (Same.refl H) r
/-- what is new is in no one's way -/
theorem Res.newT {ds : List D} {vs : List V} (tr : Trk B H) (h : Res K B H Q (some (false, .tup ds))) (r : RpL K B H vs ds) : ∀ p, H p = none → Q (.ref p) (upd H p (.tup vs)) := fun p np => by
  have s := same_upd (o := .tup vs) np
  exact h _ _ s (.tup ⟨fun z => tr p z np, upd_same⟩ (r.step (fun a o q _ => s a o q) fun a z => .inl z))
theorem Res.newL {ds : List D} {vs : List V} (h : Res K B H Q (some (true, .lst ds))) (r : RpL K B H vs ds) : ∀ p, H p = none → Q (.ref p) (upd H p (.lst vs)) := fun p np => by
  have s := same_upd (o := .lst vs) np
  exact h p _ s np ⟨vs, upd_same, r.step (fun a o q _ => s a o q) fun a z => z.elim .inl fun z => .inr (z ▸ np)⟩
end

/-! ### ints -/
def dSub : D → D → Option (Bool × D)
  | .int i, .int j => some (false, .int (i - j))
  | _, _ => none
def dMod : D → D → Option (Bool × D)
  | .int i, .int j => if 0 < j then some (false, .int (i % j)) else none
  | _, _ => none
def dDiv : D → D → Option (Bool × D)
  | .int i, .int j => if 0 < j ∧ j < 1073741824 then some (false, .int (i / j)) else none
  | _, _ => none
noncomputable def smallI (i : Int) : Bool := @decide (-(2 ^ 64) < i ∧ i < 2 ^ 64) (Classical.propDecidable _)
noncomputable def repL (k : Int) (n : Nat) : Bool := @decide (0 ≤ k ∧ k < 2 ^ 63 ∧ n * k.toNat ≤ sizeLine) (Classical.propDecidable _)
noncomputable def repT (k : Int) (n : Nat) : Bool := @decide (0 ≤ k ∧ k ≤ 1000 ∧ n ≤ 1000) (Classical.propDecidable _)
theorem smallI_of {i : Int} (h : -(2 ^ 64) < i ∧ i < 2 ^ 64) : smallI i = true := by unfold smallI; exact @decide_eq_true _ (Classical.propDecidable _) h
theorem repL_of {k : Int} {n : Nat} (h : 0 ≤ k ∧ k < 2 ^ 63 ∧ n * k.toNat ≤ sizeLine) : repL k n = true := by unfold repL; exact @decide_eq_true _ (Classical.propDecidable _) h
theorem repT_of {k : Int} {n : Nat} (h : 0 ≤ k ∧ k ≤ 1000 ∧ n ≤ 1000) : repT k n = true := by unfold repT; exact @decide_eq_true _ (Classical.propDecidable _) h
theorem smallI_to {i : Int} (h : smallI i = true) : -(2 ^ 64) < i ∧ i < 2 ^ 64 := by unfold smallI at h; exact @of_decide_eq_true _ (Classical.propDecidable _) h
theorem repL_to {k : Int} {n : Nat} (h : repL k n = true) : 0 ≤ k ∧ k < 2 ^ 63 ∧ n * k.toNat ≤ sizeLine := by unfold repL at h; exact @of_decide_eq_true _ (Classical.propDecidable _) h
theorem repT_to {k : Int} {n : Nat} (h : repT k n = true) : 0 ≤ k ∧ k ≤ 1000 ∧ n ≤ 1000 := by unfold repT at h; exact @of_decide_eq_true _ (Classical.propDecidable _) h
def dAdd : D → D → Option (Bool × D)
  | .int i, .int j => some (false, .int (i + j))
  | .str i, .str j => if i.length + j.length ≤ sizeLine then some (false, .str (i ++ j)) else none
  | .tup xs, .tup ys => if xs.length + ys.length ≤ sizeLine then some (false, .tup (xs ++ ys)) else none
  | .lst xs, .lst ys => if xs.length + ys.length ≤ sizeLine then some (true, .lst (xs ++ ys)) else none
  | _, _ => none
noncomputable def dMul : D → D → Option (Bool × D)
  | .int i, .int j => if smallI i || smallI j then some (false, .int (i * j)) else none
  | .lst xs, .int k => if repL k xs.length = true then some (true, .lst (List.replicate k.toNat xs).flatten) else none
  | .tup xs, .int k => if repT k xs.length = true then some (false, .tup (List.replicate k.toNat xs).flatten) else none
  | _, _ => none
def dAbs : List D → Option (Bool × D)
  | [.int i] => some (false, .int (if i < 0 then -i else i))
  | _ => none
def dInt : List D → Option (Bool × D)
  | [.int i] => some (false, .int i)
  | [.bl k] => some (false, .int (if k then 1 else 0))
  | _ => none
theorem opr_or {X : Cx} {f : Value → Value → Sem Value} {r r' : R2} (h : OpR X f r) (h' : OpR X f r') : OpR X f (fun x y H Q => r x y H Q ∨ r' x y H Q) := fun pins s σ H x y v u Q I rx ry q =>
  q.elim (h pins s σ H x y v u Q I rx ry) (h' pins s σ H x y v u Q I rx ry)
theorem opr_imp {X : Cx} {f : Value → Value → Sem Value} {r r' : R2} (h : OpR X f r) (k : ∀ x y H Q, r' x y H Q → r x y H Q) : OpR X f r' := fun pins s σ H x y v u Q I rx ry q => h pins s σ H x y v u Q I rx ry (k x y H Q q)
theorem callr_imp {X : Cx} {f : Value} {r r' : List V → Hp → VK → Prop} (h : CallR X f r) (k : ∀ x H Q, r' x H Q → r x H Q) : CallR X f r' := fun pins s σ H x v Q I rx q => h pins s σ H x v Q I rx (k x H Q q)
theorem callr_or {X : Cx} {f : Value} {r r' : List V → Hp → VK → Prop} (h : CallR X f r) (h' : CallR X f r') : CallR X f (fun x H Q => r x H Q ∨ r' x H Q) := fun pins s σ H x v Q I rx q => q.elim (h pins s σ H x v Q I rx) (h' pins s σ H x v Q I rx)
theorem ixr_imp {X : Cx} {r r' : R2} (h : IxR X r) (k : ∀ x y H Q, r' x y H Q → r x y H Q) : IxR X r' := fun a b pins s σ H x y v u Q I rx ry q => h a b pins s σ H x y v u Q I rx ry (k x y H Q q)
theorem slr_imp {X : Cx} {r r' : V → Option Int → Option Int → Hp → VK → Prop} (h : SlR X r) (k : ∀ x a b H Q, r' x a b H Q → r x a b H Q) : SlR X r' := fun pins s σ H x v vl vu lo hi sl Q I rx h1 h2 h3 q => h pins s σ H x v vl vu lo hi sl Q I rx h1 h2 h3 (k x lo hi H Q q)
section
variable {X : Cx}
theorem od_sub : OpR X (binaryOp .Sub) (rD2 X.K dSub) := opr_imp op_sub fun x y H Q ⟨B, dx, dy, tr, rx, ry, q⟩ => by
  unfold dSub at q; split at q
  · exact ⟨_, _, rx.int, ry.int, q.int⟩
  · exact q.elim
theorem od_mod : OpR X (binaryOp .Mod) (rD2 X.K dMod) := opr_imp op_mod fun x y H Q ⟨B, dx, dy, tr, rx, ry, q⟩ => by
  unfold dMod at q; split at q
  · split at q
    · rename_i hj
      exact ⟨_, _, rx.int, ry.int, hj, q.int⟩
    · exact q.elim
  · exact q.elim
theorem od_div : OpR X (binaryOp .FloorDiv) (rD2 X.K dDiv) := opr_imp op_fdiv fun x y H Q ⟨B, dx, dy, tr, rx, ry, q⟩ => by
  unfold dDiv at q; split at q
  · split at q
    · rename_i hj
      exact ⟨_, _, rx.int, ry.int, hj, q.int⟩
    · exact q.elim
  · exact q.elim
theorem RpL.nil_iff {K : Fg} {B : Ad} {H : Hp} {vs : List V} {ds : List D} (h : RpL K B H vs ds) : vs = [] ↔ ds = [] := by
  cases h <;> simp
theorem od_add : OpR X (binaryOp .Add) (rD2 X.K dAdd) := opr_imp (opr_or (opr_or op_add op_add_str) (opr_or op_catA op_cat)) fun x y H Q ⟨B, dx, dy, tr, rx, ry, q⟩ => by
  unfold dAdd at q; split at q
  · exact .inl (.inl ⟨_, _, rx.int, ry.int, q.int⟩)
  · split at q
    · rename_i hz
      exact .inl (.inr ⟨_, _, rx.str, ry.str, hz, q.str⟩)
    · exact q.elim
  · rename_i xs ys
    split at q
    · rename_i hz
      obtain ⟨a, vs, rfl, ta, ra⟩ := rx.tup
      obtain ⟨b, ws, rfl, tb, rb⟩ := ry.tup
      refine .inr (.inl ⟨a, b, vs, ws, rfl, rfl, ta.sq, tb.sq, by rw [ra.length, rb.length]; exact hz, fun e => ?_, fun n e => ?_, fun n m => Res.newT tr q (ra.app rb)⟩)
      · have e2 := ra.nil_iff.mp e
        subst e2
        exact q.old (.tup tb rb)
      · have e2 := rb.nil_iff.mp e
        subst e2
        rw [List.append_nil] at q
        exact q.old (.tup ta ra)
    · exact q.elim
  · rename_i xs ys
    split at q
    · rename_i hz
      obtain ⟨a, vs, rfl, ta, ra⟩ := rx.lst
      obtain ⟨b, ws, rfl, tb, rb⟩ := ry.lst
      exact .inr (.inr ⟨a, b, vs, ws, rfl, rfl, ta, tb, by rw [ra.length, rb.length]; exact hz, Res.newL q (ra.app rb)⟩)
    · exact q.elim
  · exact q.elim
theorem RpL.rep {K : Fg} {B : Ad} {H : Hp} {vs : List V} {ds : List D} (h : RpL K B H vs ds) : ∀ n, RpL K B H (List.replicate n vs).flatten (List.replicate n ds).flatten
  | 0 => .nil
  | n + 1 => by rw [List.replicate_succ, List.replicate_succ, List.flatten_cons, List.flatten_cons]; exact h.app (h.rep n)
theorem od_mul : OpR X (binaryOp .Mult) (rD2 X.K dMul) := opr_imp (opr_or (opr_or op_mul op_rep) op_repTA) fun x y H Q ⟨B, dx, dy, tr, rx, ry, q⟩ => by
  unfold dMul at q; split at q
  · split at q
    · rename_i hj
      rw [Bool.or_eq_true] at hj
      exact .inl (.inl ⟨_, _, rx.int, ry.int, hj.imp smallI_to smallI_to, q.int⟩)
    · exact q.elim
  · split at q
    · rename_i hz
      have hz := repL_to hz
      obtain ⟨a, vs, rfl, ta, ra⟩ := rx.lst
      exact .inl (.inr ⟨a, _, vs, rfl, ry.int, ta, by omega, hz.2.1, by rw [ra.length]; exact hz.2.2, Res.newL q (ra.rep _)⟩)
    · exact q.elim
  · rename_i xs k
    split at q
    · rename_i hz
      have hz := repT_to hz
      obtain ⟨a, vs, rfl, ta, ra⟩ := rx.tup
      refine .inr ⟨a, _, vs, rfl, ry.int, ta.sq, hz.1, hz.2.1, by rw [ra.length]; exact hz.2.2, fun e => ?_, fun _ _ => Res.newT tr q (ra.rep _)⟩
      have e2 : (List.replicate k.toNat xs).flatten = xs := by
        rcases e with e | e
        · have e3 := ra.nil_iff.mp e
          subst e3
          simp
        · subst e
          simp
      rw [e2] at q
      exact q.old (.tup ta ra)
    · exact q.elim
  · exact q.elim
theorem cd_abs : CallR X (.builtin "abs") (rDn X.K dAbs) := callr_imp call_abs fun xs H Q ⟨B, ds, tr, rs, q⟩ => by
  unfold dAbs at q; split at q
  · obtain ⟨v, rfl, r⟩ := rs.one
    exact ⟨_, by rw [r.int], q.int⟩
  · exact q.elim
theorem cd_int : CallR X (.type "int") (rDn X.K dInt) := callr_imp call_int1 fun xs H Q ⟨B, ds, tr, rs, q⟩ => by
  unfold dInt at q; split at q
  · obtain ⟨v, rfl, r⟩ := rs.one
    exact .inl ⟨_, by rw [r.int], q.int⟩
  · obtain ⟨v, rfl, r⟩ := rs.one
    exact .inr ⟨_, by rw [r.bl], q.int⟩
  · exact q.elim
/-! comparisons of ints -/
def dCmp (p : Int → Int → Bool) : D → D → Option (Bool × D)
  | .int i, .int j => some (false, .bl (p i j))
  | _, _ => none
theorem od_lt : OpR X (compareOp .Lt) (rD2 X.K (dCmp fun i j => decide (i < j))) := opr_imp op_lt fun x y H Q ⟨B, dx, dy, tr, rx, ry, q⟩ => by
  unfold dCmp at q; split at q
  · exact ⟨_, _, rx.int, ry.int, q.bl⟩
  · exact q.elim
theorem od_le : OpR X (compareOp .LtE) (rD2 X.K (dCmp fun i j => decide (i ≤ j))) := opr_imp op_le fun x y H Q ⟨B, dx, dy, tr, rx, ry, q⟩ => by
  unfold dCmp at q; split at q
  · exact ⟨_, _, rx.int, ry.int, q.bl⟩
  · exact q.elim
theorem od_gt : OpR X (compareOp .Gt) (rD2 X.K (dCmp fun i j => decide (j < i))) := opr_imp op_gt fun x y H Q ⟨B, dx, dy, tr, rx, ry, q⟩ => by
  unfold dCmp at q; split at q
  · exact ⟨_, _, rx.int, ry.int, q.bl⟩
  · exact q.elim
theorem od_ge : OpR X (compareOp .GtE) (rD2 X.K (dCmp fun i j => decide (j ≤ i))) := opr_imp op_ge fun x y H Q ⟨B, dx, dy, tr, rx, ry, q⟩ => by
  unfold dCmp at q; split at q
  · exact ⟨_, _, rx.int, ry.int, q.bl⟩
  · exact q.elim
end

/-! ### == of data -/
mutual
def toP : D → Option PyData
  | .non => some .none
  | .bl b => some (.bool b)
  | .int i => some (.int i)
  | .str x => some (.str x)
  | .tup xs => match toPL xs with
    | some ys => some (.tuple ys)
    | none => none
  | .lst xs => match toPL xs with
    | some ys => some (.list ys)
    | none => none
  | .dic _ _ => none
  | .ins _ _ => none
  | .raw _ => none
  | .scr _ => none
  | .xcp _ _ => none
def toPL : List D → Option (List PyData)
  | [] => some []
  | d :: ds => match toP d, toPL ds with
    | some x, some xs => some (x :: xs)
    | _, _ => none
end
mutual
theorem Rp.dp {K : Fg} {B : Ad} {H : Hp} : ∀ {d : D} {v : V} {x : PyData}, Rp K B H v d → toP d = some x → Dp K H v x
  | .non, _, _, h, q => by cases h; cases q; exact .non
  | .bl b, _, _, h, q => by cases h; cases q; exact .bl b
  | .int i, _, _, h, q => by cases h; cases q; exact .int i
  | .str i, _, _, h, q => by cases h; cases q; exact .str i
  | .tup xs, _, _, h, q => by
    obtain ⟨a, vs, rfl, t, r⟩ := h.tup_inv
    unfold toP at q
    cases w : toPL xs with
    | none => rw [w] at q; cases q
    | some ys => rw [w] at q; cases q; exact .tup t.sq (RpL.dp r w)
  | .lst xs, _, _, h, q => by
    obtain ⟨a, vs, rfl, t, r⟩ := RpL.sq_lst h
    unfold toP at q
    cases w : toPL xs with
    | none => rw [w] at q; cases q
    | some ys => rw [w] at q; cases q; exact .lst t.sq (RpL.dp r w)
  | .dic _ _, _, _, _, q => by simp [toP] at q
  | .ins _ _, _, _, _, q => by cases q
  | .raw _, _, _, _, q => by cases q
  | .scr _, _, _, _, q => by cases q
  | .xcp _ _, _, _, _, q => by cases q
theorem RpL.dp {K : Fg} {B : Ad} {H : Hp} : ∀ {ds : List D} {vs : List V} {xs : List PyData}, RpL K B H vs ds → toPL ds = some xs → DpAll K H vs xs
  | [], _, _, h, q => by cases h; cases q; exact .nil
  | d :: ds, _, _, h, q => by
    cases h with
    | cons a b =>
      unfold toPL at q
      cases w : toP d with
      | none => simp only [w] at q; cases q
      | some x =>
        cases w2 : toPL ds with
        | none => simp only [w, w2] at q; cases q
        | some xs => simp only [w, w2] at q; cases q; exact .cons (Rp.dp a w) (RpL.dp b w2)
end
theorem RpB.dp {K : Fg} {B : Ad} {H : Hp} {d : D} {v : V} {x : PyData} (h : RpB K B H v d) (q : toP d = some x) : Dp K H v x := by
  rcases h with h | ⟨p, rfl, h⟩
  · exact h.dp q
  · cases d with
    | lst ds => exact (OwnAt.rp (B := fun _ => False) (fun z => z) (h.anti fun _ z => z.elim)).dp q
    | dic tk ds => simp [toP] at q
    | ins C ds => cases q
    | _ => exact h.elim
def dEqP (neg : Bool) (a b : D) : Option (Bool × D) := match toP a, toP b with
  | some x, some y => if SeqAt.shaped x = true ∧ SeqAt.shaped y = true then some (false, .bl (if neg then !PyData.eqv x y else PyData.eqv x y)) else none
  | _, _ => none
def dEq (neg : Bool) (a b : D) : Option (Bool × D) := match a, b with
  | .int i, .int j => some (false, .bl (if neg then !decide (i = j) else decide (i = j)))
  | .str i, .str j => some (false, .bl (if neg then !decide (i = j) else decide (i = j)))
  | a, b => dEqP neg a b
section
variable {X : Cx}
theorem od_eqP (hu : X.A.units + 64 < cLine) : OpR X (compareOp .Eq) (rD2 X.K (dEqP false)) := opr_imp (op_eqD hu) fun x y H Q ⟨B, dx, dy, tr, rx, ry, q⟩ => by
  unfold dEqP at q
  cases w : toP dx with
  | none => simp only [w] at q; exact q.elim
  | some a =>
    cases w2 : toP dy with
    | none => simp only [w, w2] at q; exact q.elim
    | some b =>
      simp only [w, w2] at q
      split at q
      · rename_i hs
        exact ⟨a, b, rx.dp w, ry.dp w2, hs.1, hs.2, q.bl⟩
      · exact q.elim
theorem od_neP (hu : X.A.units + 64 < cLine) : OpR X (compareOp .NotEq) (rD2 X.K (dEqP true)) := opr_imp (op_neD hu) fun x y H Q ⟨B, dx, dy, tr, rx, ry, q⟩ => by
  unfold dEqP at q
  cases w : toP dx with
  | none => simp only [w] at q; exact q.elim
  | some a =>
    cases w2 : toP dy with
    | none => simp only [w, w2] at q; exact q.elim
    | some b =>
      simp only [w, w2] at q
      split at q
      · rename_i hs
        exact ⟨a, b, rx.dp w, ry.dp w2, hs.1, hs.2, q.bl⟩
      · exact q.elim
theorem decI {i j : Int} : decide (V.int i = V.int j) = decide (i = j) := by
  rw [Bool.eq_iff_iff, decide_eq_true_eq, decide_eq_true_eq]
  exact ⟨fun h => by cases h; rfl, fun h => by rw [h]⟩
theorem decS {i j : Str} : decide (V.str i = V.str j) = decide (i = j) := by
  rw [Bool.eq_iff_iff, decide_eq_true_eq, decide_eq_true_eq]
  exact ⟨fun h => by cases h; rfl, fun h => by rw [h]⟩
theorem od_eq (hu : X.A.units + 64 < cLine) : OpR X (compareOp .Eq) (rD2 X.K (dEq false)) := opr_imp (opr_or op_eq (od_eqP hu)) fun x y H Q ⟨B, dx, dy, tr, rx, ry, q⟩ => by
  unfold dEq at q
  split at q
  · rw [rx.int, ry.int]
    exact .inl ⟨rfl, by rw [decI]; exact q.bl⟩
  · rw [rx.str, ry.str]
    exact .inl ⟨rfl, by rw [decS]; exact q.bl⟩
  · exact .inr ⟨B, _, _, tr, rx, ry, q⟩
theorem od_ne (hu : X.A.units + 64 < cLine) : OpR X (compareOp .NotEq) (rD2 X.K (dEq true)) := opr_imp (opr_or op_ne (od_neP hu)) fun x y H Q ⟨B, dx, dy, tr, rx, ry, q⟩ => by
  unfold dEq at q
  split at q
  · rw [rx.int, ry.int]
    exact .inl ⟨rfl, by rw [decI]; exact q.bl⟩
  · rw [rx.str, ry.str]
    exact .inl ⟨rfl, by rw [decS]; exact q.bl⟩
  · exact .inr ⟨B, _, _, tr, rx, ry, q⟩
end
end Cw

/-! Cw, part K: more operations on data. -/
namespace Cw
open PySem L2

/-! ### repr -/
mutual
theorem toP_noDict : ∀ {d : D} {x : PyData}, toP d = some x → x.hasDict = false
  | .non, _, h => by cases h; rfl
  | .bl b, _, h => by cases h; rfl
  | .int i, _, h => by cases h; rfl
  | .str i, _, h => by cases h; rfl
  | .tup xs, _, h => by
    unfold toP at h
    cases w : toPL xs with
    | none => rw [w] at h; cases h
    | some ys => rw [w] at h; cases h; exact toPL_noDict w
  | .lst xs, _, h => by
    unfold toP at h
    cases w : toPL xs with
    | none => rw [w] at h; cases h
    | some ys => rw [w] at h; cases h; exact toPL_noDict w
  | .dic _ _, _, h => by simp [toP] at h
  | .ins _ _, _, h => by cases h
  | .raw _, _, h => by cases h
  | .scr _, _, h => by cases h
  | .xcp _ _, _, h => by cases h
theorem toPL_noDict : ∀ {d : List D} {x : List PyData}, toPL d = some x → PyData.hasDictAll x = false
  | [], _, h => by cases h; rfl
  | d :: ds, _, h => by
    unfold toPL at h
    cases w : toP d with
    | none => simp only [w] at h; cases h
    | some x =>
      cases w2 : toPL ds with
      | none => simp only [w, w2] at h; cases h
      | some xs =>
        simp only [w, w2] at h; cases h
        show (x.hasDict || PyData.hasDictAll xs) = false
        rw [toP_noDict w, toPL_noDict w2]; rfl
end
def dRepr : List D → Option (Bool × D)
  | [d] => match toP d with
    | some x => if x.showable = true ∧ x.depth ≤ 64 ∧ x.shown.length ≤ sizeLine then some (false, .str x.shown) else none
    | none => none
  | _ => none
section
variable {X : Cx}
theorem cd_repr (hgd : X.A.guards = some []) (hu : X.A.units + 66 < cLine) : CallR X (.builtin "repr") (rDn X.K dRepr) := by
  rintro pins s σ H xs us Q I r ⟨B, ds, tr, rs, q⟩
  unfold dRepr at q
  split at q
  · rename_i d
    obtain ⟨v, rfl, rv⟩ := rs.one
    cases w : toP d with
    | none => rw [w] at q; exact q.elim
    | some x =>
      rw [w] at q
      simp only at q
      split at q
      · rename_i hz
        have dp := rv.dp w
        have q := q.str
        cases r with
        | cons ru rr =>
          cases rr
          rename_i u
          obtain ⟨as, rd⟩ := Dp.reads I x v u dp ru
          have nd := toP_noDict w
          cases dp with
          | non => cases ru; exact PySem.P.repr_of_none ⟨.str _, H, I.tok _, ⟨_, rfl⟩, q⟩
          | bl b => cases ru; exact PySem.P.repr_of_bool ⟨.str _, H, I.tok _, ⟨_, rfl⟩, q⟩
          | int i =>
            obtain ⟨t, rfl⟩ := ru
            exact PySem.P.repr_of_int (of_decide_eq_true hz.1) ⟨.str _, H, I.tok _, ⟨_, rfl⟩, q⟩
          | str i =>
            obtain ⟨t, rfl⟩ := ru
            exact PySem.P.repr_of_str ⟨.str _, H, I.tok _, ⟨_, rfl⟩, q⟩ hz.2.2
          | lst h1 h2 =>
            cases ru
            exact PySem.repr_of_reads' rd hz.1 (PyData.noDict_hsm nd) hgd (by omega) (fun _ _ e => e) (fun h' u tk hk => ⟨.str _, H, I.kept hk, ⟨_, rfl⟩, q⟩) hz.2.2
          | tup h1 h2 =>
            cases ru
            exact PySem.repr_of_reads' rd hz.1 (PyData.noDict_hsm nd) hgd (by omega) (fun _ _ e => e) (fun h' u tk hk => ⟨.str _, H, I.kept hk, ⟨_, rfl⟩, q⟩) hz.2.2
      · exact q.elim
  · exact q.elim
end

/-! ### flat things: in, not in -/
def fV : D → Option V
  | .non => some .non
  | .bl b => some (.bl b)
  | .int i => some (.int i)
  | .str x => some (.str x)
  | _ => none
def fVL : List D → Option (List V)
  | [] => some []
  | d :: ds => match fV d, fVL ds with
    | some v, some vs => some (v :: vs)
    | _, _ => none
theorem Rp.fv {K : Fg} {B : Ad} {H : Hp} {v u : V} {d : D} (h : Rp K B H v d) (q : fV d = some u) : v = u ∧ flatV v = true := by
  cases d <;> first | (cases q; done) | (cases q; cases h; exact ⟨rfl, rfl⟩)
theorem RpB.fv {K : Fg} {B : Ad} {H : Hp} {v u : V} {d : D} (h : RpB K B H v d) (q : fV d = some u) : v = u ∧ flatV v = true := by
  rcases h with h | ⟨p, _, h⟩
  · exact h.fv q
  · cases d <;> first | (cases q; done) | exact h.elim
theorem RpL.fv {K : Fg} {B : Ad} {H : Hp} : ∀ {vs : List V} {ds : List D} {us : List V}, RpL K B H vs ds → fVL ds = some us → vs = us ∧ vs.all flatV = true
  | _, [], _, .nil, q => by cases q; exact ⟨rfl, rfl⟩
  | _, d :: ds, _, .cons a r, q => by
    unfold fVL at q
    cases w : fV d with
    | none => simp only [w] at q; cases q
    | some u =>
      cases w2 : fVL ds with
      | none => simp only [w, w2] at q; cases q
      | some us =>
        simp only [w, w2] at q; cases q
        obtain ⟨e1, f1⟩ := a.fv w
        obtain ⟨e2, f2⟩ := r.fv w2
        exact ⟨by rw [e1, e2], by simp only [List.all_cons, f1, f2, Bool.and_self]⟩
def dIn (neg : Bool) (x y : D) : Option (Bool × D) := match y with
  | .lst ys => (match fV x, fVL ys with
    | some v, some vs => some (false, .bl (if neg then !inV v vs else inV v vs))
    | _, _ => none)
  | .tup ys => (match fV x, fVL ys with
    | some v, some vs => some (false, .bl (if neg then !inV v vs else inV v vs))
    | _, _ => none)
  | _ => none
section
variable {X : Cx}
theorem in_of {neg : Bool} {x y : V} {H : Hp} {Q : VK} (h : rD2 X.K (dIn neg) x y H Q) : rIn X.K neg x y H Q := by
  obtain ⟨B, dx, dy, tr, rx, ry, q⟩ := h
  unfold dIn at q
  split at q
  · rename_i ys
    obtain ⟨a, vs, rfl, hl, rl⟩ := ry.lst
    split at q
    · rename_i v us w w2
      obtain ⟨rfl, f1⟩ := rx.fv w
      obtain ⟨rfl, f2⟩ := rl.fv w2
      exact ⟨a, vs, rfl, .inl (SqL.of hl), f1, f2, q.bl⟩
    · exact q.elim
  · rename_i ys
    obtain ⟨a, vs, rfl, hl, rl⟩ := ry.tup
    split at q
    · rename_i v us w w2
      obtain ⟨rfl, f1⟩ := rx.fv w
      obtain ⟨rfl, f2⟩ := rl.fv w2
      exact ⟨a, vs, rfl, .inr hl.sq, f1, f2, q.bl⟩
    · exact q.elim
  · exact q.elim
theorem od_in : OpR X (compareOp .In) (rD2 X.K (dIn false)) := opr_imp op_in_seq fun x y H Q h => in_of h
theorem od_notin : OpR X (compareOp .NotIn) (rD2 X.K (dIn true)) := opr_imp op_notIn_seq fun x y H Q h => in_of h
/-! is None -/
def dIsN (neg : Bool) : D → Option (Bool × D)
  | .non => some (false, .bl (!neg))
  | .raw _ => none
  | _ => some (false, .bl neg)
theorem isN_of {K : Fg} {B : Ad} {H : Hp} {v : V} {d : D} {b : Bool} (r : RpB K B H v d) (q : dIsN false d = some (false, .bl b)) : decide (v = .non) = b := by
  cases d with
  | non => cases q; rw [r.non]; rfl
  | raw v => cases q
  | bl b => cases q; rw [r.bl]; rfl
  | int b => cases q; rw [r.int]; rfl
  | str b => cases q; rw [r.str]; rfl
  | tup ds => cases q; obtain ⟨a, vs, rfl, _⟩ := r.tup; rfl
  | lst ds => cases q; obtain ⟨a, vs, rfl, _⟩ := r.lst; rfl
  | scr ds => cases q; obtain ⟨a, vs, rfl, _⟩ := r.scr; rfl
  | ins C ds => cases q; obtain ⟨a, dx, fs, rfl, _⟩ := r.ins; rfl
  | dic tk ds =>
    cases q
    rcases r with r | ⟨p, rfl, _⟩
    · cases r <;> rfl
    · rfl
  | xcp c ds =>
    cases q
    rcases r with r | ⟨p, rfl, _⟩
    · cases r <;> rfl
    · rfl
theorem dIsN_some {neg : Bool} {d : D} {x : Bool × D} (h : dIsN neg d = some x) : ∃ b, x = (false, .bl (if neg then !b else b)) ∧ dIsN false d = some (false, .bl b) := by
  cases d <;> first | (cases h; done) | (cases h; cases neg <;> exact ⟨_, rfl, rfl⟩)
variable {W : Wx} {a : Expr} {f : M RV} {pos pos' : Pos} {j : Nat}
theorem pd_isN (ha : PD X W a f) : PD X W (.Compare a [.Is] [.Constant .none j pos'] pos) (eOp1 (dIsN false) f) :=
  pe_imp (pe_cmp (pc_isN ha) rfl) fun σ H Q h => by
    obtain ⟨F, e, R, h⟩ := op1_of h
    refine ⟨F, e, R, h.imp fun r F1 e1 H1 p1 h1 v hv => ?_⟩
    obtain ⟨B, dx, tr, rx, q⟩ := h1 v hv
    cases w : dIsN false dx with
    | none => rw [w] at q; exact q.elim
    | some y =>
      obtain ⟨b, rfl, w2⟩ := dIsN_some w
      rw [w] at q
      rw [isN_of rx w2]
      exact q.bl
theorem pd_isNotN (ha : PD X W a f) : PD X W (.Compare a [.IsNot] [.Constant .none j pos'] pos) (eOp1 (dIsN true) f) :=
  pe_imp (pe_cmp (pc_notN ha) rfl) fun σ H Q h => by
    obtain ⟨F, e, R, h⟩ := op1_of h
    refine ⟨F, e, R, h.imp fun r F1 e1 H1 p1 h1 v hv => ?_⟩
    obtain ⟨B, dx, tr, rx, q⟩ := h1 v hv
    cases w : dIsN true dx with
    | none => rw [w] at q; exact q.elim
    | some y =>
      obtain ⟨b, rfl, w2⟩ := dIsN_some w
      rw [w] at q
      rw [isN_of rx w2]
      exact q.bl
end

/-! ### items, slices, lengths -/
def dIx : D → D → Option (Bool × D)
  | .lst xs, .int i => (match atI xs i with
    | some d => some (false, d)
    | none => none)
  | .tup xs, .int i => (match atI xs i with
    | some d => some (false, d)
    | none => none)
  | _, _ => none
theorem RpL.atI {K : Fg} {B : Ad} {H : Hp} {vs : List V} {ds : List D} {i : Int} {d : D} (h : RpL K B H vs ds) (q : L2.atI ds i = some d) : ∃ v, L2.atI vs i = some v ∧ Rp K B H v d := by
  unfold L2.atI at q ⊢
  rw [h.length]
  cases w : ixN ds.length i with
  | none => rw [w] at q; cases q
  | some j =>
    rw [w] at q
    exact h.get q
section
variable {X : Cx}
theorem id_ix : IxR X (rD2 X.K dIx) := ixr_imp (IxR.or ix_list ix_tup) fun x y H Q ⟨B, dx, dy, tr, rx, ry, q⟩ => by
  unfold dIx at q; split at q
  · obtain ⟨a, vs, rfl, hl, rl⟩ := rx.lst
    split at q
    · rename_i d w
      obtain ⟨v, e, rv⟩ := rl.atI w
      exact .inl ⟨a, vs, _, v, rfl, ry.int, SqL.of hl, e, q.old rv⟩
    · exact q.elim
  · obtain ⟨a, vs, rfl, hl, rl⟩ := rx.tup
    split at q
    · rename_i d w
      obtain ⟨v, e, rv⟩ := rl.atI w
      exact .inr ⟨a, vs, _, v, rfl, ry.int, hl.sq, e, q.old rv⟩
    · exact q.elim
  · exact q.elim
def dLen : List D → Option (Bool × D)
  | [.lst xs] => some (false, .int xs.length)
  | [.tup xs] => some (false, .int xs.length)
  | _ => none
theorem cd_len : CallR X (.builtin "len") (rDn X.K dLen) := callr_imp call_len_seq fun xs H Q ⟨B, ds, tr, rs, q⟩ => by
  unfold dLen at q; split at q
  · obtain ⟨v, rfl, r⟩ := rs.one
    obtain ⟨a, vs, rfl, hl, rl⟩ := r.lst
    exact ⟨a, vs, rfl, .inl (SqL.of hl), by rw [rl.length]; exact q.int⟩
  · obtain ⟨v, rfl, r⟩ := rs.one
    obtain ⟨a, vs, rfl, hl, rl⟩ := r.tup
    exact ⟨a, vs, rfl, .inr hl.sq, by rw [rl.length]; exact q.int⟩
  · exact q.elim
def dList : List D → Option (Bool × D)
  | [.lst xs] => some (true, .lst xs)
  | [.tup xs] => some (true, .lst xs)
  | _ => none
theorem cd_list : CallR X (.type "list") (rDn X.K dList) := callr_imp call_list_of fun xs H Q ⟨B, ds, tr, rs, q⟩ => by
  unfold dList at q; split at q
  · obtain ⟨v, rfl, r⟩ := rs.one
    obtain ⟨a, vs, rfl, hl, rl⟩ := r.lst
    exact ⟨a, vs, rfl, .inl (SqL.of hl), Res.newL q rl⟩
  · obtain ⟨v, rfl, r⟩ := rs.one
    obtain ⟨a, vs, rfl, hl, rl⟩ := r.tup
    exact ⟨a, vs, rfl, .inr hl.sq, Res.newL q rl⟩
  · exact q.elim
def dTuple : List D → Option (Bool × D)
  | [.lst xs] => some (false, .tup xs)
  | [.tup xs] => some (false, .tup xs)
  | _ => none
theorem cd_tuple : CallR X (.type "tuple") (rDn X.K dTuple) := callr_imp call_tuple_of fun xs H Q ⟨B, ds, tr, rs, q⟩ => by
  unfold dTuple at q; split at q
  · obtain ⟨v, rfl, r⟩ := rs.one
    obtain ⟨a, vs, rfl, hl, rl⟩ := r.lst
    exact ⟨a, vs, rfl, .inl ⟨SqL.of hl, Res.newT tr q rl⟩⟩
  · obtain ⟨v, rfl, r⟩ := rs.one
    obtain ⟨a, vs, rfl, hl, rl⟩ := r.tup
    exact ⟨a, vs, rfl, .inr ⟨hl.sq, q.old (.tup hl rl)⟩⟩
  · exact q.elim
/-! all, any, max, sum -/
def blL : List D → Option (List Bool)
  | [] => some []
  | .bl b :: ds => match blL ds with
    | some bs => some (b :: bs)
    | none => none
  | _ => none
def intL : List D → Option (List Int)
  | [] => some []
  | .int b :: ds => match intL ds with
    | some bs => some (b :: bs)
    | none => none
  | _ => none
theorem RpL.bls {K : Fg} {B : Ad} {H : Hp} : ∀ {vs : List V} {ds : List D} {bs : List Bool}, RpL K B H vs ds → blL ds = some bs → vs = bs.map V.bl
  | _, [], _, .nil, q => by cases q; rfl
  | _, .bl b :: ds, _, .cons a r, q => by
    unfold blL at q
    cases w : blL ds with
    | none => rw [w] at q; cases q
    | some bs => rw [w] at q; cases q; cases a; rw [r.bls w]; rfl
  | _, .non :: _, _, _, q => by cases q
  | _, .int _ :: _, _, _, q => by cases q
  | _, .str _ :: _, _, _, q => by cases q
  | _, .tup _ :: _, _, _, q => by cases q
  | _, .lst _ :: _, _, _, q => by cases q
  | _, .dic _ _ :: _, _, _, q => by cases q
  | _, .ins _ _ :: _, _, _, q => by cases q
  | _, .raw _ :: _, _, _, q => by cases q
  | _, .scr _ :: _, _, _, q => by cases q
theorem RpL.ints {K : Fg} {B : Ad} {H : Hp} : ∀ {vs : List V} {ds : List D} {bs : List Int}, RpL K B H vs ds → intL ds = some bs → vs = bs.map V.int
  | _, [], _, .nil, q => by cases q; rfl
  | _, .int b :: ds, _, .cons a r, q => by
    unfold intL at q
    cases w : intL ds with
    | none => rw [w] at q; cases q
    | some bs => rw [w] at q; cases q; cases a; rw [r.ints w]; rfl
  | _, .non :: _, _, _, q => by cases q
  | _, .bl _ :: _, _, _, q => by cases q
  | _, .str _ :: _, _, _, q => by cases q
  | _, .tup _ :: _, _, _, q => by cases q
  | _, .lst _ :: _, _, _, q => by cases q
  | _, .dic _ _ :: _, _, _, q => by cases q
  | _, .ins _ _ :: _, _, _, q => by cases q
  | _, .raw _ :: _, _, _, q => by cases q
  | _, .scr _ :: _, _, _, q => by cases q
def dAll : List D → Option (Bool × D)
  | [.lst xs] => (match blL xs with
    | some bs => some (false, .bl (bs.all id))
    | none => none)
  | _ => none
def dAny : List D → Option (Bool × D)
  | [.lst xs] => (match blL xs with
    | some bs => some (false, .bl (bs.any id))
    | none => none)
  | _ => none
theorem cd_all (hc : X.calm = true) : CallR X (.builtin "all") (rDn X.K dAll) := callr_imp (cr_all hc) fun xs H Q ⟨B, ds, tr, rs, q⟩ => by
  unfold dAll at q; split at q
  · obtain ⟨v, rfl, r⟩ := rs.one
    obtain ⟨a, vs, rfl, hl, rl⟩ := r.lst
    split at q
    · rename_i bs w
      exact ⟨a, bs, rfl, by rw [← rl.bls w]; exact SqL.of hl, q.bl⟩
    · exact q.elim
  · exact q.elim
theorem cd_any (hc : X.calm = true) : CallR X (.builtin "any") (rDn X.K dAny) := callr_imp (cr_any hc) fun xs H Q ⟨B, ds, tr, rs, q⟩ => by
  unfold dAny at q; split at q
  · obtain ⟨v, rfl, r⟩ := rs.one
    obtain ⟨a, vs, rfl, hl, rl⟩ := r.lst
    split at q
    · rename_i bs w
      exact ⟨a, bs, rfl, by rw [← rl.bls w]; exact SqL.of hl, q.bl⟩
    · exact q.elim
  · exact q.elim
def maxI : List Int → Int
  | [] => 0
  | [a] => a
  | a :: b :: r => max a (maxI (b :: r))
theorem maxI_eq {m : Int} : ∀ {ns : List Int}, m ∈ ns → (∀ y, y ∈ ns → y ≤ m) → m = maxI ns
  | [a], h, _ => by simpa [maxI] using h
  | a :: b :: r, h, k => by
    have hm : ∀ {l : List Int}, l ≠ [] → maxI l ∈ l := by
      intro l
      induction l with
      | nil => intro z; exact absurd rfl z
      | cons x l ih =>
        intro _
        cases l with
        | nil => simp [maxI]
        | cons y l =>
          have := ih (by simp)
          unfold maxI
          rw [Int.max_def]
          split
          · exact List.mem_cons_of_mem _ this
          · exact List.mem_cons_self ..
    have hle : ∀ {l : List Int} {y : Int}, y ∈ l → y ≤ maxI l := by
      intro l
      induction l with
      | nil => intro y z; cases z
      | cons x l ih =>
        intro y z
        cases l with
        | nil => simp at z; simp [maxI, z]
        | cons u l =>
          unfold maxI
          rcases List.mem_cons.mp z with z | z
          · rw [z]; exact Int.le_max_left ..
          · exact Int.le_trans (ih z) (Int.le_max_right ..)
    exact Int.le_antisymm (hle h) (k _ (hm (by simp)))
def dMax : List D → Option (Bool × D)
  | [.lst xs] => (match intL xs with
    | some (a :: r) => some (false, .int (maxI (a :: r)))
    | _ => none)
  | _ => none
theorem cd_max (hc : X.calm = true) : CallR X (.builtin "max") (rDn X.K dMax) := callr_imp (cr_max hc) fun xs H Q ⟨B, ds, tr, rs, q⟩ => by
  unfold dMax at q; split at q
  · obtain ⟨v, rfl, r⟩ := rs.one
    obtain ⟨a, vs, rfl, hl, rl⟩ := r.lst
    split at q
    · rename_i b bs w
      exact ⟨a, b :: bs, rfl, by rw [← rl.ints w]; exact SqL.of hl, by simp, fun m h1 h2 => by rw [maxI_eq h1 h2]; exact q.int⟩
    · exact q.elim
  · exact q.elim
def dSum : List D → Option (Bool × D)
  | [.lst xs] => (match intL xs with
    | some ns => some (false, .int ns.sum)
    | _ => none)
  | _ => none
theorem cd_sum (hc : X.calm = true) : CallR X (.builtin "sum") (rDn X.K dSum) := callr_imp (cr_sum hc) fun xs H Q ⟨B, ds, tr, rs, q⟩ => by
  unfold dSum at q; split at q
  · obtain ⟨v, rfl, r⟩ := rs.one
    obtain ⟨a, vs, rfl, hl, rl⟩ := r.lst
    split at q
    · rename_i bs w
      exact ⟨a, bs, rfl, by rw [← rl.ints w]; exact SqL.of hl, q.int⟩
    · exact q.elim
  · exact q.elim
end
end Cw

/-! Cw, part L: slices, ranges, isinstance, sorted(set(..)). -/
namespace Cw
open PySem L2

/-! ### slices -/
def cutG {α : Type} (xs : List α) (lo hi : Option Int) : List α := (xs.drop (HT.sIx xs.length 0 lo)).take (HT.sIx xs.length xs.length hi - HT.sIx xs.length 0 lo)
def dSl (d : D) (lo hi : Option Int) : Option (Bool × D) := match d with
  | .lst xs => some (true, .lst (cutG xs lo hi))
  | .scr xs => some (true, .lst (cutG xs lo hi))
  | .tup xs => some (false, .tup (cutG xs lo hi))
  | _ => none
def rDs (K : Fg) : V → Option Int → Option Int → Hp → VK → Prop := fun x lo hi H Q => ∃ B d, Trk B H ∧ RpB K B H x d ∧ Res K B H Q (dSl d lo hi)
theorem RpL.take {K : Fg} {B : Ad} {H : Hp} : ∀ {vs : List V} {ds : List D} (n : Nat), RpL K B H vs ds → RpL K B H (vs.take n) (ds.take n)
  | _, _, 0, _ => .nil
  | _, _, _ + 1, .nil => .nil
  | _, _, n + 1, .cons a r => .cons a (r.take n)
theorem RpL.drop {K : Fg} {B : Ad} {H : Hp} : ∀ {vs : List V} {ds : List D} (n : Nat), RpL K B H vs ds → RpL K B H (vs.drop n) (ds.drop n)
  | _, _, 0, h => h
  | _, _, _ + 1, .nil => .nil
  | _, _, n + 1, .cons a r => r.drop n
theorem RpL.cut {K : Fg} {B : Ad} {H : Hp} {vs : List V} {ds : List D} {lo hi : Option Int} (h : RpL K B H vs ds) : RpL K B H (cutV vs lo hi) (cutG ds lo hi) := by
  unfold cutV cutG
  rw [h.length]
  exact (h.drop _).take _
section
variable {X : Cx}
theorem sd_sl : SlR X (rDs X.K) := slr_imp (SlR.or sl_list sl_tupA) fun x lo hi H Q ⟨B, d, tr, rx, q⟩ => by
  unfold dSl at q; split at q
  · obtain ⟨a, vs, rfl, hl, rl⟩ := rx.lst
    exact .inl ⟨a, vs, rfl, SqL.of hl, Res.newL q rl.cut⟩
  · obtain ⟨a, vs, rfl, hl, rl⟩ := rx.scr
    exact .inl ⟨a, vs, rfl, hl, Res.newL q rl.cut⟩
  · rename_i xs
    obtain ⟨a, vs, rfl, hl, rl⟩ := rx.tup
    refine .inr ⟨a, vs, rfl, hl.sq, fun e => ?_, fun _ => Res.newT tr q rl.cut⟩
    have e2 : cutG xs lo hi = xs := by
      unfold cutG
      rw [← rl.length, e.1, e.2]
      simp only [List.drop_zero, Nat.sub_zero]
      rw [rl.length]
      exact List.take_length
    rw [e2] at q
    exact q.old (.tup hl rl)
  · exact q.elim
variable {W : Wx} {a l u : Expr} {f g h : M RV} {pos p2 : Pos} {lo hi : Option Expr}
def tO (W : Wx) (K : Fg) (f : M (Option Int)) : TO := fun σ H Q => ∃ F e, Rel K F σ H e ∧ Aft W K F σ H e (fun o F' e' H' => Q o H') (f e)
abbrev PDO (X : Cx) (W : Wx) (e : Option Expr) (f : M (Option Int)) : Prop := PO X e (tO W X.K f)
theorem po_imp {X : Cx} {e : Option Expr} {t u : TO} (h : PO X e t) (k : ∀ σ H Q, u σ H Q → t σ H Q) : PO X e u := ⟨fun pins s σ H Q I q => h.run pins s σ H Q I (k σ H Q q)⟩
def oNone : M (Option Int) := M.ret none
def oSome (f : M RV) : M (Option Int) := M.bind f fun r => M.bind (M.get r) fun d => match d with
  | .int i => M.ret (some i)
  | _ => M.bad
theorem pdo_none : PDO X W none oNone := po_imp po_none fun σ H Q ⟨F, e, R, h⟩ => h F H (.refl R)
theorem pdo_some (ha : PD X W a f) : PDO X W (some a) (oSome f) := po_imp (po_some ha) fun σ H Q ⟨F, e, R, h⟩ => ⟨F, e, R, h.bind.imp fun r F1 e1 H1 p1 h1 v hv => by
  obtain ⟨d, ld, rd, h2⟩ := get_of p1.rel hv h1
  cases d with
  | int i => exact ⟨i, rd.int, h2 F1 H1 (.refl p1.rel)⟩
  | _ => exact h2.elim⟩
def eSl (f : M RV) (lo hi : M (Option Int)) : M RV := M.bind f fun r => M.bind lo fun l => M.bind hi fun u => M.bind (M.get r) fun d => M.res (dSl d l u)
theorem pd_slice {fl fu : M (Option Int)} (ha : PD X W a f) (hl : PDO X W lo fl) (hu : PDO X W hi fu) : PD X W (.Subscript a (.Slice lo hi none p2) pos) (eSl f fl fu) :=
  pe_imp (pe_slice sd_sl ha hl hu) fun σ H Q ⟨F, e, R, h⟩ => ⟨F, e, R, h.bind.imp fun r F1 e1 H1 p1 h1 v hv => ⟨F1, e1, p1.rel, h1.bind.imp fun l F2 e2 H2 p2 h2 => ⟨F2, e2, p2.rel, h2.bind.imp fun u F3 e3 H3 p3 h3 => by
    obtain ⟨d, ld, rd, h4⟩ := get_of p3.rel ((hv.post p1.rel p2).post p2.rel p3) h3
    exact ⟨_, d, p3.rel.trk, rd, Res.of p3.rel (fun a z => p1.stp.back a (p2.stp.back a (p3.stp.back a z))) h4⟩⟩⟩⟩
end

/-! ### list(range(..)), tuple(range(..)) -/
def rg1 (f : M RV) : M (Int × Int) := M.bind f fun r => M.bind (M.get r) fun d => match d with
  | .int n => M.ret (0, n)
  | _ => M.bad
def rg2 (f g : M RV) : M (Int × Int) := M.bind f fun r => M.bind g fun s => M.bind (M.get r) fun d => M.bind (M.get s) fun d' => match d, d' with
  | .int i, .int j => M.ret (i, j)
  | _, _ => M.bad
noncomputable def rgOk (a b : Int) : Bool := @decide (-(2 ^ 62) ≤ a ∧ a < 2 ^ 62 ∧ -(2 ^ 62) ≤ b ∧ b < 2 ^ 62 ∧ (b - a).toNat ≤ 2 ^ 24) (Classical.propDecidable _)
theorem rgOk_iff {a b : Int} : rgOk a b = true ↔ (-(2 ^ 62) ≤ a ∧ a < 2 ^ 62 ∧ -(2 ^ 62) ≤ b ∧ b < 2 ^ 62 ∧ (b - a).toNat ≤ 2 ^ 24) := @decide_eq_true_iff _ (Classical.propDecidable _)
noncomputable def eLRg (f : M (Int × Int)) : M RV := M.bind f fun x => M.res (if rgOk x.1 x.2 = true then some (true, .lst (rangeD x.1 (x.2 - x.1).toNat)) else none)
noncomputable def eTRg (f : M (Int × Int)) : M RV := M.bind f fun x => M.res (if rgOk x.1 x.2 = true then some (false, .tup (rangeD x.1 (x.2 - x.1).toNat)) else none)
theorem rp_ints {K : Fg} {B : Ad} {H : Hp} {α : Type} (g : α → Int) : ∀ l : List α, RpL K B H (l.map fun x => V.int (g x)) (l.map fun x => D.int (g x))
  | [] => .nil
  | x :: l => .cons (.int _) (rp_ints g l)
section
variable {X : Cx} {W : Wx} {a b : Expr} {f g : M RV} {pos p p2 pos2 : Pos}
def tR (W : Wx) (K : Fg) (f : M (Int × Int)) : St → Hp → (Int → Int → Hp → Prop) → Prop := fun σ H Q => ∃ F e, Rel K F σ H e ∧ Aft W K F σ H e (fun x F' e' H' => Q x.1 x.2 H') (f e)
theorem prg_imp {e : Expr} {t u : St → Hp → (Int → Int → Hp → Prop) → Prop} (h : PRg X e t) (k : ∀ σ H Q, u σ H Q → t σ H Q) : PRg X e u := fun pins s σ H Q I q => h pins s σ H Q I (k σ H Q q)
theorem pdr_1 (hg : Gl X "range") (hm : X.mg "range" = none) (ha : PD X W a f) (na : starEach [a] X.env = (false, eval a X.env) :: starEach [] X.env := by rfl) : PRg X (.Call (.Name "range" p) [a] [] pos) (tR W X.K (rg1 f)) :=
  prg_imp (prg_1 hg hm ha na) fun σ H Q ⟨F, e, R, h⟩ => ⟨F, e, R, h.bind.imp fun r F1 e1 H1 p1 h1 v hv => by
    obtain ⟨d, ld, rd, h2⟩ := get_of p1.rel hv h1
    cases d with
    | int i => exact ⟨i, rd.int, h2 F1 H1 (.refl p1.rel)⟩
    | _ => exact h2.elim⟩
theorem pdr_2 (hg : Gl X "range") (hm : X.mg "range" = none) (ha : PD X W a f) (hb : PD X W b g) (na : starEach [a, b] X.env = (false, eval a X.env) :: starEach [b] X.env := by rfl)
    (nb : starEach [b] X.env = (false, eval b X.env) :: starEach [] X.env := by rfl) (hp : (backTo pos (starEach [b] X.env)).any (·.1) = false := by rfl) : PRg X (.Call (.Name "range" p) [a, b] [] pos) (tR W X.K (rg2 f g)) :=
  prg_imp (prg_2 hg hm ha hb na nb hp) fun σ H Q ⟨F, e, R, h⟩ => ⟨F, e, R, h.bind.imp fun r F1 e1 H1 p1 h1 v hv => ⟨F1, e1, p1.rel, h1.bind.imp fun s F2 e2 H2 p2 h2 w hw => by
    obtain ⟨d, ld, rd, h3⟩ := get_of p2.rel (hv.post p1.rel p2) h2
    obtain ⟨d', ld', rd', h4⟩ := get_of p2.rel hw h3
    cases d with
    | int i =>
      cases d' with
      | int j => exact ⟨i, j, rd.int, rd'.int, h4 F2 H2 (.refl p2.rel)⟩
      | _ => exact h4.elim
    | _ => exact h4.elim⟩⟩
variable {e : Expr} {fr : M (Int × Int)}
theorem pd_listRg (hc : X.calm = true) (hg : Gl X "list") (hm : X.mg "list" = none) (he : PRg X e (tR W X.K fr)) (na : starEach [e] X.env = (false, eval e X.env) :: starEach [] X.env := by rfl) : PD X W (.Call (.Name "list" p) [e] [] pos) (eLRg fr) :=
  pe_imp (pe_listRg hc hg hm he na) fun σ H Q ⟨F, e, R, h⟩ => ⟨F, e, R, h.bind.imp fun x F1 e1 H1 p1 h1 => by
    have h1 := Res.of p1.rel p1.stp.back h1
    split at h1
    · rename_i hz
      have hz := rgOk_iff.mp hz
      exact ⟨hz, Res.newL h1 (by unfold rgV rangeD; exact rp_ints _ _)⟩
    · exact h1.elim⟩
theorem pd_tupRg (hc : X.calm = true) (hg : Gl X "tuple") (hm : X.mg "tuple" = none) (he : PRg X e (tR W X.K fr)) (na : starEach [e] X.env = (false, eval e X.env) :: starEach [] X.env := by rfl) : PD X W (.Call (.Name "tuple" p) [e] [] pos) (eTRg fr) :=
  pe_imp (pe_tupRg hc hg hm he na) fun σ H Q ⟨F, e, R, h⟩ => ⟨F, e, R, h.bind.imp fun x F1 e1 H1 p1 h1 => by
    have h1 := Res.of p1.rel p1.stp.back h1
    split at h1
    · rename_i hz
      have hz := rgOk_iff.mp hz
      exact ⟨hz, Res.newT p1.rel.trk h1 (by unfold rgV rangeD; exact rp_ints _ _)⟩
    · exact h1.elim⟩
end

/-! ### isinstance -/
/-- the type of plain data -/
def tyS : D → Option String
  | .non => some "NoneType"
  | .bl _ => some "bool"
  | .int _ => some "int"
  | .str _ => some "str"
  | .tup _ => some "tuple"
  | .lst _ => some "list"
  | .dic false _ => some "dict"
  | _ => none
/-- what is known of the program's classes Cs -/
structure ClsI (K : Fg) (C : Addr) : Prop where
  cl : Cls K C
  ha : PySem.W.findIn K (.ref C) "__class__" = some (some (.builtin "object.__class__"))
  hn : PySem.W.specialIn K (.builtin "object.__class__") "__get__" = some (some (.builtin "getset_descriptor.__get__"))
  htk : PySem.W.takesIn K (.builtin "object.__class__") = some true
  hm : PySem.W.mroIn K C (.type "object") = some true
theorem tyX_of {K : Fg} {B : Ad} {H : Hp} {v : V} {d : D} {t : String} (h : RpB K B H v d) (q : tyS d = some t) : TyX K H v (.type t) := by
  cases d with
  | non => cases q; rw [h.non]; exact .base .non
  | bl b => cases q; rw [h.bl]; exact .base (.bl b)
  | int b => cases q; rw [h.int]; exact .base (.int b)
  | str b => cases q; rw [h.str]; exact .base (.str b)
  | tup ds =>
    cases q
    obtain ⟨a, vs, rfl, t, _⟩ := h.tup
    exact .base (.tup t.2)
  | lst ds =>
    cases q
    obtain ⟨a, vs, rfl, t, _⟩ := h.lst
    exact .base (.lst t)
  | dic tk ds =>
    cases tk with
    | true => cases q
    | false =>
      cases q
      rcases h with h | ⟨p, rfl, kvs, h, _⟩
      · cases h with
        | dK nb h r =>
          rcases h with h | ⟨o, h⟩
          · exact .base (.dK h)
          · exact .fDict h
      · exact .base (.dK h)
  | _ => cases q
/-- what isinstance answers for the classes Cs of the program -/
def tysB : List String := ["NoneType", "bool", "int", "str", "tuple", "list", "dict"]
structure IsiK (K : Fg) (Cs : List Addr) : Prop where
  cl : ∀ C, C ∈ Cs → ClsI K C
  out : ∀ C, C ∈ Cs → ∀ T, T ∈ tysB → PySem.W.kitOne K (.ref C) (.type T) = some false
  inn : ∀ C, C ∈ Cs → ∀ T, T ∈ tysB → PySem.W.kitOne K (.type T) (.ref C) = some false
  two : ∀ C, C ∈ Cs → ∀ C', C' ∈ Cs → C' ≠ C → PySem.W.kitOne K (.ref C') (.ref C) = some false
def isiTy (Cs : List Addr) (d : D) (T : String) : Option Bool := match d with
  | .ins C _ => if C ∈ Cs ∧ T ∈ tysB then some false else none
  | d => match tyS d with
    | some t => kitB t T
    | none => none
def isiCl (Cs : List Addr) (d : D) (C : Addr) : Option Bool := match d with
  | .ins C' _ => if C' ∈ Cs ∧ C ∈ Cs then some (decide (C' = C)) else none
  | d => match tyS d with
    | some _ => if C ∈ Cs then some false else none
    | none => none
theorem tyS_in {d : D} {t : String} (h : tyS d = some t) : t ∈ tysB := by
  unfold tyS at h
  split at h <;> first | (cases h; done) | (cases h; simp [tysB])
def tyVal : D → Option Value
  | .ins C _ => some (.ref C)
  | d => (tyS d).map .type
/-- a value's type, and what isinstance says of one class -/
theorem isi_ty {K : Fg} {B : Ad} {H : Hp} {v : V} {d : D} {Cs : List Addr} {T : String} {b : Bool} (ik : IsiK K Cs) (h : RpB K B H v d) (q : isiTy Cs d T = some b) : ∃ t, tyVal d = some t ∧ TyX K H v t ∧ PySem.W.kitOne K t (.type T) = some b := by
  unfold isiTy at q
  split at q
  · split at q
    · rename_i hc
      cases q
      obtain ⟨a, dx, fs, rfl, ha, _⟩ := h.ins
      have c := ik.cl _ hc.1
      exact ⟨_, rfl, .base (.ins ha c.cl c.ha c.hn c.htk c.hm), ik.out _ hc.1 _ hc.2⟩
    · cases q
  · rename_i n
    split at q
    · rename_i w
      refine ⟨_, ?_, tyX_of h w, kit_ty q⟩
      unfold tyVal
      split
      · exact absurd rfl (n _ _)
      · rw [w]; rfl
    · cases q
theorem isi_cl {K : Fg} {B : Ad} {H : Hp} {v : V} {d : D} {Cs : List Addr} {C : Addr} {b : Bool} (ik : IsiK K Cs) (h : RpB K B H v d) (q : isiCl Cs d C = some b) : ∃ t, TyX K H v t ∧ PySem.W.kitOne K t (.ref C) = some b := by
  have gen : ∀ t, tyS d = some t → C ∈ Cs → ∃ t, TyX K H v t ∧ PySem.W.kitOne K t (.ref C) = some false := fun t w hc => ⟨_, tyX_of h w, ik.inn _ hc _ (tyS_in w)⟩
  unfold isiCl at q
  split at q
  · rename_i C' ds
    split at q
    · rename_i hc
      cases q
      obtain ⟨a, dx, fs, rfl, ha, _⟩ := h.ins
      have c := ik.cl _ hc.1
      refine ⟨_, .base (.ins ha c.cl c.ha c.hn c.htk c.hm), ?_⟩
      by_cases e : C' = C
      · subst e
        unfold PySem.W.kitOne
        simp
      · rw [decide_eq_false e]
        exact ik.two _ hc.2 _ hc.1 e
    · cases q
  · split at q
    · rename_i w
      split at q
      · rename_i hc
        cases q
        exact gen _ w hc
      · cases q
    · cases q
def dIsi (Cs : List Addr) : List D → Option (Bool × D)
  | [d, .raw (.ty T)] => (match isiTy Cs d T with
    | some b => some (false, .bl b)
    | none => none)
  | [d, .raw (.ref C)] => (match isiCl Cs d C with
    | some b => some (false, .bl b)
    | none => none)
  | _ => none
theorem RpB.raw {K : Fg} {B : Ad} {H : Hp} {v w : V} (h : RpB K B H v (.raw w)) : v = w := by
  rcases h with h | ⟨p, _, h⟩
  · cases h; rfl
  · exact h.elim
section
variable {X : Cx} {W : Wx} {Cs : List Addr}
theorem cd_isi (ik : IsiK X.K Cs) : CallR X (.builtin "isinstance") (rDn X.K (dIsi Cs)) := callr_imp call_isi fun xs H Q ⟨B, ds, tr, rs, q⟩ => by
  unfold dIsi at q; split at q
  · obtain ⟨v, w, rfl, rv, rw'⟩ := rs.two
    cases rw'.raw
    split at q
    · rename_i b hb
      obtain ⟨t, _, h1, h2⟩ := isi_ty ik rv hb
      exact ⟨v, _, t, _, b, rfl, .ty _, h1, h2, q.bl⟩
    · exact q.elim
  · obtain ⟨v, w, rfl, rv, rw'⟩ := rs.two
    cases rw'.raw
    split at q
    · rename_i b hb
      obtain ⟨t, h1, h2⟩ := isi_cl ik rv hb
      exact ⟨v, _, t, _, b, rfl, .own _, h1, h2, q.bl⟩
    · exact q.elim
  · exact q.elim
/-- isinstance(e, (T1, T2)) -/
def dIsi2 (Cs : List Addr) (T1 T2 : String) (d : D) : Option (Bool × D) := match isiTy Cs d T1, isiTy Cs d T2 with
  | some b, some c => some (false, .bl (b || c))
  | _, _ => none
theorem pd_isi2 {e : Expr} {f : M RV} {x1 x2 : Str} {T1 T2 : String} {p p1 p2 p3 pos : Pos} {k : Nat} (ik : IsiK X.K Cs) (he : PD X W e f) (hg : Gl X "isinstance") (hm : X.mg "isinstance" = none) (g1 : Gl X x1) (m1 : X.mg x1 = none) (v1 : bootBuiltins x1 = some (.type T1)) (g2 : Gl X x2) (m2 : X.mg x2 = none) (v2 : bootBuiltins x2 = some (.type T2))
    (n1 : x1 ≠ "__name__" := by decide) (d1 : (x1 == ("__debug__" : Str)) = false := by decide) (n2 : x2 ≠ "__name__" := by decide) (d2 : (x2 == ("__debug__" : Str)) = false := by decide)
    (s1 : starEach [.Name x1 p1, .Name x2 p2] X.env = (false, eval (.Name x1 p1) X.env) :: starEach [.Name x2 p2] X.env := by rfl) (s2 : starEach [.Name x2 p2] X.env = (false, eval (.Name x2 p2) X.env) :: starEach [] X.env := by rfl)
    (s3 : starEach [e, .Tuple [.Name x1 p1, .Name x2 p2] k p3] X.env = (false, eval e X.env) :: starEach [.Tuple [.Name x1 p1, .Name x2 p2] k p3] X.env := by rfl)
    (s4 : starEach [.Tuple [.Name x1 p1, .Name x2 p2] k p3] X.env = (false, eval (.Tuple [.Name x1 p1, .Name x2 p2] k p3) X.env) :: starEach [] X.env := by rfl) (hpl : (backTo pos (starEach [.Tuple [.Name x1 p1, .Name x2 p2] k p3] X.env)).any (·.1) = false := by rfl) :
    PD X W (.Call (.Name "isinstance" p) [e, .Tuple [.Name x1 p1, .Name x2 p2] k p3] [] pos) (eOp1 (dIsi2 Cs T1 T2) f) :=
  pe_imp (pe_callB call_isiT hg hm (by decide +kernel) (pa_cons he (pa_cons (pe_tup (pa_cons (pe_bltn (v := .ty T1) g1 m1 v1 rfl n1 d1) (pa_cons (pe_bltn (v := .ty T2) g2 m2 v2 rfl n2 d2) pa_nil s2) s1)) pa_nil s4) s3) (by decide) (by decide) s3 hpl) fun σ H Q h => by
    obtain ⟨F, e, R, h⟩ := op1_of h
    refine ⟨F, e, R, h.imp fun r F1 e1 H1 p1 h1 v hv => ?_⟩
    obtain ⟨B, dx, tr, rx, q⟩ := h1 v hv
    refine ⟨by show 2 ≤ sizeLine; decide, fun tp np => ?_⟩
    have sm := same_upd (o := .tup [V.ty T1, V.ty T2]) np
    have rx' : RpB X.K B (upd H1 tp (.tup [V.ty T1, V.ty T2])) v dx := by
      rcases rx with rx | ⟨p, rfl, o⟩
      · exact .inl (rx.step (fun a o q _ => sm a o q) fun a z => .inl z)
      · refine .inr ⟨p, rfl, o.step (fun a o q _ => sm a o q) (fun a z => .inl z) ?_⟩
        cases w : H1 p with
        | none => exact absurd w o.some
        | some ob => exact sm p ob w
    unfold dIsi2 at q
    cases w1 : isiTy Cs dx T1 with
    | none => simp only [w1] at q; exact q.elim
    | some b =>
      cases w2 : isiTy Cs dx T2 with
      | none => simp only [w1, w2] at q; exact q.elim
      | some c =>
        simp only [w1, w2] at q
        obtain ⟨t, t1, h1, h2⟩ := isi_ty ik rx' w1
        obtain ⟨t', t2, h3, h4⟩ := isi_ty ik rx' w2
        have et : t = t' := Option.some.inj (t1.symm.trans t2)
        subst et
        refine ⟨v, tp, [.ty T1, .ty T2], t, [.type T1, .type T2], b || c, rfl, upd_same, .cons (.ty _) (.cons (.ty _) .nil), h1, ?_, q _ _ sm (.bl _)⟩
        unfold PySem.W.kitAny
        rw [h2]
        cases b with
        | true => rfl
        | false =>
          unfold PySem.W.kitAny
          simp only [h4]
          cases c <;> rfl
end
end Cw

/-! Cw, part M: sorted(set(..)); instances made; fields, items and lists changed; two names at once. -/
namespace Cw
open PySem L2

/-! ### sorted(set(t)), t a tuple of ints -/
def insU (a : Int) : List Int → List Int
  | [] => [a]
  | b :: r => if a < b then a :: b :: r else if a = b then b :: r else b :: insU a r
def sortU : List Int → List Int
  | [] => []
  | a :: r => insU a (sortU r)
theorem mem_insU {a x : Int} : ∀ {l : List Int}, x ∈ insU a l ↔ x = a ∨ x ∈ l
  | [] => by simp [insU]
  | b :: r => by
    unfold insU
    split
    · simp
    · split
      · rename_i h; subst h; simp
      · simp only [List.mem_cons, mem_insU (l := r)]
        constructor
        · rintro (h | h | h)
          · exact .inr (.inl h)
          · exact .inl h
          · exact .inr (.inr h)
        · rintro (h | h | h)
          · exact .inr (.inl h)
          · exact .inl h
          · exact .inr (.inr h)
theorem mem_sortU {x : Int} : ∀ {l : List Int}, x ∈ sortU l ↔ x ∈ l
  | [] => by simp [sortU]
  | a :: r => by unfold sortU; rw [mem_insU, mem_sortU, List.mem_cons]
theorem asc_insU {a : Int} : ∀ {l : List Int}, l.Pairwise (· < ·) → (insU a l).Pairwise (· < ·)
  | [], _ => by simp [insU]
  | b :: r, h => by
    obtain ⟨h1, h2⟩ := List.pairwise_cons.mp h
    unfold insU
    split
    · rename_i hab
      refine List.pairwise_cons.mpr ⟨fun y hy => ?_, h⟩
      rcases List.mem_cons.mp hy with e | e
      · rw [e]; exact hab
      · exact Int.lt_trans hab (h1 y e)
    · split
      · exact h
      · rename_i n1 n2
        refine List.pairwise_cons.mpr ⟨fun y hy => ?_, asc_insU h2⟩
        rcases mem_insU.mp hy with e | e
        · rw [e]; omega
        · exact h1 y e
theorem asc_sortU : ∀ l : List Int, (sortU l).Pairwise (· < ·)
  | [] => .nil
  | a :: r => asc_insU (asc_sortU r)
/-- ascending lists with the same members are one -/
theorem asc_one : ∀ {l m : List Int}, l.Pairwise (· < ·) → m.Pairwise (· < ·) → (∀ x, x ∈ l ↔ x ∈ m) → l = m
  | [], [], _, _, _ => rfl
  | [], b :: r, _, _, h => by have := (h b).mpr (List.mem_cons_self ..); cases this
  | a :: r, [], _, _, h => by have := (h a).mp (List.mem_cons_self ..); cases this
  | a :: r, b :: s, h1, h2, h => by
    obtain ⟨p1, p2⟩ := List.pairwise_cons.mp h1
    obtain ⟨q1, q2⟩ := List.pairwise_cons.mp h2
    have e : a = b := by
      rcases List.mem_cons.mp ((h a).mp (List.mem_cons_self ..)) with e | e
      · exact e
      · rcases List.mem_cons.mp ((h b).mpr (List.mem_cons_self ..)) with e' | e'
        · exact e'.symm
        · have := q1 a e
          have := p1 b e'
          omega
    subst e
    congr 1
    refine asc_one p2 q2 fun x => ?_
    have hx := h x
    simp only [List.mem_cons] at hx
    constructor
    · intro z
      rcases hx.mp (.inr z) with e | e
      · have := p1 x z
        omega
      · exact e
    · intro z
      rcases hx.mpr (.inr z) with e | e
      · have := q1 x z
        omega
      · exact e
def dSortSet : D → Option (Bool × D)
  | .tup xs => (match intL xs with
    | some ns => if ns.length < 64 then some (true, .lst ((sortU ns).map .int)) else none
    | none => none)
  | _ => none
section
variable {X : Cx}
def rSetTI (K : Fg) (w : World) : List V → Hp → VK → Prop := fun xs H Q => ∃ (a : Addr) (ns : List Int), xs = [.ref a] ∧ SqT K H a (ns.map V.int) ∧ ns.length < 64 ∧ ∀ p c, H p = none → c < 64 → Q (.ref p) (upd H p (SetO w p (fun j => decide (j ∈ ns)) c))
theorem cr_setTI (hc : X.calm = true) : CallR X (.type "set") (rSetTI X.K X.w) := by
  rintro pins s σ H xs us Q I r ⟨a, ns, rfl, sq, hz, q⟩
  obtain ⟨its, rv, it, _⟩ := I.tuple sq
  cases r with
  | cons ru rr =>
    cases rr
    cases ru
    refine call_set_tupI ns (I.ok.hd hc) it (by simpa using rv.ints) (by have : scanBound = 4096 := rfl; omega) fun h' tk c R hc hk => ?_
    exact ⟨.ref _, _, I.laid (t' := tk) hk (Nat.le_refl _) (setO_new R), rfl, q _ c (I.hok.fresh (Nat.le_refl _)) (by omega)⟩
variable {W : Wx} {a : Expr} {f : M RV} {p p2 pos pos2 : Pos}
theorem pd_sortSet (hc : X.calm = true) (hg : Gl X "sorted") (hm : X.mg "sorted" = none) (hg2 : Gl X "set") (hm2 : X.mg "set" = none) (ha : PD X W a f)
    (s1 : starEach [a] X.env = (false, eval a X.env) :: starEach [] X.env := by rfl) (s2 : starEach [.Call (.Name "set" p2) [a] [] pos2] X.env = (false, eval (.Call (.Name "set" p2) [a] [] pos2) X.env) :: starEach [] X.env := by rfl) :
    PD X W (.Call (.Name "sorted" p) [.Call (.Name "set" p2) [a] [] pos2] [] pos) (eOp1 dSortSet f) :=
  pe_imp (pe_callB (cr_sortedSet hc) hg hm (by decide +kernel) (pa_cons (pe_callTy (cr_setTI hc) hg2 hm2 (by decide +kernel) (pa_cons ha pa_nil s1) (by decide) (by decide) s1 rfl) pa_nil s2) (by decide) (by decide) s2 rfl) fun σ H Q h => by
    obtain ⟨F, e, R, h⟩ := op1_of h
    refine ⟨F, e, R, h.imp fun r F1 e1 H1 p1 h1 v hv => ?_⟩
    obtain ⟨B, dx, tr, rx, q⟩ := h1 v hv
    unfold dSortSet at q
    split at q
    · rename_i xs
      obtain ⟨b, vs, rfl, t, rl⟩ := rx.tup
      split at q
      · rename_i ns w
        split at q
        · rename_i hz
          refine ⟨b, ns, rfl, by rw [← rl.ints w]; exact t.sq, hz, fun sp c nsp hc => ?_⟩
          have sm := same_upd (o := SetO X.w sp (fun j => decide (j ∈ ns)) c) nsp
          refine ⟨sp, _, c, rfl, upd_same, hc, fun ms p2 asc mem _ np => ?_⟩
          have em : ms = sortU ns := asc_one asc (asc_sortU ns) fun x => by
            rw [mem, mem_sortU]
            exact decide_eq_true_iff
          have np1 : H1 p2 = none := sm.free np
          have sm2 := same_upd (o := .lst (ms.map V.int)) np
          refine q p2 _ (sm.trans sm2) np1 ⟨_, upd_same, ?_⟩
          rw [em]
          exact rp_ints id (sortU ns)
        · exact q.elim
      · exact q.elim
    · exact q.elim
end

/-! ### an instance is made -/
def makeM (C : Addr) (modes : List Bool) (G : Fn) (rs : List RV) : M RV := fun e =>
  if (muI modes rs).Nodup then (match gather modes rs e with
    | none => .bad
    | some ds => match G (.ins C [] :: ds) with
      | .ok (false, .non) (m0 :: ms) => (match scatter (muI modes rs) ms e with
        | some e' => .ok (.fr m0) e'
        | none => .bad)
      | .exc x (_ :: ms) => (match scatter (muI modes rs) ms e with
        | some e' => .exc x e'
        | none => .bad)
      | _ => .bad) else .bad
def eMake (C : Addr) (modes : List Bool) (G : Fn) (fs : M (List RV)) : M RV := M.bind fs (makeM C modes G)
section
variable {K : Fg} {F : Fx} {σ : St} {H : Hp} {e : En} {x : Addr}
theorem getE_app {s : Option (Fl × D)} : ∀ {e : En} {i : Nat} {y : Fl × D}, getE (e ++ [s]) i = some y → getE e i = some y ∨ (i = e.length ∧ s = some y)
  | [], 0, y, h => .inr ⟨rfl, h⟩
  | [], i + 1, y, h => by cases h
  | z :: e, 0, y, h => .inl h
  | z :: e, i + 1, y, h => (getE_app (e := e) (i := i) h).imp id fun h => ⟨congrArg (· + 1) h.1, h.2⟩
theorem getE_app_l {s : Option (Fl × D)} : ∀ {e : En} {i : Nat}, i < e.length → getE (e ++ [s]) i = getE e i
  | z :: e, 0, h => rfl
  | z :: e, i + 1, h => getE_app_l (e := e) (i := i) (by simpa using h)
theorem getE_app_r {s : Option (Fl × D)} : ∀ {e : En}, getE (e ++ [s]) e.length = s
  | [] => rfl
  | z :: e => getE_app_r (e := e)
theorem getS_app_l {s : Option V} : ∀ {e : St} {i : Nat}, i < e.length → getS (e ++ [s]) i = getS e i
  | z :: e, 0, h => rfl
  | z :: e, i + 1, h => getS_app_l (e := e) (i := i) (by simpa using h)
theorem getS_app_r {s : Option V} : ∀ {e : St}, getS (e ++ [s]) e.length = s
  | [] => rfl
  | z :: e => getS_app_r (e := e)
theorem own_app {d : D} (hl : e.length = σ.length) (a : Addr) : Own (σ ++ [some (.ref x)]) (e ++ [some (.ow, d)]) a ↔ Own σ e a ∨ a = x := by
  constructor
  · rintro ⟨i, f, d', q, n, s⟩
    rcases getE_app q with q | ⟨q, z⟩
    · rw [getS_app_l (hl ▸ getE_lt q)] at s
      exact .inl ⟨i, f, d', q, n, s⟩
    · subst q
      rw [hl, getS_app_r] at s
      cases s
      exact .inr rfl
  · rintro (⟨i, f, d', q, n, s⟩ | rfl)
    · have hi := getE_lt q
      exact ⟨i, f, d', by rw [getE_app_l hi]; exact q, n, by rw [getS_app_l (hl ▸ hi)]; exact s⟩
    · exact ⟨e.length, .ow, d, getE_app_r, by decide, by rw [hl]; exact getS_app_r⟩
/-- a new object as one slot more -/
theorem Rel.push {d : D} (R : Rel K (F.plus x) σ H e) (nx : ¬ F.bx x) (o : OwnAt K (Bd (F.plus x) σ e) H x d) : Rel K F (σ ++ [some (.ref x)]) H (e ++ [some (.ow, d)]) := by
  have ow := own_app (x := x) (d := d) R.len
  have bd : ∀ a, Bd F (σ ++ [some (.ref x)]) (e ++ [some (.ow, d)]) a → Bd (F.plus x) σ e a := fun a z => by
    rcases z with z | z
    · exact .inl (.inl z)
    · rcases (ow a).mp z with z | z
      · exact .inr z
      · exact .inl (.inr z)
  have sl : ∀ {i y}, getE e i = some y → getS (σ ++ [some (.ref x)]) i = getS σ i := fun q => getS_app_l (R.len ▸ getE_lt q)
  have nxo : ¬ Own σ e x := (R.ext x (.inr rfl)).1
  refine ⟨by simp [R.len], fun i d' q => ?_, fun i f d' q n => ?_, fun i j f g d1 d2 p q1 n1 q2 n2 s1 s2 => ?_, fun a z => ⟨fun w => ?_, (R.ext a (.inl z)).2⟩, fun q hq => ?_⟩
  · rcases getE_app q with q | ⟨_, z⟩
    · obtain ⟨v, a, b⟩ := R.val i d' q
      exact ⟨v, by rw [sl q]; exact a, b.anti bd⟩
    · cases z
  · rcases getE_app q with q | ⟨hi, z⟩
    · obtain ⟨v, a, b⟩ := R.own i f d' q n
      exact ⟨v, by rw [sl q]; exact a, b.anti bd⟩
    · cases z
      subst hi
      exact ⟨x, by rw [R.len]; exact getS_app_r, o.anti bd⟩
  · rcases getE_app q1 with q1 | ⟨hi, z1⟩
    · rw [sl q1] at s1
      rcases getE_app q2 with q2 | ⟨hj, z2⟩
      · rw [sl q2] at s2
        exact R.dist i j f g d1 d2 p q1 n1 q2 n2 s1 s2
      · subst hj
        rw [R.len, getS_app_r] at s2
        cases s2
        exact absurd ⟨i, f, d1, q1, n1, s1⟩ nxo
    · subst hi
      rw [R.len, getS_app_r] at s1
      cases s1
      rcases getE_app q2 with q2 | ⟨hj, z2⟩
      · rw [sl q2] at s2
        exact absurd ⟨j, g, d2, q2, n2, s2⟩ nxo
      · exact hj.symm
  · rcases (ow a).mp w with w | w
    · exact (R.ext a (.inl z)).1 w
    · exact nx (w ▸ z)
  · obtain ⟨a, d', b⟩ := R.pin q hq
    exact ⟨by rw [sl b]; exact a, d', by rw [getE_app_l (getE_lt b)]; exact b⟩
theorem Rel.pop {d : D} (hl : e.length = σ.length) (R : Rel K F (σ ++ [some (.ref x)]) H (e ++ [some (.ow, d)])) : Rel K (F.plus x) σ H e ∧ OwnAt K (Bd (F.plus x) σ e) H x d := by
  have ow := own_app (x := x) (d := d) hl
  have bd : ∀ a, Bd (F.plus x) σ e a → Bd F (σ ++ [some (.ref x)]) (e ++ [some (.ow, d)]) a := fun a z => by
    rcases z with (z | z) | z
    · exact .inl z
    · exact .inr ((ow a).mpr (.inr z))
    · exact .inr ((ow a).mpr (.inl z))
  have sl : ∀ {i y}, getE e i = some y → getE (e ++ [some (.ow, d)]) i = some y ∧ getS (σ ++ [some (.ref x)]) i = getS σ i := fun q => ⟨by rw [getE_app_l (getE_lt q)]; exact q, getS_app_l (hl ▸ getE_lt q)⟩
  obtain ⟨p, s, o⟩ := R.own e.length .ow d getE_app_r (by decide)
  rw [hl, getS_app_r] at s
  cases s
  refine ⟨⟨hl, fun i d' q => ?_, fun i f d' q n => ?_, fun i j f g d1 d2 p q1 n1 q2 n2 s1 s2 => ?_, fun a z => ?_, fun q hq => ?_⟩, o.anti bd⟩
  · obtain ⟨v, a, b⟩ := R.val i d' (sl q).1
    exact ⟨v, by rw [← (sl q).2]; exact a, b.anti bd⟩
  · obtain ⟨v, a, b⟩ := R.own i f d' (sl q).1 n
    exact ⟨v, by rw [← (sl q).2]; exact a, b.anti bd⟩
  · exact R.dist i j f g d1 d2 p (sl q1).1 n1 (sl q2).1 n2 (by rw [(sl q1).2]; exact s1) (by rw [(sl q2).2]; exact s2)
  · rcases z with z | z
    · obtain ⟨h1, h2⟩ := R.ext a z
      exact ⟨fun w => h1 ((ow a).mpr (.inl w)), h2⟩
    · rw [z]
      refine ⟨fun ⟨i, f, d', q, n, s⟩ => ?_, o.some⟩
      have := R.dist i e.length f .ow d' d x (sl q).1 n getE_app_r (by decide) (by rw [(sl q).2]; exact s) (by rw [hl]; exact getS_app_r)
      have := getE_lt q
      omega
  · obtain ⟨a, d', b⟩ := R.pin q hq
    rcases getE_app b with b | ⟨hi, z⟩
    · exact ⟨by rw [← (sl b).2]; exact a, d', b⟩
    · cases z
theorem scatter_app {s : Option (Fl × D)} : ∀ {is : List Nat} {ds : List D} {e e2 : En}, scatter is ds e = some e2 → scatter is ds (e ++ [s]) = some (e2 ++ [s])
  | [], [], e, e2, h => by cases h; rfl
  | i :: is, d :: ds, e, e2, h => by
    unfold scatter at h ⊢
    cases w : getE e i with
    | none => simp only [w] at h; cases h
    | some y =>
      obtain ⟨f, d0⟩ := y
      simp only [w] at h
      have hi := getE_lt w
      rw [getE_app_l hi, w]
      simp only
      rw [List.set_append_left _ _ hi]
      exact scatter_app h
  | [], _ :: _, _, _, h => by cases h
  | _ :: _, [], _, _, h => by cases h
theorem gather_app {s : Option (Fl × D)} : ∀ {ms : List Bool} {rs : List RV} {ds : List D}, gather ms rs e = some ds → gather ms rs (e ++ [s]) = some ds
  | [], [], ds, h => h
  | false :: ms, .sh d :: rs, ds, h => by
    unfold gather at h ⊢
    cases w : gather ms rs e with
    | none => rw [w] at h; cases h
    | some dr => rw [w] at h; rw [gather_app w]; exact h
  | true :: ms, .sl i :: rs, ds, h => by
    unfold gather at h ⊢
    cases g : getE e i with
    | none => simp only [g] at h; cases h
    | some y =>
      obtain ⟨f, d⟩ := y
      rw [getE_app_l (getE_lt g), g]
      cases w : gather ms rs e with
      | none => cases f <;> simp only [g, w] at h <;> cases h
      | some dr => cases f <;> simp only [g, w] at h <;> first | (cases h; done) | (rw [gather_app w]; exact h)
  | [], _ :: _, ds, h => by cases h
  | false :: _, [], ds, h => by cases h
  | true :: _, [], ds, h => by cases h
  | false :: _, .fr _ :: _, ds, h => by cases h
  | false :: _, .sl _ :: _, ds, h => by cases h
  | true :: _, .sh _ :: _, ds, h => by cases h
  | true :: _, .fr _ :: _, ds, h => by cases h
theorem muI_lt : ∀ {ms : List Bool} {rs : List RV} {ds : List D}, gather ms rs e = some ds → ∀ i, i ∈ muI ms rs → i < e.length
  | [], [], ds, h, i, hi => by cases hi
  | false :: ms, .sh d :: rs, ds, h, i, hi => by
    unfold gather at h
    cases w : gather ms rs e with
    | none => rw [w] at h; cases h
    | some dr => exact muI_lt w i hi
  | true :: ms, .sl j :: rs, ds, h, i, hi => by
    unfold gather at h
    cases g : getE e j with
    | none => simp only [g] at h; cases h
    | some y =>
      obtain ⟨f, d⟩ := y
      cases w : gather ms rs e with
      | none => cases f <;> simp only [g, w] at h <;> cases h
      | some dr =>
        rcases List.mem_cons.mp hi with z | z
        · rw [z]; exact getE_lt g
        · exact muI_lt w i z
  | [], _ :: _, ds, h, i, hi => by cases h
  | false :: _, [], ds, h, i, hi => by cases h
  | true :: _, [], ds, h, i, hi => by cases h
  | false :: _, .fr _ :: _, ds, h, i, hi => by cases h
  | false :: _, .sl _ :: _, ds, h, i, hi => by cases h
  | true :: _, .sh _ :: _, ds, h, i, hi => by cases h
  | true :: _, .fr _ :: _, ds, h, i, hi => by cases h
theorem HeldL.app {H0 : Hp} {s : V} {d : D} (hl : e.length = σ.length) (R : Rel K (F.plus x) σ H e) (k : ∀ a, Bd F (σ ++ [some (.ref x)]) (e ++ [some (.ow, d)]) a → Bd (F.plus x) σ e a) : ∀ {vs : List V} {rs : List RV} {ms : List Bool} {ds : List D}, gather ms rs e = some ds → HeldL K (F.plus x) σ H0 H e vs rs → HeldL K F (σ ++ [some (.ref x)]) H H (e ++ [some (.ow, d)]) vs rs
  | [], [], ms, ds, g, h => trivial
  | v :: vs, .sh d' :: rs, ms, ds, g, h => by
    refine ⟨Rp.anti h.1 k, ?_⟩
    match ms, g with
    | false :: ms, g =>
      unfold gather at g
      cases w : gather ms rs e with
      | none => rw [w] at g; cases g
      | some dr => exact HeldL.app (s := s) hl R k w h.2
  | v :: vs, .sl i :: rs, ms, ds, g, h => by
    match ms, g with
    | true :: ms, g =>
      unfold gather at g
      cases q : getE e i with
      | none => simp only [q] at g; cases g
      | some y =>
        obtain ⟨f, d0⟩ := y
        refine ⟨show getS (σ ++ [some (.ref x)]) i = some v by rw [getS_app_l (hl ▸ getE_lt q)]; exact h.1, ?_⟩
        cases w : gather ms rs e with
        | none => cases f <;> simp only [q, w] at g <;> cases g
        | some dr => exact HeldL.app (s := s) hl R k w h.2
  | v :: vs, .fr d' :: rs, ms, ds, g, h => by
    match ms, g with
    | false :: ms, g => cases g
    | true :: ms, g => cases g
    | [], g => cases g
  | [], _ :: _, _, _, _, h => h.elim
  | _ :: _, [], _, _, _, h => h.elim
end
section
variable {X : Cx} {W : Wx} {x : Str} {p pos : Pos} {e : Expr} {es : List Expr} {fs : M (List RV)} {CX : CXT} {k : Nat} {f C : Addr} {fd : FuncData} {ps : List Str} {modes : List Bool} {G : Fn}
theorem make_of {K : Fg} {σ : St} {H : Hp} {Q : VK} (h : tE W K (eMake C modes G fs) σ H Q) : tMakeG C (spD K (true :: modes) G) [] (WE W) (tA W K fs) σ H Q := by
  obtain ⟨F, e, R, h⟩ := h
  refine ⟨F, e, R, h.bind.imp fun rs F1 e1 H1 p1 h1 vs hv x dx nx ndx hne => ?_⟩
  rw [List.append_nil]
  unfold makeM at h1
  by_cases nd : (muI modes rs).Nodup
  · rw [if_pos nd] at h1
    cases hg : gather modes rs e1 with
    | none => simp only [hg] at h1; exact h1.elim
    | some ds =>
      simp only [hg] at h1
      have main : ∀ m0 ms e2, G (.ins C [] :: ds) = .ok (false, .non) (m0 :: ms) → scatter (muI modes rs) ms e1 = some e2 → Aft W K F1 σ H1 e1 (fun r F' e' H' => ∀ v, Held K F' σ H H' e' v r → Q v H') (.ok (.fr m0) e2) →
          spD K (true :: modes) G (.ref x :: vs) (upd (upd H1 dx (.own x)) x (.ins C dx [])) (fun v H2 => v = .non ∧ Q (.ref x) H2) (WE W σ) := fun m0 ms e2 hG hs h1 => by
        have s1 := same_upd (o := .own x) ndx
        have nx1 : upd H1 dx (.own x) x = none := by rw [upd_ne (Ne.symm hne)]; exact nx
        have sm : Same H1 (upd (upd H1 dx (.own x)) x (.ins C dx [])) := s1.trans (same_upd nx1)
        have R1 := p1.rel.plus sm nx (by rw [upd_same]; exact fun z => nomatch z)
        have nbx : ¬ F1.bx x := fun z => (p1.rel.ext x z).2 nx
        have o1 : OwnAt K (Bd (F1.plus x) σ e1) (upd (upd H1 dx (.own x)) x (.ins C dx [])) x (.ins C []) := ⟨dx, [], upd_same, .nil⟩
        have R2 := R1.push nbx o1
        have hl := p1.rel.len
        have ow := own_app (x := x) (d := .ins C []) hl
        have pp : Post K F1 σ H1 e1 (F1.plus x) σ (upd (upd H1 dx (.own x)) x (.ins C dx [])) e1 := ⟨R1, .same sm, fun _ z => .inl z, ⟨rfl, fun a z => .inl z, fun a z => z.elim .inl fun z => .inr (z ▸ nx)⟩⟩
        have kk : ∀ a, Bd F1 (σ ++ [some (.ref x)]) (e1 ++ [some (.ow, .ins C [])]) a → Bd (F1.plus x) σ e1 a := fun a z => by
          rcases z with z | z
          · exact .inl (.inl z)
          · rcases (ow a).mp z with z | z
            · exact .inr z
            · exact .inl (.inr z)
        have hv2 := HeldL.app (s := .non) (d := .ins C []) hl R1 kk hg (hv.post p1.rel pp)
        refine call_sp (F := F1) (σ := σ ++ [some (.ref x)]) (e := (e1 ++ [some (Fl.ow, D.ins C [])] : En)) (H0 := upd (upd H1 dx (.own x)) x (.ins C dx [])) (e2 := (e2 ++ [some (Fl.ow, m0)] : En)) (rs := .sl e1.length :: rs) (ds := .ins C [] :: ds) (ms := m0 :: ms) (r := (false, .non)) R2 ⟨?_, hv2⟩ ?_ ?_ hG ?_ fun v H' F' po hh => ?_
        · show getS (σ ++ [some (.ref x)]) e1.length = some (.ref x)
          rw [hl]; exact getS_app_r
        · exact List.nodup_cons.mpr ⟨fun z => absurd (muI_lt hg _ z) (Nat.lt_irrefl _), nd⟩
        · show (match getE ((e1 ++ [some (Fl.ow, D.ins C [])]) : En) e1.length with
            | some (.sh, _) => none
            | some (_, d) => (match gather modes rs ((e1 ++ [some (Fl.ow, D.ins C [])]) : En) with
              | some ds => some (d :: ds)
              | none => none)
            | none => none) = some (.ins C [] :: ds)
          rw [getE_app_r, gather_app hg]
        · show (match getE ((e1 ++ [some (Fl.ow, D.ins C [])]) : En) e1.length with
            | some (f, _) => scatter (muI modes rs) ms (((e1 ++ [some (Fl.ow, D.ins C [])]) : En).set e1.length (some (f, m0)))
            | none => none) = some (e2 ++ [some (.ow, m0)])
          rw [getE_app_r]
          simp only
          rw [List.set_append_right _ _ (Nat.le_refl _), Nat.sub_self]
          exact scatter_app hs
        · have ev : v = .non := by cases hh; rfl
          refine ⟨ev, ?_⟩
          have hl2 : e2.length = σ.length := by rw [(scatter_spec nd hs).1]; exact hl
          obtain ⟨R3, o3⟩ := po.rel.pop hl2
          have ow2 := own_app (x := x) (d := m0) hl2
          have bk : ∀ a, upd (upd H1 dx (.own x)) x (.ins C dx []) a = none → H1 a = none := fun a q => sm.free q
          refine h1 (F'.plus x) H' ⟨R3, ⟨fun a o q n => po.stp.keep a o (sm a o q) fun z => ?_, fun a q => bk a (po.stp.back a q)⟩, fun a z => ?_, ⟨po.le.pn, fun a z => .inl (po.le.up a z), fun a z => ?_⟩⟩ _ ⟨x, rfl, p1.stp.back x nx, .inr rfl, o3⟩
          · rcases (ow a).mp z with z | z
            · exact n z
            · rw [z, nx] at q; cases q
          · rcases po.ow a ((ow2 a).mpr (.inl z)) with z | z
            · rcases (ow a).mp z with z | z
              · exact .inl z
              · exact .inr (z ▸ nx)
            · exact .inr (bk a z)
          · rcases z with z | z
            · exact (po.le.dn a z).imp id (bk a)
            · exact .inr (z ▸ nx)
      have mainX : ∀ xx m0 ms e2, G (.ins C [] :: ds) = .exc xx (m0 :: ms) → scatter (muI modes rs) ms e1 = some e2 → Aft W K F1 σ H1 e1 (fun r F' e' H' => ∀ v, Held K F' σ H H' e' v r → Q v H') (.exc xx e2) →
          spD K (true :: modes) G (.ref x :: vs) (upd (upd H1 dx (.own x)) x (.ins C dx [])) (fun v H2 => v = .non ∧ Q (.ref x) H2) (WE W σ) := fun xx m0 ms e2 hG hs h1 => by
        have s1 := same_upd (o := .own x) ndx
        have nx1 : upd H1 dx (.own x) x = none := by rw [upd_ne (Ne.symm hne)]; exact nx
        have sm : Same H1 (upd (upd H1 dx (.own x)) x (.ins C dx [])) := s1.trans (same_upd nx1)
        have R1 := p1.rel.plus sm nx (by rw [upd_same]; exact fun z => nomatch z)
        have nbx : ¬ F1.bx x := fun z => (p1.rel.ext x z).2 nx
        have o1 : OwnAt K (Bd (F1.plus x) σ e1) (upd (upd H1 dx (.own x)) x (.ins C dx [])) x (.ins C []) := ⟨dx, [], upd_same, .nil⟩
        have R2 := R1.push nbx o1
        have hl := p1.rel.len
        have ow := own_app (x := x) (d := .ins C []) hl
        have pp : Post K F1 σ H1 e1 (F1.plus x) σ (upd (upd H1 dx (.own x)) x (.ins C dx [])) e1 := ⟨R1, .same sm, fun _ z => .inl z, ⟨rfl, fun a z => .inl z, fun a z => z.elim .inl fun z => .inr (z ▸ nx)⟩⟩
        have kk : ∀ a, Bd F1 (σ ++ [some (.ref x)]) (e1 ++ [some (.ow, .ins C [])]) a → Bd (F1.plus x) σ e1 a := fun a z => by
          rcases z with z | z
          · exact .inl (.inl z)
          · rcases (ow a).mp z with z | z
            · exact .inr z
            · exact .inl (.inr z)
        have hv2 := HeldL.app (s := .non) (d := .ins C []) hl R1 kk hg (hv.post p1.rel pp)
        refine call_spX (F := F1) (σ := σ ++ [some (.ref x)]) (e := (e1 ++ [some (Fl.ow, D.ins C [])] : En)) (H0 := upd (upd H1 dx (.own x)) x (.ins C dx [])) (e2 := (e2 ++ [some (Fl.ow, m0)] : En)) (rs := .sl e1.length :: rs) (ds := .ins C [] :: ds) (ms := m0 :: ms) (x := xx) R2 ⟨?_, hv2⟩ ?_ ?_ hG ?_ fun cls d H' po hx => ?_
        · show getS (σ ++ [some (.ref x)]) e1.length = some (.ref x)
          rw [hl]; exact getS_app_r
        · exact List.nodup_cons.mpr ⟨fun z => absurd (muI_lt hg _ z) (Nat.lt_irrefl _), nd⟩
        · show (match getE ((e1 ++ [some (Fl.ow, D.ins C [])]) : En) e1.length with
            | some (.sh, _) => none
            | some (_, d) => (match gather modes rs ((e1 ++ [some (Fl.ow, D.ins C [])]) : En) with
              | some ds => some (d :: ds)
              | none => none)
            | none => none) = some (.ins C [] :: ds)
          rw [getE_app_r, gather_app hg]
        · show (match getE ((e1 ++ [some (Fl.ow, D.ins C [])]) : En) e1.length with
            | some (f, _) => scatter (muI modes rs) ms (((e1 ++ [some (Fl.ow, D.ins C [])]) : En).set e1.length (some (f, m0)))
            | none => none) = some (e2 ++ [some (.ow, m0)])
          rw [getE_app_r]
          simp only
          rw [List.set_append_right _ _ (Nat.le_refl _), Nat.sub_self]
          exact scatter_app hs
        · have hl2 : e2.length = σ.length := by rw [(scatter_spec nd hs).1]; exact hl
          obtain ⟨R3, o3⟩ := po.rel.pop hl2
          have ow2 := own_app (x := x) (d := m0) hl2
          have bk : ∀ a, upd (upd H1 dx (.own x)) x (.ins C dx []) a = none → H1 a = none := fun a q => sm.free q
          refine h1 cls d (F1.plus x) H' ⟨R3, ⟨fun a o q n => po.stp.keep a o (sm a o q) fun z => ?_, fun a q => bk a (po.stp.back a q)⟩, fun a z => ?_, ⟨po.le.pn, fun a z => .inl (po.le.up a z), fun a z => ?_⟩⟩ (hx.anti fun a z => ?_)
          · rcases (ow a).mp z with z | z
            · exact n z
            · rw [z, nx] at q; cases q
          · rcases po.ow a ((ow2 a).mpr (.inl z)) with z | z
            · rcases (ow a).mp z with z | z
              · exact .inl z
              · exact .inr (z ▸ nx)
            · exact .inr (bk a z)
          · rcases z with z | z
            · exact (po.le.dn a z).imp id (bk a)
            · exact .inr (z ▸ nx)
          · rcases z with (z | z) | z
            · exact .inl z
            · exact .inr ((ow2 a).mpr (.inr z))
            · exact .inr ((ow2 a).mpr (.inl z))
      cases hG : G (.ins C [] :: ds) with
      | bad => simp only [hG] at h1; exact h1.elim
      | exc xx ms =>
        cases ms with
        | nil => simp only [hG] at h1; exact h1.elim
        | cons m0 ms =>
          simp only [hG] at h1
          cases hs : scatter (muI modes rs) ms e1 with
          | none => simp only [hs] at h1; exact h1.elim
          | some e2 =>
            simp only [hs] at h1
            exact mainX xx m0 ms e2 hG hs h1
      | ok r ms =>
        simp only [hG] at h1
        obtain ⟨b, d⟩ := r
        cases b with
        | true => exact h1.elim
        | false =>
          cases d with
          | non =>
            cases ms with
            | nil => exact h1.elim
            | cons m0 ms =>
              simp only at h1
              cases hs : scatter (muI modes rs) ms e1 with
              | none => simp only [hs] at h1; exact h1.elim
              | some e2 =>
                simp only [hs] at h1
                exact main m0 ms e2 hG hs h1
          | _ => exact h1.elim
  · rw [if_neg nd] at h1; exact h1.elim
theorem pd_make (Mc : Mk X.K C f) (Fo : FnG X.prog X.w X.K X.mg X.base CX k f fd ps (spD X.K (true :: modes) G)) (hr : Room (k + 1) X.A) (hgd : X.A.guards = some []) (hg : Gl X x) (hm : X.mg x = some (.ref C)) (hb : Binds X.K fd ps []) (hx : ∀ σ, PassesAt CX X σ (WE W σ)) (ha : PDA X W (e :: es) fs)
    (hdb : (x == ("__debug__" : Str)) = false := by decide) (he : starEach (e :: es) X.env = (false, eval e X.env) :: starEach es X.env := by rfl) (hpl : (backTo pos (starEach es X.env)).any (·.1) = false := by rfl) :
    PD X W (.Call (.Name x p) (e :: es) [] pos) (eMake C modes G fs) :=
  pe_imp (peg_make Mc Fo hr hgd hg hm hb .nil hx ha hdb he hpl) fun _ _ _ => make_of
end

/-! ### self.f = e -/
def putD (n : Str) (d : D) : List (Str × D) → List (Str × D)
  | [] => [(n, d)]
  | (m, x) :: r => if m = n then (m, d) :: r else (m, x) :: putD n d r
theorem RpF.put {K : Fg} {B : Ad} {H : Hp} {n : Str} {v : V} {d : D} (r : Rp K B H v d) : ∀ {vs : List (Str × V)} {ds : List (Str × D)}, RpF K B H vs ds → RpF K B H (putF n v vs) (putD n d ds)
  | _, _, .nil => .cons r .nil
  | _, _, .cons (n := m) a t => by
    unfold putF putD
    split
    · exact .cons r t
    · exact .cons a (RpF.put r t)
def sFldS (C : Addr) (i : Nat) (n : Str) (g : M RV) : S := M.then (M.bind g M.esc) fun d => fun e => match getE e i with
  | some (.sh, _) => .bad
  | some (f, .ins C' ds) => if C' = C ∧ ds.length < 1000 then .nx (e.set i (some (f, .ins C' (putD n d ds)))) else .bad
  | _ => .bad
section
variable {X : Cx} {W : Wx} {x n : Str} {p pos pos' : Pos} {v : Expr} {g : M RV} {C : Addr} {i : Nat}
theorem pds_fldS (hN : X.N[i]? = some x) (hv : Vis X.env.scope x) (hc : Cls X.K C) (hn : NoAttr X.K C n) (he : PD X W v g) (hs : swapsWith v (some (.Attribute (.Name x p) n pos')) pos.line X.env = pure false := by rfl)
    (hd : (x == ("__debug__" : Str)) = false := by decide) (hcd : (x == ("__classdict__" : Str)) = false := by decide) : PDS X W (.Assign [.Attribute (.Name x p) n pos'] v pos) (sFldS C i n g) :=
  ps_imp (ps_fld (pe_var hN hv hd hcd) he hs) fun Dn σ H ⟨F, e, R, h⟩ => ⟨F, e, R, esc_of R (k := fun d F1 e1 H1 => Rel X.K F1 σ H1 e1 ∧ SAft W X.K F1 σ H1 e1 Dn ((fun e => match getE e i with
      | some (.sh, _) => SR.bad
      | some (f, .ins C' ds) => if C' = C ∧ ds.length < 1000 then .nx (e.set i (some (f, .ins C' (putD n d ds)))) else .bad
      | _ => .bad) e1)) (fun d F1 e1 H1 y ⟨R1, h1⟩ ry => by
    cases w : getE e1 i with
    | none => simp only [w] at h1; exact h1.elim
    | some z =>
      obtain ⟨f, d0⟩ := z
      have own : f ≠ .sh → ∀ C' ds, d0 = .ins C' ds → (SAft W X.K F1 σ H1 e1 Dn (if C' = C ∧ ds.length < 1000 then .nx (e1.set i (some (f, .ins C' (putD n d ds)))) else .bad)) → tVar i σ H1 fun x H2 => ∃ a C dx fs, x = .ref a ∧ H2 a = some (.ins C dx fs) ∧ Cls X.K C ∧ NoAttr X.K C n ∧ fs.length < 1000 ∧ Dn.nx σ (upd H2 a (.ins C dx (putF n y fs))) 
         := fun nf C' ds ed h9 => by
        subst ed
        obtain ⟨q, s, dx, fs, ha, rf⟩ := R1.own i f _ w nf
        split at h9
        · rename_i hC
          obtain ⟨rfl, hz⟩ := hC
          have bq : Bd F1 σ e1 q := .inr ⟨i, f, _, w, nf, s⟩
          obtain ⟨po, _⟩ := R1.mut (o := .ins C' dx (putF n y fs)) (d' := .ins C' (putD n d ds)) w nf s ⟨dx, _, upd_same, (RpF.put ry rf).step (step_upd bq) fun a z => .inl z⟩
          exact ⟨.ref q, getS_to s, q, C', dx, fs, rfl, ha, hc, hn, by rw [rf.length]; exact hz, h9 F1 σ _ po⟩
        · exact h9.elim
      cases d0 with
      | ins C' ds =>
        cases f with
        | sh => simp only [w] at h1; exact h1.elim
        | ow => simp only [w] at h1; exact own (by decide) C' ds rfl h1
        | mu => simp only [w] at h1; exact own (by decide) C' ds rfl h1
      | _ => cases f <;> (simp only [w] at h1; exact h1.elim)) (h.then.imp fun d F1 e1 H1 p1 h1 => ⟨p1.rel, h1⟩)⟩
end
end Cw

/-! Cw, part Dc: dicts as data. -/
namespace Cw
open PySem L2
def keyK : D → Option Key
  | .int i => some (.inl i)
  | .str x => some (.inr x)
  | _ => none
def keyL : List D → Option (List Key)
  | [] => some []
  | d :: ds => match keyK d, keyL ds with
    | some k, some ks => some (k :: ks)
    | _, _ => none
def keyT : D → Option (List Key)
  | .tup ds => keyL ds
  | _ => none
theorem keyK_D (k : Key) : keyK (keyD k) = some k := by cases k <;> rfl
theorem keyL_D : ∀ ks : List Key, keyL (ks.map keyD) = some ks
  | [] => rfl
  | k :: ks => by
    show keyL (keyD k :: ks.map keyD) = _
    unfold keyL
    rw [keyK_D, keyL_D ks]
theorem keyK_inv {d : D} {k : Key} (h : keyK d = some k) : d = keyD k := by
  cases d <;> cases h <;> rfl
theorem keyL_inv : ∀ {ds : List D} {ks : List Key}, keyL ds = some ks → ds = ks.map keyD
  | [], ks, h => by cases h; rfl
  | d :: ds, ks, h => by
    unfold keyL at h
    cases w : keyK d with
    | none => simp only [w] at h; cases h
    | some k =>
      cases w2 : keyL ds with
      | none => simp only [w, w2] at h; cases h
      | some kr =>
        simp only [w, w2] at h; cases h
        rw [keyK_inv w, keyL_inv w2]; rfl
/-- what stands at a key -/
def dFind {κ : Type} [DecidableEq κ] (key : D → Option κ) (kvs : List (D × D)) (k : κ) : Option D := (kvs.find? fun p => decide (key p.1 = some k)).map (·.2)
def dPutK {κ : Type} [DecidableEq κ] (key : D → Option κ) (kvs : List (D × D)) (k : κ) (y v : D) : List (D × D) :=
  if (kvs.any fun p => decide (key p.1 = some k)) = true then kvs.map (fun p => if key p.1 = some k then (p.1, v) else p) else kvs ++ [(y, v)]
/-- none: no key that may be asked -/
def dGet (t : Bool) (kvs : List (D × D)) (y : D) : Option (Option D) := match t with
  | false => (match keyK y with
    | some k => some (dFind keyK kvs k)
    | none => none)
  | true => (match keyT y with
    | some k => some (dFind keyT kvs k)
    | none => none)
def dPut (t : Bool) (kvs : List (D × D)) (y v : D) : Option (List (D × D)) := if kvs.length < sizeLine then (match t with
  | false => (match keyK y with
    | some k => some (dPutK keyK kvs k y v)
    | none => none)
  | true => (match keyT y with
    | some k => some (dPutK keyT kvs k y v)
    | none => none)) else none
section
variable {K : Fg} {B : Ad} {H : Hp} {κ : Type} [DecidableEq κ] {key : D → Option κ} {inj : κ → D}
theorem RpP.find (hk : ∀ k, key (inj k) = some k) (k : κ) : ∀ {kvs : List (κ × V)} {ds : List (D × D)}, RpP K B H (kvs.map fun p => (inj p.1, p.2)) ds →
    (∀ d, dFind key ds k = some d → ∃ v, valV kvs k = some v ∧ Rp K B H v d) ∧ (dFind key ds k = none → valV kvs k = none)
  | [], _, .nil => ⟨fun d h => (by cases h), fun _ => rfl⟩
  | (k', v') :: r, _, .cons (d := d') (ds := ds') a t => by
    have ih := RpP.find hk k t
    unfold dFind at ih ⊢
    rw [List.find?_cons]
    by_cases e : k' = k
    · subst e
      simp only [hk, decide_true, Option.map_some]
      refine ⟨fun d h => ?_, fun h => by cases h⟩
      cases h
      exact ⟨v', valV_pos rfl, a⟩
    · have e' : ¬ (some k' = some k) := fun z => e (Option.some.inj z)
      simp only [hk, decide_eq_false e']
      rw [valV_neg (p := (k', v')) e]
      exact ih
theorem RpP.any (hk : ∀ k, key (inj k) = some k) (k : κ) : ∀ {kvs : List (κ × V)} {ds : List (D × D)}, RpP K B H (kvs.map fun p => (inj p.1, p.2)) ds →
    (ds.any fun p => decide (key p.1 = some k)) = (kvs.any fun kv => decide (kv.1 = k))
  | [], _, .nil => rfl
  | (k', v') :: r, _, .cons a t => by
    have ih := RpP.any hk k t
    rw [List.any_cons, List.any_cons, ih]
    simp only [hk, Option.some.injEq]
theorem RpP.mapPut (hk : ∀ k, key (inj k) = some k) {k : κ} {v : V} {d : D} (rv : Rp K B H v d) : ∀ {kvs : List (κ × V)} {ds : List (D × D)}, RpP K B H (kvs.map fun p => (inj p.1, p.2)) ds →
    RpP K B H ((kvs.map (fun kv => if kv.1 = k then (kv.1, v) else kv)).map fun p => (inj p.1, p.2)) (ds.map fun p => if key p.1 = some k then (p.1, d) else p)
  | [], _, .nil => .nil
  | (k', v') :: r, _, .cons a t => by
    have ih := RpP.mapPut (k := k) hk rv t
    simp only [List.map_cons, hk, Option.some.injEq]
    by_cases e : k' = k
    · simp only [e, if_true]; exact .cons rv ih
    · simp only [e, if_false]; exact .cons a ih
theorem RpP.app : ∀ {vs ws : List (D × V)} {ds es : List (D × D)}, RpP K B H vs ds → RpP K B H ws es → RpP K B H (vs ++ ws) (ds ++ es)
  | _, _, _, _, .nil, h => h
  | _, _, _, _, .cons a r, h => .cons a (RpP.app r h)
theorem RpP.put (hk : ∀ k, key (inj k) = some k) {k : κ} {v : V} {d y : D} (ey : y = inj k) (rv : Rp K B H v d) {kvs : List (κ × V)} {ds : List (D × D)} (h : RpP K B H (kvs.map fun p => (inj p.1, p.2)) ds) :
    RpP K B H ((putK kvs k v).map fun p => (inj p.1, p.2)) (dPutK key ds k y d) := by
  unfold putK dPutK
  rw [RpP.any hk k h]
  split
  · exact RpP.mapPut hk rv h
  · rw [List.map_append]
    subst ey
    exact RpP.app h (.cons rv .nil)
theorem RpP.length : ∀ {vs : List (D × V)} {ds : List (D × D)}, RpP K B H vs ds → vs.length = ds.length
  | _, _, .nil => rfl
  | _, _, .cons _ t => congrArg (· + 1) (RpP.length t)
end
/-- the key as a value -/
theorem RpB.key {K : Fg} {B : Ad} {H : Hp} {v : V} {d : D} {k : Key} (h : RpB K B H v d) (q : keyK d = some k) : v = kV k := by
  cases d with
  | int i => cases q; exact h.int
  | str i => cases q; exact h.str
  | _ => cases q
theorem RpL.keys {K : Fg} {B : Ad} {H : Hp} : ∀ {vs : List V} {ds : List D} {ks : List Key}, RpL K B H vs ds → keyL ds = some ks → vs = ks.map kV
  | _, _, _, .nil, q => by cases q; rfl
  | _, _, ks, .cons (d := d) (ds := ds) a r, q => by
    unfold keyL at q
    cases w : keyK d with
    | none => simp only [w] at q; cases q
    | some k =>
      cases w2 : keyL ds with
      | none => simp only [w, w2] at q; cases q
      | some kr =>
        simp only [w, w2] at q; cases q
        rw [RpB.key (.inl a) w, RpL.keys r w2]; rfl
theorem RpB.keyT {K : Fg} {B : Ad} {H : Hp} {v : V} {d : D} {ks : List Key} (h : RpB K B H v d) (q : Cw.keyT d = some ks) : ∃ b, v = .ref b ∧ H b = some (.tup (ks.map kV)) := by
  cases d with
  | tup ds =>
    rcases h with h | ⟨p, _, h⟩
    · obtain ⟨a, vs, rfl, t, r⟩ := h.tup_inv
      exact ⟨a, rfl, by rw [t.2, r.keys q]⟩
    · exact h.elim
  | _ => cases q
theorem keyT_inv {y : D} {k : List Key} (h : keyT y = some k) : y = .tup (k.map keyD) := by
  cases y with
  | tup ds => exact congrArg D.tup (keyL_inv h)
  | _ => cases h
/-- a dict asked, as the layer asks -/
theorem dGet_of {K : Fg} {B : Ad} {H : Hp} {x y : V} {t : Bool} {kvs : List (D × D)} {yd : D} {o : Option D} (hx : RpB K B H x (.dic t kvs)) (hy : RpB K B H y yd) (q : dGet t kvs yd = some o) :
    ∃ a ov, x = .ref a ∧ DGet H a y ov ∧ (∀ d, o = some d → ∃ v, ov = some v ∧ Rp K B H v d) ∧ (o = none → ov = none) := by
  have rdK : ∀ {kv : List (Key × V)} {a : Addr}, Rd H a (.dK kv) → RpP K B H (kv.map fun p => (keyD p.1, p.2)) kvs → t = false → ∃ ov, DGet H a y ov ∧ (∀ d, o = some d → ∃ v, ov = some v ∧ Rp K B H v d) ∧ (o = none → ov = none) := fun {kv a} h r et => by
    subst et
    unfold dGet at q
    cases w : keyK yd with
    | none => simp only [w] at q; cases q
    | some k =>
      simp only [w] at q; cases q
      obtain ⟨f1, f2⟩ := RpP.find (key := keyK) (inj := keyD) keyK_D k r
      exact ⟨valV kv k, .inl ⟨kv, k, h, hy.key w, rfl⟩, fun d e => f1 d e, f2⟩
  have rdT : ∀ {kv : List (List Key × V)} {a : Addr}, Rd H a (.dT kv) → RpP K B H (kv.map fun p => (D.tup (p.1.map keyD), p.2)) kvs → t = true → ∃ ov, DGet H a y ov ∧ (∀ d, o = some d → ∃ v, ov = some v ∧ Rp K B H v d) ∧ (o = none → ov = none) := fun {kv a} h r et => by
    subst et
    unfold dGet at q
    cases w : keyT yd with
    | none => simp only [w] at q; cases q
    | some k =>
      simp only [w] at q; cases q
      obtain ⟨b, eb, hb⟩ := hy.keyT w
      obtain ⟨f1, f2⟩ := RpP.find (key := keyT) (inj := fun ks => D.tup (ks.map keyD)) (fun ks => keyL_D ks) k r
      exact ⟨valV kv k, .inr ⟨kv, k, b, h, eb, hb, rfl⟩, fun d e => f1 d e, f2⟩
  rcases hx with hx | ⟨p, rfl, hx⟩
  · cases hx with
    | dK nb h r =>
      obtain ⟨ov, g⟩ := rdK h r rfl
      exact ⟨_, ov, rfl, g⟩
    | dT nb h r =>
      obtain ⟨ov, g⟩ := rdT h r rfl
      exact ⟨_, ov, rfl, g⟩
  · cases t with
    | false =>
      obtain ⟨kv, h, r⟩ := hx
      obtain ⟨ov, g⟩ := rdK (.inl h) r rfl
      exact ⟨_, ov, rfl, g⟩
    | true =>
      obtain ⟨kv, h, r⟩ := hx
      obtain ⟨ov, g⟩ := rdT (.inl h) r rfl
      exact ⟨_, ov, rfl, g⟩
/-- a[y] = v of a dict -/
def rSetD : V → V → V → Hp → (Hp → Prop) → Prop := fun o i v H Q => ∃ a H', o = .ref a ∧ DPut H a i v H' ∧ Q H'
theorem set_ld {X : Cx} (hu : X.A.units + 1 < cLine) : PSet X (fun o i v H Q => rSetL o i v H Q ∨ rSetD o i v H Q) := by
  intro pins s σ H o i v ov iv u Q I ro ri rv h
  rcases h with h | ⟨a, H', rfl, g, q⟩
  · exact set_list pins s σ H o i v ov iv u Q I ro ri rv h
  · cases ro
    exact d_setItem hu I g ri rv fun s' I' => ⟨H', I', q⟩
theorem ix_dict {X : Cx} (hu : X.A.units + 1 < cLine) : IxR X (fun x y H Q => ∃ a v, x = .ref a ∧ DGet H a y (some v) ∧ Q v H) := by
  intro value slice pins s σ H x y v u Q I rx ry ⟨a, w, ex, g, q⟩ hs
  subst ex
  cases rx
  have hT := dict_typeIs I g
  unfold PyProof.Rows.subscriptTail
  refine PySem.wpAny_bind ?_
  rw [PySem.getitemInPython_of_ne hT.not_modules]
  refine PySem.wpAny_bind (PySem.wpAny_specialOf hT PySem.F.slot_dict_getitem.lookup ?_)
  have fin : wpAny (model X.prog X.w) X.A (subscripted slice false (.ref a) u) (fun r s₃ => wpAny (model X.prog X.w) X.A (letTemporaryGo value (.ref a) r >>= fun _ => pure r) (EP X pins σ Q) X.xe s₃) X.xe s := by
    rw [hs]
    exact wpAny_operating (d_getItem hu I g ry fun w' s' I' rw' => PySem.wpAny_bind (PySem.wpAny_letTemporaryGo (PySem.wpAny_pure ⟨w, H, I', rw', q⟩)))
  first
    | exact PySem.wpAny_pure (PySem.wpAny_bind fin)
    | exact PySem.wpAny_bind (PySem.wpAny_pure (PySem.wpAny_bind fin))
    | exact PySem.wpAny_bind fin
end Cw

/-! Cw, part N: items of owned lists stored; two names at once; instances compared. -/
namespace Cw
open PySem L2

theorem RpL.setAt {K : Fg} {B : Ad} {H : Hp} {v : V} {d : D} (r : Rp K B H v d) : ∀ {vs : List V} {ds : List D} (i : Nat), RpL K B H vs ds → RpL K B H (vs.set i v) (ds.set i d)
  | _, _, _, .nil => .nil
  | _, _, 0, .cons _ t => .cons r t
  | _, _, i + 1, .cons a t => .cons a (RpL.setAt r i t)
/-- slot i's own list takes d at k -/
def putIx (i : Nat) (k d : D) : S := fun e => match getE e i, k with
  | some (.sh, _), _ => .bad
  | some (f, .lst xs), .int k => (match ixN xs.length k with
    | some j => .nx (e.set i (some (f, .lst (xs.set j d))))
    | none => .bad)
  | some (f, .dic t kvs), k => (match dPut t kvs k d with
    | some kvs => .nx (e.set i (some (f, .dic t kvs)))
    | none => .bad)
  | _, _ => .bad
section
variable {W : Wx} {K : Fg} {F : Fx} {σ : St} {H : Hp} {e : En} {Dn : Ends}
theorem putIx_of {i : Nat} {kd d : D} {kv y v : V} (R : Rel K F σ H e) (hv : getS σ i = some v) (rk : RpB K (Bd F σ e) H kv kd) (rp : Rp K (Bd F σ e) H y d) (h : SAft W K F σ H e Dn (putIx i kd d e)) :
    rSetL v kv y H (fun H3 => Dn.nx σ H3) ∨ rSetD v kv y H (fun H3 => Dn.nx σ H3) := by
  unfold putIx at h
  cases w : getE e i with
  | none => simp only [w] at h; exact h.elim
  | some z =>
    obtain ⟨f, d0⟩ := z
    have own : f ≠ .sh → ∀ xs k, d0 = .lst xs → kd = .int k → SAft W K F σ H e Dn (match ixN xs.length k with
        | some j => .nx (e.set i (some (f, .lst (xs.set j d))))
        | none => .bad) → rSetL v kv y H fun H3 => Dn.nx σ H3 := fun nf xs k ed ek h9 => by
      subst ed ek
      obtain ⟨q, s, vs, ha, rl⟩ := R.own i f _ w nf
      have e1 := hv.symm.trans s
      cases e1
      cases hj : ixN xs.length k with
      | none => rw [hj] at h9; exact h9.elim
      | some j =>
        rw [hj] at h9
        have bq : Bd F σ e q := .inr ⟨i, f, _, w, nf, s⟩
        obtain ⟨po, _⟩ := R.mut (o := .lst (vs.set j y)) (d' := .lst (xs.set j d)) w nf s ⟨_, upd_same, (RpL.setAt rp j rl).step (step_upd bq) fun a z => .inl z⟩
        exact ⟨q, vs, k, j, rfl, rk.int, ha, by rw [rl.length]; exact hj, h9 F σ _ po⟩
    have ownD : f ≠ .sh → ∀ t kvs, d0 = .dic t kvs → SAft W K F σ H e Dn (match dPut t kvs kd d with
        | some kvs => .nx (e.set i (some (f, .dic t kvs)))
        | none => .bad) → rSetD v kv y H fun H3 => Dn.nx σ H3 := fun nf t kvs ed h9 => by
      subst ed
      obtain ⟨q, s, ho⟩ := R.own i f _ w nf
      have e1 := hv.symm.trans s
      cases e1
      have bq : Bd F σ e q := .inr ⟨i, f, _, w, nf, s⟩
      cases hj : dPut t kvs kd d with
      | none => rw [hj] at h9; exact h9.elim
      | some kvs2 =>
        rw [hj] at h9
        unfold dPut at hj
        split at hj
        · rename_i hz
          cases t with
          | false =>
            obtain ⟨kv0, ha, r⟩ := ho
            cases wk : keyK kd with
            | none => simp only [wk] at hj; cases hj
            | some k =>
              simp only [wk] at hj; cases hj
              have hl := r.length
              rw [List.length_map] at hl
              obtain ⟨po, _⟩ := R.mut (o := .dK (putK kv0 k y)) (d' := .dic false (dPutK keyK kvs k kd d)) w nf s ⟨_, upd_same, (RpP.put (key := keyK) (inj := keyD) keyK_D (keyK_inv wk) rp r).step (step_upd bq) fun a z => .inl z⟩
              exact ⟨q, _, rfl, .inl ⟨kv0, k, ha, rk.key wk, by omega, rfl⟩, h9 F σ _ po⟩
          | true =>
            obtain ⟨kv0, ha, r⟩ := ho
            cases wk : keyT kd with
            | none => simp only [wk] at hj; cases hj
            | some k =>
              simp only [wk] at hj; cases hj
              have hl := r.length
              rw [List.length_map] at hl
              obtain ⟨b, eb, hb⟩ := rk.keyT wk
              obtain ⟨po, _⟩ := R.mut (o := .dT (putK kv0 k y)) (d' := .dic true (dPutK keyT kvs k kd d)) w nf s ⟨_, upd_same, (RpP.put (key := keyT) (inj := fun ks => D.tup (ks.map keyD)) (fun ks => keyL_D ks) (keyT_inv wk) rp r).step (step_upd bq) fun a z => .inl z⟩
              exact ⟨q, _, rfl, .inr ⟨kv0, k, b, ha, eb, hb, by omega, rfl⟩, h9 F σ _ po⟩
        · cases hj
    cases d0 with
    | lst xs =>
      cases kd with
      | int k =>
        cases f with
        | sh => simp only [w] at h; exact h.elim
        | ow => simp only [w] at h; exact .inl (own (by decide) xs k rfl rfl h)
        | mu => simp only [w] at h; exact .inl (own (by decide) xs k rfl rfl h)
      | _ => cases f <;> (simp only [w] at h; exact h.elim)
    | dic t kvs =>
      cases f with
      | sh => simp only [w] at h; exact h.elim
      | ow => simp only [w] at h; exact .inr (ownD (by decide) t kvs rfl h)
      | mu => simp only [w] at h; exact .inr (ownD (by decide) t kvs rfl h)
    | _ => cases f <;> cases kd <;> (simp only [w] at h; exact h.elim)
end
/-- x[k] = e -/
def sSetIx (i : Nat) (fk fv : M RV) : S := M.then (M.bind fv M.esc) fun d => M.then (eVar i) fun _ => M.then fk fun r => M.then (M.get r) fun k => putIx i k d
section
variable {X : Cx} {W : Wx} {x : Str} {p pos tpos : Pos} {v ix : Expr} {fk fv : M RV} {i : Nat} {f : M RV}
theorem pds_setIx (hN : X.N[i]? = some x) (hv : Vis X.env.scope x) (hk : PD X W ix fk) (he : PD X W v fv) (hs : swapsWithSole [.Subscript (.Name x p) ix tpos] v pos.line X.env = pure false := by rfl) (hw : swappedStores [.Subscript (.Name x p) ix tpos] v X.env = pure none := by rfl)
    (hg : PG X (.Subscript (.Name x p) ix tpos) (gSub (tVar i) (tE W X.K fk) fun o i v H Q => rSetL o i v H Q ∨ rSetD o i v H Q)) : PDS X W (.Assign [.Subscript (.Name x p) ix tpos] v pos) (sSetIx i fk fv) :=
  ps_imp (ps_asg he hg hs hw) fun Dn σ H ⟨F, e, R, h⟩ => ⟨F, e, R, esc_of R (k := fun d F1 e1 H1 => Rel X.K F1 σ H1 e1 ∧ SAft W X.K F1 σ H1 e1 Dn ((M.then (eVar i) fun _ => M.then fk fun r => M.then (M.get r) fun k => putIx i k d) e1)) (fun d F1 e1 H1 y ⟨R1, h1⟩ ry => by
    have hb := h1.then
    unfold eVar at hb
    cases w : getE e1 i with
    | none => simp only [w] at hb; exact hb.elim
    | some z =>
      simp only [w] at hb
      have h2 := hb F1 H1 (.refl R1)
      have hv : ∃ v, getS σ i = some v := by
        obtain ⟨fl, d0⟩ := z
        by_cases hf : fl = .sh
        · subst hf
          obtain ⟨v, a, _⟩ := R1.val i d0 w
          exact ⟨v, a⟩
        · obtain ⟨q, a, _⟩ := R1.own i fl d0 w hf
          exact ⟨_, a⟩
      obtain ⟨v, hv⟩ := hv
      refine ⟨v, getS_to hv, F1, e1, R1, h2.then.imp fun r F2 e2 H2 p2 h3 kv hkv => ?_⟩
      unfold M.then M.get at h3
      cases w2 : look e2 r with
      | none => simp only [w2] at h3; exact h3.elim
      | some kd =>
        simp only [w2] at h3
        exact putIx_of p2.rel hv (hkv.look p2.rel w2) (Rp.post ry p2) h3) (h.then.imp fun d F1 e1 H1 p1 h1 => ⟨p1.rel, h1⟩)⟩
/-! x[k] += e, of ints -/
def sAugIx (i : Nat) (fk fv : M RV) : S := M.then (eVar i) fun _ => M.then fk fun r => M.then (M.get r) fun kd => fun e => match getE e i, kd with
  | some (_, .lst xs), .int k => if 0 ≤ k ∧ k < 2 ^ 63 then (match xs[k.toNat]? with
    | some (.int a) => M.then fv (fun s => M.then (M.get s) fun y => match y with
      | .int b => putIx i (.int k) (.int (a + b))
      | _ => fun _ => .bad) e
    | _ => .bad) else .bad
  | _, _ => .bad
def rGetN (K : Fg) : V → V → Hp → VK → Prop := fun o i H Q => ∃ p xs k v, o = .ref p ∧ i = .int k ∧ SqL K H p xs ∧ 0 ≤ k ∧ k < 2 ^ 63 ∧ xs[k.toNat]? = some v ∧ Q v H
theorem get_listN : PGet X (rGetN X.K) := by
  rintro pins s σ H o i ov iv Q I ro ri ⟨p, xs, k, v, rfl, rfl, hs, h0, h1, ha, q⟩
  cases ro
  obtain ⟨t, rfl⟩ := ri
  obtain ⟨its, rv, pl, hz⟩ := I.list hs
  obtain ⟨u, hu, ru⟩ := rv.get ha
  exact wpAny_getItem_list pl.isList h0 h1 (by simpa using hu) ⟨v, H, I, ru, q⟩
theorem pds_augIx (hu : X.A.units + 1 < cLine) (hN : X.N[i]? = some x) (hv : Vis X.env.scope x) (hk : PD X W ix fk) (he : PD X W v fv) (hd : (x == ("__debug__" : Str)) = false := by decide) (hcd : (x == ("__classdict__" : Str)) = false := by decide)
    (ha : ∀ ov iv new, augStore ix ov iv new = (do holding [new, ov, iv] (setItem ov iv new); release [new, ov, iv] []; pure .next) := by intros; rfl) : PDS X W (.AugAssign (.Subscript (.Name x p) ix tpos) .Add v pos) (sAugIx i fk fv) :=
  ps_imp (ps_augS (pe_var hN hv hd hcd) hk get_listN he ip_add (set_ld hu) ha) fun Dn σ H ⟨F, e, R, h⟩ => by
    have hb := h.then
    unfold eVar at hb
    cases w : getE e i with
    | none => simp only [w] at hb; exact hb.elim
    | some z =>
      simp only [w] at hb
      have h2 := hb F H (.refl R)
      have hv : ∃ v, getS σ i = some v := by
        obtain ⟨fl, d0⟩ := z
        by_cases hf : fl = .sh
        · subst hf
          obtain ⟨v, a, _⟩ := R.val i d0 w
          exact ⟨v, a⟩
        · obtain ⟨q, a, _⟩ := R.own i fl d0 w hf
          exact ⟨_, a⟩
      obtain ⟨v, hv⟩ := hv
      refine ⟨v, getS_to hv, F, e, R, h2.then.imp fun r F2 e2 H2 p2 h3 kv hkv => ?_⟩
      unfold M.then M.get at h3
      cases w2 : look e2 r with
      | none => simp only [w2] at h3; exact h3.elim
      | some kd =>
        simp only [w2] at h3
        have rk := hkv.look p2.rel w2
        split at h3
        · rename_i fl xs k gi
          split at h3
          · rename_i hz
            cases wx : xs[k.toNat]? with
            | none => simp only [wx] at h3; exact h3.elim
            | some x0 =>
              cases x0 with
              | int a =>
                simp only [wx] at h3
                have rl : RpB X.K (Bd F2 σ e2) H2 v (.lst xs) := Held.look (H0 := H) (r := .sl i) p2.rel (show Held X.K F2 σ H H2 e2 v (.sl i) from hv) (by simp only [look, gi])
                obtain ⟨q, vs, rfl, hq, rvs⟩ := rl.lst
                obtain ⟨xv, hx, rx⟩ := rvs.get wx
                cases rx
                refine ⟨q, vs, k, _, rfl, rk.int, SqL.of hq, hz.1, hz.2, hx, F2, e2, p2.rel, h3.then.imp fun s F3 e3 H3 p3 h4 yv hy => ?_⟩
                cases w3 : look e3 s with
                | none => simp only [w3] at h4; exact h4.elim
                | some yd =>
                  simp only [w3] at h4
                  have ry := hy.look p3.rel w3
                  cases yd with
                  | int b =>
                    rw [ry.int]
                    refine ⟨a, b, rfl, rfl, putIx_of p3.rel hv (.inl ?_) (.int _) h4⟩
                    rw [rk.int]; exact .int k
                  | _ => exact h4.elim
              | _ => simp only [wx] at h3; exact h3.elim
          · exact h3.elim
        · exact h3.elim
/-! x += e, of ints -/
def sAug (i : Nat) (f : M RV) : S := fun e => match getE e i with
  | some (.sh, .int a) => M.then f (fun s => M.then (M.get s) fun y => match y with
    | .int b => M.then (put i (.sh (.int (a + b)))) fun _ => .nx
    | _ => fun _ => .bad) e
  | _ => .bad
theorem pds_aug (hN : X.N.Nodup) (hi : X.N[i]? = some x) (hx : Loc X.env.scope x) (he : PD X W v f) (hf : X.fn x = true ∨ X.env.scope.names.lookup x = some .local := by first | exact .inl rfl | exact .inr rfl | assumption) :
    PDS X W (.AugAssign (.Name x p) .Add v pos) (sAug i f) :=
  ps_imp (ps_aug hN hi hx he ip_add hf) fun Dn σ H ⟨F, e, R, h⟩ => by
    unfold sAug at h
    split at h
    · rename_i a w
      obtain ⟨v0, s0, r0⟩ := R.val i _ w
      cases r0
      refine ⟨_, getS_to s0, F, e, R, h.then.imp fun s F1 e1 H1 p1 h1 yv hy => ?_⟩
      unfold M.then M.get at h1
      cases w3 : look e1 s with
      | none => simp only [w3] at h1; exact h1.elim
      | some yd =>
        simp only [w3] at h1
        have ry := hy.look p1.rel w3
        cases yd with
        | int b =>
          rw [ry.int]
          refine ⟨a, b, rfl, rfl, ?_⟩
          simp only at h1
          cases w4 : put i (.sh (.int (a + b))) e1 with
          | bad => simp only [w4] at h1; exact h1.elim
          | exc x e2 => exact absurd w4 put_noexc
          | ok u e2 =>
            simp only [w4] at h1
            have po := put_of (v := .int (a + b)) p1.rel (.refl p1.rel) (show Held X.K F1 σ H1 H1 e1 (.int (a + b)) (.sh (.int (a + b))) from .int _) w4
            exact h1 F1 _ H1 po
        | _ => exact h1.elim
    · exact h.elim
end

/-! ### two, three names at once -/
/-- what a slot holds is shared, the rest stays -/
def M.nrm : RV → M RV
  | .sl i => M.bind (M.esc (.sl i)) fun d => M.ret (.sh d)
  | r => M.ret r
def noSl : RV → Prop
  | .sl _ => False
  | _ => True
section
variable {W : Wx} {K : Fg} {F F' : Fx} {σ : St} {H H0 : Hp} {e e1 : En} {Dn : Ends}
theorem nrm_of {f : M RV} {Q : V → Hp → Prop} {k : RV → Fx → En → Hp → Prop} (R : Rel K F σ H e) (hk : ∀ r F' e' H' v, noSl r → Post K F σ H e F' σ H' e' → k r F' e' H' → Held K F' σ H H' e' v r → Q v H') (h : Aft W K F σ H e k (M.bind f M.nrm e)) :
    Aft W K F σ H e (fun r F' e' H' => ∀ v, Held K F' σ H H' e' v r → Q v H') (f e) := by
  unfold M.bind at h
  cases q : f e with
  | bad => rw [q] at h; exact h
  | exc x e1 => rw [q] at h; exact h
  | ok r e1 =>
    rw [q] at h
    have h : Aft W K F σ H e k (M.nrm r e1) := h
    intro F1 H1 p v hv
    cases r with
    | sh d => exact hk (.sh d) F1 e1 H1 v trivial p (h F1 H1 p) hv
    | fr d => exact hk (.fr d) F1 e1 H1 v trivial p (h F1 H1 p) hv
    | sl i =>
      unfold M.nrm M.bind at h
      simp only at h
      cases w : M.esc (.sl i) e1 with
      | bad => simp only [w] at h; exact h.elim
      | exc x e2 =>
        exfalso
        unfold M.esc at w
        simp only at w
        cases z : getE e1 i with
        | none => simp only [z] at w; cases w
        | some y => obtain ⟨fl, d⟩ := y; cases fl <;> simp only [z] at w <;> cases w
      | ok d e2 =>
        simp only [w] at h
        obtain ⟨p2, rp⟩ := p.esc R hv w
        exact hk (.sh d) F e2 H1 v trivial p2 (h F H1 p2) rp
/-- a slot takes what is held -/
theorem putX {i : Nat} {r : RV} {v : V} (R : Rel K F' σ H e) (h : Held K F' σ H0 H e v r) (nr : noSl r) (q : put i r e = .ok () e1) :
    ∃ F'', F''.pn = F'.pn ∧ (∀ a, F''.bx a → F'.bx a) ∧ (∀ a, F'.bx a → F''.bx a ∨ ((∃ d, r = .fr d) ∧ v = .ref a)) ∧ Rel K F'' (σ.set i (some v)) H e1 ∧ (∀ a, Bd F'' (σ.set i (some v)) e1 a → Bd F' σ e a) ∧ ∀ a, Own (σ.set i (some v)) e1 a → Own σ e a ∨ ((∃ d, r = .fr d) ∧ v = .ref a) := by
  unfold put at q
  cases r with
  | sl j => exact nr.elim
  | sh d =>
    simp only at q
    split at q
    · cases q
    · rename_i nm
      cases q
      obtain ⟨r1, r2⟩ := R.setSh h (isMu_ne nm)
      exact ⟨F', rfl, fun _ z => z, fun _ z => .inl z, r1, fun a z => z.elim .inl fun z => .inr (r2 a z), fun a z => .inl (r2 a z)⟩
  | fr d =>
    simp only at q
    split at q
    · cases q
    · rename_i nm
      cases q
      obtain ⟨p, rfl, n, f, o⟩ := h
      obtain ⟨r1, r2⟩ := R.setOw (F := ⟨fun a => F'.bx a ∧ a ≠ p, F'.pn⟩) (i := i) f (fun a z => z.1) rfl (fun z => z.2 rfl) o (isMu_ne nm)
      refine ⟨⟨fun a => F'.bx a ∧ a ≠ p, F'.pn⟩, rfl, fun a z => z.1, fun a z => ?_, r1, fun a z => ?_, fun a z => (r2 a z).imp id fun z => ⟨⟨d, rfl⟩, by rw [z]⟩⟩
      · by_cases ha : a = p
        · exact .inr ⟨⟨d, rfl⟩, by rw [ha]⟩
        · exact .inl ⟨z, ha⟩
      · rcases z with z | z
        · exact .inl z.1
        · rcases r2 a z with z | z
          · exact .inr z
          · exact .inl (z ▸ f)
theorem Held.move {F'' : Fx} {σ1 : St} {r s : RV} {v w : V} (h : Held K F' σ H0 H e w s) (ns : noSl s) (hb : ∀ a, Bd F'' σ1 e1 a → Bd F' σ e a) (hx : ∀ a, F'.bx a → F''.bx a ∨ ((∃ d, r = .fr d) ∧ v = .ref a)) (ne : ∀ d d' a, r = .fr d → s = .fr d' → v = .ref a → w ≠ .ref a) : Held K F'' σ1 H0 H e1 w s := by
  cases s with
  | sl j => exact ns.elim
  | sh d => exact Rp.anti h hb
  | fr d =>
    obtain ⟨p, rfl, n, f, o⟩ := h
    refine ⟨p, rfl, n, ?_, o.anti hb⟩
    rcases hx p f with z | ⟨⟨d', hr⟩, hv⟩
    · exact z
    · exact absurd rfl (ne d' d p hr rfl hv)
end
def sPar2 (i j : Nat) (f g : M RV) : S := M.then (M.bind f M.nrm) fun r => M.then (M.bind g M.nrm) fun s => M.then (put i r) fun _ => M.then (put j s) fun _ => .nx
section
variable {X : Cx} {W : Wx} {x y z : Str} {a b c : Expr} {f g h : M RV} {i j l : Nat} {px py pz pt pos : Pos} {kt k2 : Nat} {pt2 : Pos}
theorem held_fr {K : Fg} {F : Fx} {σ : St} {H0 H : Hp} {e : En} {v : V} {r : RV} {d : D} {q : Addr} (h : Held K F σ H0 H e v r) (er : r = .fr d) (ev : v = .ref q) : H0 q = none ∧ H q ≠ none := by
  subst er
  obtain ⟨p, e1, n, _, o⟩ := h
  rw [ev] at e1; cases e1
  exact ⟨n, o.some⟩
theorem then_eq {K : Fg} {F F1 : Fx} {σ : St} {H H1 : Hp} {e e1 : En} {Dn : Ends} {α : Type} {f : M α} {g : α → S} (p : Post K F σ H e F1 σ H1 e1) (h : SAft W K F σ H e Dn (M.then f g e1)) : Aft W K F1 σ H1 e1 (fun a F2 e2 H2 => SAft W K F σ H e Dn (g a e2)) (f e1) := by
  unfold M.then at h
  cases q : f e1 with
  | bad => rw [q] at h; exact h
  | exc x e2 => rw [q] at h; exact fun cls d F' H' p' hx => h cls d F' σ H' (p.trans p') hx
  | ok a e2 => rw [q] at h; exact fun F2 H2 p2 => h
/-- the slots take the values, one after another -/
structure PutR (K : Fg) (F : Fx) (σ : St) (H : Hp) (e : En) (F1 : Fx) (σ1 : St) (H1 : Hp) (e1 : En) : Prop where
  rel : Rel K F1 σ1 H1 e1
  stp : Stp (Own σ e) H H1
  keep : ∀ a, F.bx a → F1.bx a
  pn : F1.pn = F.pn
  ow : ∀ a, Own σ1 e1 a → Own σ e a ∨ H a = none
theorem PutR.post {K : Fg} {F F1 : Fx} {σ σ1 : St} {H H1 : Hp} {e e1 : En} (h : PutR K F σ H e F1 σ1 H1 e1) : Post K F σ H e F σ1 H1 e1 := ⟨h.rel.anti h.keep h.pn.symm, h.stp, h.ow, .refl⟩
theorem PutR.of {K : Fg} {F F1 : Fx} {σ : St} {H H1 : Hp} {e e1 : En} (p : Post K F σ H e F1 σ H1 e1) : PutR K F σ H e F1 σ H1 e1 := ⟨p.rel, p.stp, p.le.up, p.le.pn, p.ow⟩
theorem PutR.put {K : Fg} {F F1 : Fx} {σ σ1 : St} {H H0 H1 : Hp} {e e1 e2 : En} {i : Nat} {r : RV} {v : V} (R : Rel K F σ H e) (p : PutR K F σ H e F1 σ1 H1 e1) (bk : ∀ a, H0 a = none → H a = none) (hv : Held K F1 σ1 H0 H1 e1 v r) (nr : noSl r) (w : put i r e1 = .ok () e2) :
    ∃ F2, PutR K F σ H e F2 (σ1.set i (some v)) H1 e2 ∧ ∀ {H9 s u}, Held K F1 σ1 H9 H1 e1 u s → noSl s → (∀ d d' a, r = .fr d → s = .fr d' → v = .ref a → u ≠ .ref a) → Held K F2 (σ1.set i (some v)) H9 H1 e2 u s := by
  obtain ⟨F2, pn, dn, up, R2, bd, ow⟩ := putX p.rel hv nr w
  refine ⟨F2, ⟨R2, p.stp, fun a z => ?_, pn.trans p.pn, fun a z => ?_⟩, fun h ns ne => h.move ns bd up ne⟩
  · rcases up a (p.keep a z) with z' | ⟨⟨d, er⟩, ev⟩
    · exact z'
    · exact absurd (bk a (held_fr hv er ev).1) (R.ext a z).2
  · rcases ow a z with z | ⟨⟨d, er⟩, ev⟩
    · exact p.ow a z
    · exact .inr (bk a (held_fr hv er ev).1)
theorem put_then {K : Fg} {F : Fx} {σ : St} {H : Hp} {e e1 : En} {Dn : Ends} {r : RV} {k : S} (h : SAft W K F σ H e Dn (M.then (put i r) (fun _ => k) e1)) : ∃ e2, put i r e1 = .ok () e2 ∧ SAft W K F σ H e Dn (k e2) := by
  unfold M.then at h
  cases w : put i r e1 with
  | bad => rw [w] at h; exact h.elim
  | exc x e3 => exact absurd w put_noexc
  | ok u e2 => rw [w] at h; exact ⟨e2, rfl, h⟩
theorem pds_par2 (hc : X.calm = true) (hN : X.N.Nodup) (hi : X.N[i]? = some x) (hj : X.N[j]? = some y) (hij : i ≠ j) (hx : X.env.scope.names.lookup x = some .local) (hy : X.env.scope.names.lookup y = some .local) (ha : PD X W a f) (hb : PD X W b g)
    (hw : swappedStores [.Tuple [.Name x px, .Name y py] kt pt] (.Tuple [a, b] k2 pt2) X.env = pure (some [x, y]))
    (hs : swapsWithSole [.Tuple [.Name x px, .Name y py] kt pt] (.Tuple [a, b] k2 pt2) pos.line X.env = pure false := by rfl)
    (s1 : starEach [a, b] X.env = (false, eval a X.env) :: starEach [b] X.env := by rfl) (s2 : starEach [b] X.env = (false, eval b X.env) :: starEach [] X.env := by rfl) :
    PDS X W (.Assign [.Tuple [.Name x px, .Name y py] kt pt] (.Tuple [a, b] k2 pt2) pos) (sPar2 i j f g) :=
  ps_imp (ps_par hc hN hi hj hij hx hy (pa_cons ha (pa_cons hb pa_nil s2) s1) hw hs) fun Dn σ H ⟨F, e, R, h⟩ => ⟨F, e, R, nrm_of R (k := fun r F1 e1 H1 => SAft W X.K F σ H e Dn ((M.then (M.bind g M.nrm) fun s => M.then (put i r) fun _ => M.then (put j s) fun _ => .nx) e1))
    (fun r F1 e1 H1 v nr p1 h1 hv => ⟨F1, e1, p1.rel, nrm_of p1.rel (k := fun s F2 e2 H2 => SAft W X.K F σ H e Dn ((M.then (put i r) fun _ => M.then (put j s) fun _ => .nx) e2)) (fun s F2 e2 H2 w ns p2 h2 hw => by
      refine ⟨v, w, rfl, ?_⟩
      obtain ⟨e3, w1, h3⟩ := put_then h2
      obtain ⟨e4, w2, h4⟩ := put_then h3
      obtain ⟨F3, P3, mv⟩ := PutR.put R (.of (p1.trans p2)) (fun _ z => z) (hv.post p1.rel p2) nr w1
      obtain ⟨F4, P4, _⟩ := PutR.put R P3 p1.stp.back (mv hw ns (fun d d' q er es ev ew => (held_fr hv er ev).2 (held_fr hw es ew).1)) ns w2
      exact h4 F _ H2 P4.post) (then_eq p1 h1)⟩)
    (then_eq (.refl R) h)⟩
def sPar3 (i j l : Nat) (f g h : M RV) : S := M.then (M.bind f M.nrm) fun r => M.then (M.bind g M.nrm) fun s => M.then (M.bind h M.nrm) fun u => M.then (put i r) fun _ => M.then (put j s) fun _ => M.then (put l u) fun _ => .nx
theorem pds_par3 (hc : X.calm = true) (hN : X.N.Nodup) (hi : X.N[i]? = some x) (hj : X.N[j]? = some y) (hl : X.N[l]? = some z) (hij : i ≠ j) (hil : i ≠ l) (hjl : j ≠ l) (hx : X.env.scope.names.lookup x = some .local) (hy : X.env.scope.names.lookup y = some .local) (hz : X.env.scope.names.lookup z = some .local) (ha : PD X W a f) (hb : PD X W b g) (hcc : PD X W c h)
    (hw : swappedStores [.Tuple [.Name x px, .Name y py, .Name z pz] kt pt] (.Tuple [a, b, c] k2 pt2) X.env = pure (some [x, y, z]))
    (hs : swapsWithSole [.Tuple [.Name x px, .Name y py, .Name z pz] kt pt] (.Tuple [a, b, c] k2 pt2) pos.line X.env = pure false := by rfl)
    (s1 : starEach [a, b, c] X.env = (false, eval a X.env) :: starEach [b, c] X.env := by rfl) (s2 : starEach [b, c] X.env = (false, eval b X.env) :: starEach [c] X.env := by rfl) (s3 : starEach [c] X.env = (false, eval c X.env) :: starEach [] X.env := by rfl) :
    PDS X W (.Assign [.Tuple [.Name x px, .Name y py, .Name z pz] kt pt] (.Tuple [a, b, c] k2 pt2) pos) (sPar3 i j l f g h) :=
  ps_imp (ps_par3 hc hN hi hj hl hij hil hjl hx hy hz (pa_cons ha (pa_cons hb (pa_cons hcc pa_nil s3) s2) s1) hw hs) fun Dn σ H ⟨F, e, R, h'⟩ => ⟨F, e, R, nrm_of R (k := fun r F1 e1 H1 => SAft W X.K F σ H e Dn ((M.then (M.bind g M.nrm) fun s => M.then (M.bind h M.nrm) fun u => M.then (put i r) fun _ => M.then (put j s) fun _ => M.then (put l u) fun _ => .nx) e1))
    (fun r F1 e1 H1 v nr p1 h1 hv => ⟨F1, e1, p1.rel, nrm_of p1.rel (k := fun s F2 e2 H2 => SAft W X.K F σ H e Dn ((M.then (M.bind h M.nrm) fun u => M.then (put i r) fun _ => M.then (put j s) fun _ => M.then (put l u) fun _ => .nx) e2)) (fun s F2 e2 H2 w ns p2 h2 hw => ⟨F2, e2, p2.rel, nrm_of p2.rel (k := fun t F3 e3 H3 => SAft W X.K F σ H e Dn ((M.then (put i r) fun _ => M.then (put j s) fun _ => M.then (put l t) fun _ => .nx) e3)) (fun t F3 e3 H3 u nt p3 h3 hu => by
      refine ⟨v, w, u, rfl, ?_⟩
      obtain ⟨e4, w1, h4⟩ := put_then h3
      obtain ⟨e5, w2, h5⟩ := put_then h4
      obtain ⟨e6, w3, h6⟩ := put_then h5
      obtain ⟨F4, P4, mv4⟩ := PutR.put R (.of ((p1.trans p2).trans p3)) (fun _ z => z) ((hv.post p1.rel p2).post p2.rel p3) nr w1
      obtain ⟨F5, P5, mv5⟩ := PutR.put R P4 p1.stp.back (mv4 (hw.post p2.rel p3) ns (fun d d' q er es ev ew => (held_fr hv er ev).2 (held_fr hw es ew).1)) ns w2
      obtain ⟨F6, P6, _⟩ := PutR.put R P5 (fun a z => p1.stp.back a (p2.stp.back a z)) (mv5 (mv4 hu nt (fun d d' q er es ev ew => (held_fr hv er ev).2 (p2.stp.back q (held_fr hu es ew).1))) nt (fun d d' q er es ev ew => (held_fr hw er ev).2 (held_fr hu es ew).1)) nt w3
      exact h6 F _ H3 P6.post) (then_eq (p1.trans p2) h2)⟩) (then_eq p1 h1)⟩)
    (then_eq (.refl R) h')⟩
end
end Cw

/-! Cw, part O: enumerate of a tuple. -/
namespace Cw
open PySem L2

/-- the tuple at a, each item in a new pair -/
def ItE (K : Fg) (a : Addr) : It where
  go := fun i H => ∃ (xs : List V) (x : V), SqT K H a xs ∧ xs[i]? = some x
  yld := fun i H v H' => ∃ T x, v = .ref T ∧ H T = none ∧ H' = upd H T (.tup [.int (i : Nat), x]) ∧ ∀ xs, SqT K H a xs → xs[i]? = some x
  stop := fun i H => ∃ xs : List V, SqT K H a xs ∧ xs.length = i
/-- how far the two iterators are -/
def EnAt (a e it : Addr) (i : Nat) (h : Heap) : Prop := (∃ old, IsEnum h e it ((i : Nat) : Int) old) ∧ h.IsTupleIter it a i ∧ e ≠ it ∧ a ≠ it ∧ e ≠ a
theorem turnE {P : Program} {w : World} {K : Fg} {elts : List Expr} {kk : Nat} {tpos : Pos} (a e it : Addr) : Turn P w K (.Tuple elts kk tpos) (ItE K a) [e, it] e (EnAt a e it) := by
  constructor
  case mem => simp
  case obj =>
    rintro i h ⟨⟨old, he⟩, ⟨o, ho, hc, hd⟩, _⟩ b hb
    rcases List.mem_cons.mp hb with z | z
    · subst z
      exact ⟨_, he, fun v q => nomatch q⟩
    · have z : b = it := by simpa using z
      exact ⟨o, by rw [z]; exact ho, fun v q => by rw [hd] at q; cases q⟩
  case keep =>
    rintro i h h' ⟨⟨old, he⟩, hi, r⟩ k
    exact ⟨⟨old, k e (by simp) _ he⟩, hi.at (fun o q => k it (by simp) o q), r⟩
  case self =>
    rintro A i s Q E ⟨⟨old, he⟩, _⟩ h
    exact wpAny_pyIter_enum he h
  case item =>
    intro X hP hw hK hc i pins s σ H E I hf st hg
    subst hP hw hK
    obtain ⟨⟨old, he⟩, hit, n1, n2, n3⟩ := st
    obtain ⟨xs, x, hq, hx⟩ := hg
    obtain ⟨its, rv, tp, hz⟩ := I.tuple hq
    obtain ⟨u, hu, ru⟩ := rv.get hx
    have el : e < s.heap.objs.size := Heap.lt_size he
    have il : it < s.heap.objs.size := let ⟨_, q, _⟩ := hit; Heap.lt_size q
    have hlt : i < its.toArray.size := by
      rw [List.size_toArray]
      exact (List.getElem?_eq_some_iff.mp hu).1
    have Dr := Draws.tuple (prog := X.prog) (w := X.w) (A := X.A.in1) (I.ok.hd hc) it a n2 its.toArray
    refine wpAny_pyNext_enum_itemD Dr he ⟨hit, tp⟩ hlt n1 (by simp only [List.mem_cons, List.not_mem_nil, or_false, not_or]; exact ⟨n1, n3⟩) ?_
    intro y h' tk hy ho st' hT hsz hk
    have ey : y = u := by
      have hu' : its.toArray[i]? = some u := by simpa using hu
      rw [hu'] at hy
      exact (Option.some.inj hy).symm
    subst ey
    refine ⟨_, rfl, ?_⟩
    refine wpAny_letOwnedTupleGo_enum (s := { s with heap := h', toks := tk + 1 }) ho ?_
    intro h'' he' sb
    have hT2 : h''.get? s.heap.objs.size = some { cls := .type "tuple", data := .seq #[.int i tk, y] } := (sb.2 _ (Nat.ne_of_gt el)).trans hT
    have new : ObjOk X.prog X.w (upd H s.heap.objs.size (.tup [.int (i : Nat), x])) h'' s.heap.objs.size (.tup [.int (i : Nat), x]) := by
      refine ⟨by show 2 ≤ sizeLine; decide, [.int i tk, y], ?_, ⟨_, hT2, rfl, _, rfl⟩⟩
      exact .cons ⟨_, rfl⟩ (.cons ru .nil)
    have J := I.turnedNew (ch := [e, it]) (h' := h'') (t' := tk + 1) (ob := .tup [.int (i : Nat), x]) (fun b o hb q => by
      have h1 : b ≠ e := fun z => hb (by simp [z])
      have h2 : b ≠ it := fun z => hb (by simp [z])
      exact (sb.2 b h1).trans (hk b o h1 h2 q)) hf (Nat.le_refl _) new
    refine ⟨.ref s.heap.objs.size, _, J, rfl, ⟨_, x, rfl, I.hok.fresh (Nat.le_refl _), rfl, fun ys hy => by rw [I.tuple_inj hy hq]; exact hx⟩, ⟨⟨y, ?_⟩, ?_, n1, n2, n3⟩, fun b hb => ?_⟩
    · rw [show ((i + 1 : Nat) : Int) = (i : Int) + 1 by omega]
      exact he'
    · exact st'.1.at (fun o q => (sb.2 it (Ne.symm n1)).trans q)
    · have hb' : b < s.heap.objs.size := by
        rcases List.mem_cons.mp hb with z | z
        · rw [z]; exact el
        · have z : b = it := by simpa using z
          rw [z]; exact il
      rw [upd_ne (Nat.ne_of_lt hb')]
      exact (hf b hb).1
  case done =>
    intro X hP hw hK hc i pins s σ H E I hf st hg
    subst hP hw hK
    obtain ⟨⟨old, he⟩, hit, n1, n2, n3⟩ := st
    obtain ⟨xs, hq, hx⟩ := hg
    obtain ⟨its, rv, tp, hz⟩ := I.tuple hq
    obtain ⟨f0, f1, f2, f3, f4, f5⟩ := hf it (by simp)
    have Dr := Draws.tuple (prog := X.prog) (w := X.w) (A := X.A.in1) (I.ok.hd hc) it a n2 its.toArray
    have en : its.toArray.size = i := by rw [List.size_toArray, ← rv.length]; exact hx
    refine wpAny_pyNext_enum_endD Dr he ⟨by rw [en]; exact hit, tp⟩ ?_
    intro h' eb
    exact ⟨rfl, I.turned (t' := s.toks) (fun b o hb q => eb b o hb q) f0 f1 f3 f4 f5⟩
theorem enum_new1 {v : Value} {o : Obj} {Hx : Heap → Prop} (B : Begins v o Hx) : Meets (Builtin.«enumerate.__new__» ⟨[.type "enumerate", v], []⟩) (fun _ R s => Hx s.heap ∧
    R (.ok (.ret (.ref (s.heap.push o).objs.size))) { s with heap := (s.heap.push o).push { cls := .type "enumerate", data := .fields #[.none, .bool false, .ref s.heap.objs.size, rawInt 0, .none, .none] } }) := by
  apply Meets.of_wp
  rintro prog w A R ⟨hp, g, d, tk, os⟩ ⟨h1, h⟩
  have hsub := sub_enumerate
  have begin1 : ∀ {A' : Around} {E : Value → Shared → Prop} {Q : Value → Shared → Prop}, Q (.ref hp.objs.size) ⟨hp.push o, g, d, tk, os⟩ → wpAny (model prog w) A' (pyIter v) Q E ⟨hp, g, d, tk, os⟩ :=
    fun q => B.iter prog w _ _ ⟨hp, g, d, tk, os⟩ _ h1 q
  wp_walk using begin1
  refine wpAny_stack_any fun st => wpAny_pure ?_
  split
  · rename_i c _ _ _ _ _
    cases (c == Value.type "enumerate") <;> (wp_walk using begin1; exact ⟨_, rfl, h⟩)
  · wp_walk using begin1
    exact ⟨_, rfl, h⟩
/-- an iterator of enumerate(t) -/
theorem call_enum_tup {prog : Program} {w : World} {A : Around} {E : Value → Shared → Prop} {s : Shared} {t : Addr} {items : Array Value} {Q : Value → Shared → Prop} (ht : s.heap.IsTuple t items)
    (h : ∀ h', IsEnum h' (s.heap.objs.size + 1) s.heap.objs.size 0 .none → h'.IsTupleIter s.heap.objs.size t 0 → (∀ b o, s.heap.get? b = some o → h'.get? b = some o) → Q (.ref (s.heap.objs.size + 1)) { s with heap := h' }) :
    wpAny (model prog w) A (call (.type "enumerate") [.ref t]) Q E s := by
  refine callType_new F.called_enumerate (by decide) (F.typeCall_enumerate_1 _) (F.newCall_enumerate_1 _) (fun obj => F.args_object_init_2 obj _) F.entry_enumerate_new (enum_new1 (begins_tuple t items)) ⟨ht, ?_⟩
  have sz : (s.heap.push { cls := .type "tuple_iterator", data := .fields #[.ref t, .int 0 0] }).objs.size = s.heap.objs.size + 1 := Heap.size_push ..
  have he := Heap.get?_push_size (s.heap.push { cls := .type "tuple_iterator", data := .fields #[.ref t, .int 0 0] }) (o := { cls := .type "enumerate", data := .fields #[.none, .bool false, .ref s.heap.objs.size, rawInt 0, .none, .none] }) rfl
  rw [sz] at he
  show _ ∧ _
  rw [sz]
  refine ⟨⟨_, he, rfl⟩, h _ he ⟨_, Heap.get?_push_of_some _ (Heap.get?_push_size _ rfl), rfl, rfl⟩ ?_⟩
  exact fun b o x => Heap.get?_push_of_some _ (Heap.get?_push_of_some _ x)
def iEnT (K : Fg) (ta : TA) : TI := fun σ H R => ta σ H fun vs H1 => ∃ a xs, vs = [.ref a] ∧ SqT K H1 a xs ∧ R (ItE K a) H1
theorem pi_enT {X : Cx} {e : Expr} {ta : TA} {p pos tpos : Pos} {elts : List Expr} {kk : Nat} (hg : Gl X "enumerate") (hm : X.mg "enumerate" = none) (ha : PA X [e] ta) (hs : starEach [e] X.env = [(false, eval e X.env)] := by rfl) :
    PI X (.Tuple elts kk tpos) (.Call (.Name "enumerate" p) [e] [] pos) (iEnT X.K ta) := by
  constructor
  intro pins s σ H R I h
  refine PyProof.Rows.Call_ (ld_blt I hg hm PyProof.Rows.boot_enumerate (PyProof.Rows.callWith_type1 (thn (ha.run pos pins s σ H _ I h) ?_) hs rfl))
  rintro us s1 ⟨vs, H1, I1, r1, a, xs, rfl, hq, q⟩
  rw [Vals.ref1 r1]
  obtain ⟨its, rv, tp, hz⟩ := I1.tuple hq
  have al : a < s1.heap.objs.size := let ⟨_, q, _⟩ := tp; Heap.lt_size q
  refine call_enum_tup tp fun h' he hit hk => wpAny_pyIter_enum he ?_
  have I2 : Inv X pins σ H1 { s1 with heap := h' } := I1.kept (t' := s1.toks) hk
  refine ⟨s1.heap.objs.size + 1, [s1.heap.objs.size + 1, s1.heap.objs.size], _, _, H1, rfl, I2, turnE a (s1.heap.objs.size + 1) s1.heap.objs.size, ⟨⟨.none, he⟩, hit, Nat.succ_ne_self _, Nat.ne_of_lt al, Nat.ne_of_gt (Nat.lt_succ_of_lt al)⟩, fun b hb => ?_, q⟩
  have hle : s1.heap.objs.size ≤ b := by
    rcases List.mem_cons.mp hb with z | z
    · rw [z]; exact Nat.le_succ _
    · have z : b = s1.heap.objs.size := by simpa using z
      rw [z]; exact Nat.le_refl _
  exact I1.fpOk hle (I1.hok.fresh hle)
/-! ### enumerate of data -/
def enumD (ds : List D) : List D := (List.range ds.length).map fun (k : Nat) => D.tup [.int (k : Int), ds.getD k .non]
theorem enumD_get {ds : List D} {i : Nat} {d : D} (h : (enumD ds)[i]? = some d) : ∃ x, ds[i]? = some x ∧ d = .tup [.int (i : Int), x] := by
  unfold enumD at h
  rw [List.getElem?_map] at h
  cases w : (List.range ds.length)[i]? with
  | none => rw [w] at h; cases h
  | some k =>
    have hi := (List.getElem?_eq_some_iff.mp w).1
    rw [List.length_range] at hi
    rw [List.getElem?_range hi] at w
    cases w
    rw [List.getElem?_range hi] at h
    cases h
    exact ⟨ds[i], List.getElem?_eq_getElem hi, by simp [List.getD_eq_getElem?_getD, hi]⟩
theorem enumD_length {ds : List D} : (enumD ds).length = ds.length := by
  unfold enumD; rw [List.length_map, List.length_range]
theorem itOk_enumL {K : Fg} {B : Ad} {H : Hp} {a : Addr} {vs : List V} {ds : List D} (h : LstAt K B H a vs) (r : RpL K B H vs ds) : ItOk K (Ite K a) B H (enumD ds) := by
  refine ⟨fun B H => LstAt K B H a vs ∧ RpL K B H vs ds, ⟨h, r⟩, fun B H B' H' ⟨h, r⟩ h1 h2 => ⟨h.step h1 h2, r.step h1 h2⟩, ?_⟩
  rintro B H ⟨h, r⟩ tr
  refine ⟨fun i d q => ?_, ⟨vs, h.sq, by rw [enumD_length, r.length]; exact Nat.le_refl _⟩⟩
  obtain ⟨x, hx, rfl⟩ := enumD_get q
  obtain ⟨v, hv, rv⟩ := r.get hx
  refine ⟨⟨vs, v, h.sq, hv⟩, ?_⟩
  rintro _ H' ⟨T, y, rfl, nT, rfl, hy⟩
  have e := hv.symm.trans (hy vs h.sq)
  cases e
  have sm := same_upd (o := .tup [V.int (i : Nat), v]) nT
  exact ⟨sm, .tup ⟨fun z => tr T z nT, upd_same⟩ (.cons (.int _) (.cons (rv.step (fun a o q _ => sm a o q) fun a z => .inl z) .nil))⟩
theorem itOk_enumT {K : Fg} {B : Ad} {H : Hp} {a : Addr} {vs : List V} {ds : List D} (h : TupAt K B H a vs) (r : RpL K B H vs ds) : ItOk K (ItE K a) B H (enumD ds) := by
  refine ⟨fun B H => TupAt K B H a vs ∧ RpL K B H vs ds, ⟨h, r⟩, fun B H B' H' ⟨h, r⟩ h1 h2 => ⟨h.step h1 h2, r.step h1 h2⟩, ?_⟩
  rintro B H ⟨h, r⟩ tr
  refine ⟨fun i d q => ?_, ⟨vs, h.sq, by rw [enumD_length, r.length]⟩⟩
  obtain ⟨x, hx, rfl⟩ := enumD_get q
  obtain ⟨v, hv, rv⟩ := r.get hx
  refine ⟨⟨vs, v, h.sq, hv⟩, ?_⟩
  rintro _ H' ⟨T, y, rfl, nT, rfl, hy⟩
  have e := hv.symm.trans (hy vs h.sq)
  cases e
  have sm := same_upd (o := .tup [V.int (i : Nat), v]) nT
  exact ⟨sm, .tup ⟨fun z => tr T z nT, upd_same⟩ (.cons (.int _) (.cons (rv.step (fun a o q _ => sm a o q) fun a z => .inl z) .nil))⟩
/-- enumerate of a list or of a tuple that is shared -/
def iEnum (f : M RV) : M (List D) := M.bind (iSeq f) fun ds => M.ret (enumD ds)
section
variable {X : Cx} {W : Wx} {tg l : Expr} {f : M RV} {p pos tpos : Pos} {elts : List Expr} {kk : Nat}
theorem pdi_enum (hg : Gl X "enumerate") (hm : X.mg "enumerate" = none) (hl : PD X W l f) (hs : starEach [l] X.env = [(false, eval l X.env)] := by rfl) : PDI X W (.Tuple elts kk tpos) (.Call (.Name "enumerate" p) [l] [] pos) (iEnum f) :=
  pi_imp (pi_or (pi_enum hg hm (pa_cons hl pa_nil hs) hs) (pi_enT hg hm (pa_cons hl pa_nil hs) hs)) fun σ H Q ⟨F, e, R, h⟩ => by
    have hb := h.bind.bind
    cases w : M.bind f M.esc e with
    | bad => rw [w] at hb; exact hb.elim
    | exc x e1 => exact .inl ⟨F, e, R, esc_of R (k := fun _ _ _ _ => False) (fun _ _ _ _ _ z _ => z.elim) (by rw [w] at hb ⊢; exact hb)⟩
    | ok d e1 =>
      cases d with
      | lst ds =>
        refine .inl ⟨F, e, R, esc_of R (k := fun d F1 e1 H1 => d = .lst ds ∧ Rel X.K F1 σ H1 e1 ∧ ∀ J, ItOk X.K J (Bd F1 σ e1) H1 (enumD ds) → Q J H1) (fun d F1 e1 H1 v ⟨ed, R1, k⟩ rp => ?_) ?_⟩
        · subst ed
          obtain ⟨a, vs, rfl, t, r⟩ := RpL.sq_lst rp
          exact ⟨a, vs, rfl, t.sq, k _ (itOk_enumL t r)⟩
        · rw [w] at hb ⊢
          exact fun F1 H1 p1 => ⟨rfl, p1.rel, hb F1 H1 p1 F1 H1 (.refl p1.rel) F1 H1 (.refl p1.rel)⟩
      | tup ds =>
        refine .inr ⟨F, e, R, esc_of R (k := fun d F1 e1 H1 => d = .tup ds ∧ Rel X.K F1 σ H1 e1 ∧ ∀ J, ItOk X.K J (Bd F1 σ e1) H1 (enumD ds) → Q J H1) (fun d F1 e1 H1 v ⟨ed, R1, k⟩ rp => ?_) ?_⟩
        · subst ed
          obtain ⟨a, vs, rfl, t, r⟩ := rp.tup_inv
          exact ⟨a, vs, rfl, t.sq, k _ (itOk_enumT t r)⟩
        · rw [w] at hb ⊢
          exact fun F1 H1 p1 => ⟨rfl, p1.rel, hb F1 H1 p1 F1 H1 (.refl p1.rel) F1 H1 (.refl p1.rel)⟩
      | _ => exact .inl ⟨F, e, R, esc_of R (k := fun _ _ _ _ => False) (fun _ _ _ _ _ z _ => z.elim) (by rw [w] at hb ⊢; exact fun F1 H1 p1 => hb F1 H1 p1)⟩
end
end Cw

/-! Cw, part P: an assignment to any target, the last words -/
namespace Cw
open PySem L2
def sAsg (f : M RV) (a : G) : S := M.then (M.bind f M.esc) fun d => fun e => match a d e with
  | none => .bad
  | some e' => .nx e'
section
variable {X : Cx} {W : Wx} {tg v : Expr} {f : M RV} {a : G} {ts : List Nat} {pos : Pos}
theorem pds_asg (he : PD X W v f) (hg : PDG X tg ts a) (hs : swapsWithSole [tg] v pos.line X.env = pure false := by rfl) (hw : swappedStores [tg] v X.env = pure none := by rfl)
    (h1 : (assignEach [tg] X.env).map (·.2) = [assign tg X.env] := by rfl) : PDS X W (.Assign [tg] v pos) (sAsg f a) :=
  ps_imp (ps_asg he hg hs hw h1) fun Dn σ H ⟨F, e, R, h⟩ => ⟨F, e, R, esc_of R (k := fun d F1 e1 H1 => Rel X.K F1 σ H1 e1 ∧ SAft W X.K F1 σ H1 e1 Dn (match a d e1 with | none => .bad | some e' => .nx e')) (fun d F1 e1 H1 y ⟨R1, h1⟩ ry => by
    cases w : a d e1 with
    | none => rw [w] at h1; exact h1.elim
    | some e2 =>
      rw [w] at h1
      exact ⟨F1, e1, d, e2, R1, ry, w, fun F' σ' H' p _ => h1 F' σ' H' p⟩) (h.then.imp fun d F1 e1 H1 p1 h1 => ⟨p1.rel, h1⟩)⟩
end
end Cw

/-! Cw, part Q: == by __eq__ -/
namespace Cw
open PySem L2
structure EqI (K : Fg) (C f : Addr) : Prop where
  hs : PySem.W.findIn K (.ref C) "__eq__" = some (some (.ref f))
  hf : PySem.W.isFn K (.ref f) = true
def dEqI (C : Addr) (G : Fn) (x y : D) : Option (Bool × D) := match x, y with
  | .ins C1 fs, .ins C2 gs => if C1 = C ∧ C2 = C then (match G [.ins C1 fs, .ins C2 gs] with
    | .ok (false, .bl b) [] => some (false, .bl b)
    | _ => none) else none
  | x, y => dEq false x y
abbrev B0 : Ad := fun _ => False
theorem RpB.ins0 {K : Fg} {B : Ad} {H : Hp} {v : V} {C : Addr} {ds : List (Str × D)} (h : RpB K B H v (.ins C ds)) : ∃ p dx fs, v = .ref p ∧ H p = some (.ins C dx fs) ∧ Rp K B0 H v (.ins C ds) := by
  rcases h with h | ⟨p, rfl, h⟩
  · have h0 := h.anti (B' := B0) fun _ z => z.elim
    cases h with
    | ins nb q r => exact ⟨_, _, _, rfl, q, h0⟩
  · have h0 : Rp K B0 H (.ref p) (.ins C ds) := OwnAt.rp (fun z => z) (h.anti (B' := B0) fun _ z => z.elim)
    obtain ⟨dx, fs, q, r⟩ := h
    exact ⟨p, dx, fs, rfl, q, h0⟩
section
variable {X : Cx} {C f : Addr} {fd : FuncData} {ps : List Str} {k : Nat} {G : Fn}
theorem od_eqI (ei : EqI X.K C f) (F : FnG X.prog X.w X.K X.mg X.base (L2.CX X.prog X.w) k f fd ps (spD X.K [false, false] G)) (hb : Binds X.K fd ps []) (hr : Room k X.A) (hgd : X.A.guards = some []) : OpR X (compareOp .Eq) (rD2 X.K (dEqI C G)) := by
  intro pins s σ H x y v u Q I rx ry hq
  obtain ⟨B, dx, dy, tr, rpx, rpy, q⟩ := hq
  have gen : dEqI C G dx dy = dEq false dx dy → wpAny (model X.prog X.w) X.A (compareOp .Eq v u) (EP X pins σ Q) X.xe s := fun e => od_eq hr.units pins s σ H x y v u Q I rx ry ⟨B, dx, dy, tr, rpx, rpy, by rw [← e]; exact q⟩
  by_cases hi : ∃ C1 fs C2 gs, dx = .ins C1 fs ∧ dy = .ins C2 gs
  · obtain ⟨C1, fs, C2, gs, rfl, rfl⟩ := hi
    unfold dEqI at q
    simp only at q
    split at q
    · rename_i hC
      obtain ⟨rfl, rfl⟩ := hC
      obtain ⟨a, dxa, fa, rfl, ha, ra⟩ := rpx.ins0
      obtain ⟨b, dxb, fb, rfl, hb', rb⟩ := rpy.ins0
      cases rx
      cases ry
      obtain ⟨mA, J, _⟩ := ins_get I.hok ha
      obtain ⟨mB, J', _⟩ := ins_get I.hok hb'
      obtain ⟨od, J, _⟩ := J.look
      obtain ⟨od', J', _⟩ := J'.look
      obtain ⟨m, hF⟩ := I.fr
      show wpAny (model X.prog X.w) X.A (richCompare .Eq (.ref a) (.ref b)) (EP X pins σ Q) X.xe s
      refine PySem.W.cmp_K (op := .Eq) (tb := .ref C2) hr.units0 hF I.ok.mod.kin J J'.type (by simp [PySem.W.notFirst]) ei.hs ei.hf ?_
      cases w : G [.ins C2 fs, .ins C2 gs] with
      | bad => rw [w] at q; exact q.elim
      | exc x ms => rw [w] at q; exact q.elim
      | ok r ms =>
        rw [w] at q
        split at q
        · rename_i r' b' ew
          cases ew
          have hsp : spD X.K [false, false] G [.ref a, .ref b] H (fun v H' => v = .bl b' ∧ Same H H') (WE Wno σ) := by
            refine ⟨B0, [.ins C2 fs, .ins C2 gs], ⟨ra, rb, trivial⟩, List.nodup_nil, fun _ z => z.elim, ?_⟩
            rw [w]
            intro v H' st rv _
            cases rv
            exact ⟨rfl, fun a o q => st.keep a o q (fun z => nomatch z)⟩
          have r2 : Vals [V.ref a, V.ref b] [Value.ref a, Value.ref b] := .cons rfl (.cons rfl .nil)
          have := runG (us := [.ref a, .ref b]) (vs := [.ref a, .ref b]) (xs := []) (ws := []) F hr hgd hb .nil (passN σ) I r2 hsp
          refine wpAny_mono this (fun r s' z => ?_) fun _ _ x => x
          obtain ⟨z, H', I', rz, ez, ex⟩ := z
          subst ez
          cases rz
          exact ⟨.bl b', H', I', rfl, q _ _ ex (.bl b')⟩
        · exact q.elim
    · exact q.elim
  · refine gen ?_
    unfold dEqI
    split
    · exact absurd ⟨_, _, _, _, rfl, rfl⟩ hi
    · rfl
end
end Cw

/-! Cw, part R: comprehensions with the slots told -/
namespace Cw
open PySem L2
theorem units66 {k : Nat} {A : Around} (r : Room k A) : A.units + 66 < cLine := by have := r.un; omega
section
variable {X : Cx} {W : Wx}
theorem pd_lcV {elt tg iter : Expr} {ifs : List Expr} {scope : Scope} {own : List (Str × Nat)} {vs : List Nat} {pos : Pos} {f : M (List D)} {a : G} {ts : List Nat} {tt : M Bool} {te : M RV} (hc : X.calm = true) (hN : X.N.Nodup) (hi : PDI X W tg iter f) (ok : BlkOk X.N X.env.scope scope own) (hv : own.map (·.2) = vs)
    (hg : ∀ (s : Shared) (H : Hp) (C : Addr) (cl : List (Str × Addr)) (fp : List Addr), PDG (X.blk s H scope (compEnvC scope cl C X.env) fp) tg ts a) (ht : ∀ (s : Shared) (H : Hp) (C : Addr) (cl : List (Str × Addr)) (fp : List Addr), PDTs (X.blk s H scope (compEnvC scope cl C X.env) fp) Wno ifs tt)
    (he : ∀ (s : Shared) (H : Hp) (C : Addr) (cl : List (Str × Addr)) (fp : List Addr), PD (X.blk s H scope (compEnvC scope cl C X.env) fp) Wno elt te) (hts : ∀ i, i ∈ ts → i ∈ vs) (hs : ∀ x, foldedSetIterable iter X.env x = pure x := by intro _; rfl) :
    PD X W (.ListComp elt [⟨tg, iter, ifs, 0⟩] scope pos) (eLc vs f a tt te) := by
  subst hv
  exact pd_lc hc hN hi ok hg ht he hts hs
theorem pds_setLcV {i : Nat} {y : Str} {py : Pos} {elt tg iter : Expr} {ifs : List Expr} {scope : Scope} {own : List (Str × Nat)} {vs : List Nat} {pos spos : Pos} {f : M (List D)} {a : G} {ts : List Nat} {tt : M Bool} {te : M RV} (hc : X.calm = true) (hN : X.N.Nodup) (hy : X.N[i]? = some y) (hyl : X.env.scope.names.lookup y = some .local)
    (hsw : swapsWith (.ListComp elt [⟨tg, iter, ifs, 0⟩] scope pos) (some (.Name y py)) spos.line X.env = pure true) (hi : PDI X W tg iter f) (ok : BlkOk X.N X.env.scope scope own) (hv : own.map (·.2) = vs)
    (hg : ∀ (s : Shared) (H : Hp) (C : Addr) (cl : List (Str × Addr)) (fp : List Addr), PDG (X.blk s H scope (compEnvC scope cl C X.env) fp) tg ts a) (ht : ∀ (s : Shared) (H : Hp) (C : Addr) (cl : List (Str × Addr)) (fp : List Addr), PDTs (X.blk s H scope (compEnvC scope cl C X.env) fp) Wno ifs tt)
    (he : ∀ (s : Shared) (H : Hp) (C : Addr) (cl : List (Str × Addr)) (fp : List Addr), PD (X.blk s H scope (compEnvC scope cl C X.env) fp) Wno elt te) (hts : ∀ i, i ∈ ts → i ∈ vs) (hs : ∀ x, foldedSetIterable iter X.env x = pure x := by intro _; rfl) :
    PDS X W (.Assign [.Name y py] (.ListComp elt [⟨tg, iter, ifs, 0⟩] scope pos) spos) (sSet i (eLc vs f a tt te)) := by
  subst hv
  exact pds_setLc hc hN hy hyl hsw hi ok hg ht he hts hs
end
end Cw

/-! Cw, part S: from a def of the text to the law -/
namespace Cw
open PySem L2 PySem.Spec PyProof.Rows
/-- the law's call, for a def that is walked with no guards around it -/
theorem lawG {P : Program} {w : World} {K : Fg} {mg mb : Str → Option Value} {k : Nat} {fa sc : Addr} {fd : FuncData} {x : Str} {G : Fn} {t : Shared} {us : List Value} {ns : List Int}
    (kin : K.In t.heap) (gns : t.heap.Ns mainGlobals mg) (bns : t.heap.Ns builtinsNs mb) (bbt : ∀ y : Str, y ≠ "__name__" → mb y = bootBuiltins y) (nol : t.heap.NoLimit) (gen : t.gens = #[])
    (at_ : t.heap.get? sc = some { cls := .type "list", data := .seq us.toArray }) (hints : IntsAre us ns) (len : ns.length ≤ sizeLine) (rm : Room k callerA)
    (Fo : ∀ bs : Heap, K.In bs → bs.Ns mainGlobals mg → FnG P w K mg bs (L2.CX P w) k fa fd [x] (spD K [false] G)) (bd : ∀ (s : Shared) (u : Value), BindsTo s fd ⟨[u], []⟩ [(x, u)])
    (yes : G [.scr (ns.map D.int)] = .ok (false, .bl true) []) :
    codeAny (model P w) callerA (.call (.ref fa) ⟨[.ref sc], []⟩) (fun r t' => r = .ok (.ret (.bool true)) ∧ OldK t.heap t'.heap ∧ t'.os = t.os ∧ AllBare t'.gens) t := by
  have vals := vals_ints hints
  have rps : ∀ {B : Ad} {H : Hp} (l : List Int), RpL K B H (l.map V.int) (l.map D.int) := fun {B H} l => by
    induction l with
    | nil => exact .nil
    | cons i r ih => exact .cons (.int i) ih
  have main : ∀ Hs : Hp, Only Hs → SqL K Hs sc (ns.map V.int) → HOk P w Hs t.heap → (∀ c, Hs c ≠ none → c = sc) → (Hs sc ≠ none → K.lookup sc = none) →
      codeAny (model P w) callerA (.call (.ref fa) ⟨[.ref sc], []⟩) (fun r t' => r = .ok (.ret (.bool true)) ∧ OldK t.heap t'.heap ∧ t'.os = t.os ∧ AllBare t'.gens) t := by
    intro Hs only sq hok one frag
    have hid : ∀ {c : Addr} {ob : Obj}, t.heap.get? c = some ob → Hs c = none → (hidT t.heap Hs).get? c = some ob := fun g n => hidT_get g n
    have off : ∀ {c : Addr} {ob : Obj} {en : Array DictEntry} {ep : Nat}, t.heap.get? c = some ob → ob.data = .dict en ep → Hs c = none := by
      intro c ob en ep g dd
      cases hc : Hs c with
      | none => rfl
      | some z =>
        obtain rfl := one c (by rw [hc]; exact fun y => nomatch y)
        rw [at_] at g
        cases g
        cases dd
    have spaces : ∀ {c : Addr} {m : Str → Option Value}, t.heap.Ns c m → (hidT t.heap Hs).Ns c m := by
      rintro c m ⟨ob, en, ep, g, dd, rest⟩
      exact ⟨ob, en, ep, hid g (off g dd), dd, rest⟩
    have kin' : K.In (hidT t.heap Hs) := by
      intro c ob g
      refine hid (kin c ob g) ?_
      cases hc : Hs c with
      | none => rfl
      | some z =>
        obtain rfl := one c (by rw [hc]; exact fun y => nomatch y)
        rw [frag (by rw [hc]; exact fun y => nomatch y)] at g
        cases g
    have modu : Mod K mg (hidT t.heap Hs) := by
      obtain ⟨mc, l1, l2⟩ := nol
      exact ⟨kin', spaces gns, ⟨mb, spaces bns, bbt⟩, ⟨mc, spaces l1, l2⟩⟩
    have env : Env0 P w K mg (hidT t.heap Hs) callerA [] t Hs := by
      refine ⟨rfl, modu, fun c ob g => of_hidT g, Nat.le_of_eq (hidT_size _ _), trivial, fun c hc => ?_, hok, .of_eq gen⟩
      exact absurd hc (List.not_mem_nil)
    have promise : spD K [false] G [.ref sc] Hs (fun v _ => v = .bl true) E0 := by
      refine ⟨B0, [.scr (ns.map D.int)], ⟨.scr ?_ (rps ns), trivial⟩, List.nodup_nil, fun _ z => z.elim, ?_⟩
      · rcases sq with r | r
        · exact .inl ⟨fun z => z, r⟩
        · exact .inr r
      · rw [yes]
        intro v H' _ rv _
        cases rv
        rfl
    refine codeAny_mono ((Fo _ kin' (spaces gns)).run callerA [] t Hs ⟨[.ref sc], []⟩ [.ref sc] [.ref sc] _ E0 rm rfl env (bd t (.ref sc)) (.cons rfl .nil) promise) ?_
    intro res t' z
    match res, z with
    | .error _, z =>
      obtain ⟨_, _, _, _, _, _, _, _, _, _, _, _, q⟩ := z
      exact q.elim
    | .ok (.ret u), z =>
      obtain ⟨v, H', os, bare, un, hok', ru, ev⟩ := z
      cases ev
      cases ru
      refine ⟨rfl, OldK.of_keep fun c ob g => ?_, os, bare⟩
      cases hc : Hs c with
      | none => exact un.keep c ob g hc (fun y => absurd y (List.not_mem_nil)) (by simp)
      | some z =>
        rcases only c with y | ⟨fo, xs, y⟩
        · rw [hc] at y; cases y
        · have after := un.frzs c fo _ y
          have g1 := (hok c _ y).1
          rw [g] at g1
          cases g1
          exact (hok' c _ after).1
  cases own : K.lookup sc with
  | some ob =>
    have g := kin sc ob own
    rw [at_] at g
    cases g
    refine main (fun _ => none) (fun _ => .inl rfl) (.inr ⟨_, us.toArray, _, own, rfl, rfl, rfl, ?_, by simpa using vals⟩) (fun c u y => nomatch y) (fun c y => absurd rfl y) fun y => absurd rfl y
    rw [List.size_toArray, hints.length]
    exact len
  | none =>
    refine main (fun c => if c = sc then some (.frz { cls := .type "list", data := .seq us.toArray } (.lst (ns.map V.int))) else none) (fun c => ?_) (.inl (.inr ⟨_, if_pos rfl⟩)) (fun c u y => ?_) (fun c y => ?_) fun _ => own
    · by_cases e : c = sc
      · exact .inr ⟨_, _, if_pos e⟩
      · exact .inl (if_neg e)
    · by_cases e : c = sc
      · subst e
        have y := (if_pos rfl).symm.trans y
        cases y
        exact ⟨at_, by rw [List.length_map]; exact len, us, _, vals, at_⟩
      · have y := (if_neg e).symm.trans y
        cases y
    · by_cases e : c = sc
      · exact e
      · exact absurd (if_neg e) y
/-- the walk that the row asks for -/
theorem walkG {l : PySem.W.OpenLaw} {n k : Nat} {q : Program} {loose : List Str} {XP : (Str → Option Value) → Heap → Prop} {YP : World → Heap → Prop} {d : DefRec} {K : Params → Fg} {x : Str}
    (most : l.most = some n) (small : n ≤ sizeLine) (dfl : d.params.defaults = []) (rm : Room k callerA) (hY : ∀ (w : World) (h : Heap), YP w h → (K w.params).In h)
    (Fo : ∀ (w : World) (mg : Str → Option Value) (fa : Addr) (h : Heap), (K w.params).In h → h.Ns mainGlobals mg → mg d.name = some (.ref fa) →
      ∃ (fd : FuncData) (G : Fn), (∀ (s : Shared) (u : Value), BindsTo s fd ⟨[u], []⟩ [(x, u)]) ∧ (∀ ns : List Int, ns.length ≤ n → G [.scr (ns.map D.int)] = .ok (false, .bl true) []) ∧
        ∀ bs : Heap, (K w.params).In bs → bs.Ns mainGlobals mg → FnG l.prog w (K w.params) mg bs (L2.CX l.prog w) k fa fd [x] (spD (K w.params) [false] G)) :
    PySem.W.WalkO q loose XP YP l.row.toRowW d [] (fun f vs => PySem.call f vs) := by
  refine Att.attach_call most dfl fun w s0 t mg mb fa ob pm cd doc sc us ns Gr Y ho hd hcd hmg hobj hints hl hgen => ?_
  obtain ⟨fd, G, bd, yes, hF⟩ := Fo w mg fa _ (hY w _ Y) Gr.T.g hmg
  exact lawG (hY w _ Y) Gr.T.g Gr.T.b Gr.T.builtins Gr.T.nolimit hgen hobj hints (Nat.le_trans hl small) rm hF bd (yes ns hl)
end Cw

/-! Cw, part T: what isinstance asks of a class, from the written part -/
namespace Cw
open PySem L2
structure ClsF (K : Fg) (C : Addr) : Prop where
  ci : ClsI K C
  ty : PySem.W.typeIn K (.ref C) = some (.type "type")
  cc : ∃ r, PySem.W.clsIn K C = some r
  mr : ∀ T, T ∈ tysB → PySem.W.mroIn K C (.type T) = some false
theorem ClsF.out {K : Fg} {C : Addr} (h : ClsF K C) {T : String} (hT : T ∈ tysB) : PySem.W.kitOne K (.ref C) (.type T) = some false := by
  have e : PySem.W.kitMeta T = true := by
    simp only [tysB, List.mem_cons, List.not_mem_nil, or_false] at hT
    rcases hT with rfl | rfl | rfl | rfl | rfl | rfl | rfl <;> decide +kernel
  have n : (Value.ref C == Value.type T) = false := rfl
  unfold PySem.W.kitOne PySem.W.kitCls
  rw [n]
  simp only [Bool.false_eq_true, if_false, e, if_true]
  exact h.mr T hT
theorem ClsF.inn {K : Fg} {C : Addr} (h : ClsF K C) {T : String} (hT : T ∈ tysB) : PySem.W.kitOne K (.type T) (.ref C) = some false := by
  have n : (Value.type T == Value.ref C) = false := rfl
  unfold PySem.W.kitOne PySem.W.kitCls
  rw [n]
  simp only [Bool.false_eq_true, if_false]
  obtain ⟨r, hr⟩ := h.cc
  rw [hr, h.ty]
  have y : ((some r).isSome && (some (Value.type "type") == some (Value.type "type"))) = true := by
    rw [Option.isSome_some, Bool.true_and]; decide +kernel
  rw [y]
  simp only [if_true]
  unfold PySem.W.subIn
  simp only [tysB, List.mem_cons, List.not_mem_nil, or_false] at hT
  rcases hT with rfl | rfl | rfl | rfl | rfl | rfl | rfl <;> rfl
theorem kit_two {K : Fg} {C C' : Addr} (h : ClsF K C) (hm : PySem.W.mroIn K C' (.ref C) = some false) (hne : C' ≠ C) : PySem.W.kitOne K (.ref C') (.ref C) = some false := by
  have n : (Value.ref C' == Value.ref C) = false := by
    rw [beq_eq_false_iff_ne]
    intro z
    cases z
    exact hne rfl
  unfold PySem.W.kitOne PySem.W.kitCls
  rw [n]
  simp only [Bool.false_eq_true, if_false]
  obtain ⟨r, hr⟩ := h.cc
  rw [hr, h.ty]
  have y : ((some r).isSome && (some (Value.type "type") == some (Value.type "type"))) = true := by
    rw [Option.isSome_some, Bool.true_and]; decide +kernel
  rw [y]
  simp only [if_true]
  exact hm
theorem IsiK.none {K : Fg} : IsiK K [] := ⟨fun _ h => absurd h List.not_mem_nil, fun _ h => absurd h List.not_mem_nil, fun _ h => absurd h List.not_mem_nil, fun _ h => absurd h List.not_mem_nil⟩
theorem IsiK.of {K : Fg} {Cs : List Addr} (h : ∀ C, C ∈ Cs → ClsF K C) (h2 : ∀ C, C ∈ Cs → ∀ C', C' ∈ Cs → C' ≠ C → PySem.W.mroIn K C' (.ref C) = some false) : IsiK K Cs :=
  ⟨fun C m => (h C m).ci, fun C m T t => (h C m).out t, fun C m T t => (h C m).inn t, fun C m C' m' n => kit_two (h C m) (h2 C m C' m' n) n⟩
theorem IsiK.one {K : Fg} {C : Addr} (h : ClsF K C) : IsiK K [C] := .of (fun C' m => by rw [List.mem_singleton.mp m]; exact h) fun C1 m1 C2 m2 n => absurd ((List.mem_singleton.mp m2).trans (List.mem_singleton.mp m1).symm) n
end Cw

/-! Cw, part U: words of the mirrors' mathematics -/
namespace Cw
open PySem L2
/-! ### data that == and repr take -/
/-- depth at most k, weight at most n, small integers -/
def Nice (k n : Nat) (d : D) : Prop := ∃ x, toP d = some x ∧ x.canLay0 = true ∧ x.showable = true ∧ x.intsShort 13 = true ∧ x.depth ≤ k ∧ x.weight ≤ n
def NiceL (k n : Nat) (ds : List D) : Prop := ∃ xs, toPL ds = some xs ∧ PyData.canLayAll0 xs = true ∧ PyData.showableAll xs = true ∧ PyData.intsShortAll 13 xs = true ∧ PyData.depthAll xs ≤ k ∧ PyData.weightAll xs ≤ n
theorem Nice.mono {k n k' n' : Nat} {d : D} (h : Nice k n d) (hk : k ≤ k') (hn : n ≤ n') : Nice k' n' d := by
  obtain ⟨x, a, b, c, e, f, g⟩ := h
  exact ⟨x, a, b, c, e, by omega, by omega⟩
theorem NiceL.mono {k n k' n' : Nat} {ds : List D} (h : NiceL k n ds) (hk : k ≤ k') (hn : n ≤ n') : NiceL k' n' ds := by
  obtain ⟨x, a, b, c, e, f, g⟩ := h
  exact ⟨x, a, b, c, e, by omega, by omega⟩
theorem NiceL.nil : NiceL 0 0 [] := ⟨[], by simp [toPL], by simp [PyData.canLayAll0], by simp [PyData.showableAll], by simp [PyData.intsShortAll], by simp [PyData.depthAll], by simp [PyData.weightAll]⟩
theorem NiceL.cons {k n k' n' : Nat} {d : D} {ds : List D} (h : Nice k n d) (t : NiceL k' n' ds) : NiceL (max k k') (n + 1 + n') (d :: ds) := by
  obtain ⟨x, a1, a2, a3, a4, a5, a6⟩ := h
  obtain ⟨xs, b1, b2, b3, b4, b5, b6⟩ := t
  refine ⟨x :: xs, by simp [toPL, a1, b1], by simp [PyData.canLayAll0, a2, b2], by simp [PyData.showableAll, a3, b3], by simp [PyData.intsShortAll, a4, b4], ?_, ?_⟩
  · simp only [PyData.depthAll]; omega
  · simp only [PyData.weightAll]; omega
theorem NiceL.all {k n : Nat} : ∀ {ds : List D}, (∀ d, d ∈ ds → Nice k n d) → NiceL k (ds.length * (n + 1)) ds
  | [], _ => NiceL.nil.mono (Nat.zero_le _) (Nat.zero_le _)
  | d :: ds, h => by
    have := NiceL.cons (h d (by simp)) (NiceL.all (ds := ds) fun d hd => h d (by simp [hd]))
    refine this.mono (by omega) ?_
    simp only [List.length_cons, Nat.add_mul]
    omega
theorem NiceL.tup {k n : Nat} {ds : List D} (h : NiceL k n ds) : Nice (k + 1) n (.tup ds) := by
  obtain ⟨xs, b1, b2, b3, b4, b5, b6⟩ := h
  exact ⟨.tuple xs, by simp [toP, b1], by simpa [PyData.canLay0] using b2, by simpa [PyData.showable] using b3, by simpa [PyData.intsShort] using b4, by simp only [PyData.depth]; omega, by simpa [PyData.weight] using b6⟩
theorem NiceL.lst {k n : Nat} {ds : List D} (h : NiceL k n ds) : Nice (k + 1) n (.lst ds) := by
  obtain ⟨xs, b1, b2, b3, b4, b5, b6⟩ := h
  exact ⟨.list xs, by simp [toP, b1], by simpa [PyData.canLay0] using b2, by simpa [PyData.showable] using b3, by simpa [PyData.intsShort] using b4, by simp only [PyData.depth]; omega, by simpa [PyData.weight] using b6⟩
theorem Nice.bl (b : Bool) : Nice 0 0 (.bl b) := ⟨.bool b, by simp [toP], by simp [PyData.canLay0], by simp [PyData.showable], by simp [PyData.intsShort], by simp [PyData.depth], by simp [PyData.weight]⟩
theorem Nice.non : Nice 0 0 .non := ⟨.none, by simp [toP], by simp [PyData.canLay0], by simp [PyData.showable], by simp [PyData.intsShort], by simp [PyData.depth], by simp [PyData.weight]⟩
theorem log_lt {n : Nat} (h : n < 2 ^ 40) : n.log2 < 40 := by
  by_cases hn : n = 0
  · subst hn; decide
  · exact (Nat.log2_lt hn).mpr h
theorem Nice.int {i : Int} (h : i.natAbs < 2 ^ 39) : Nice 0 41 (.int i) := by
  have h12 : i.natAbs < 10 ^ 12 := Nat.lt_trans h (by decide)
  have hl : i.natAbs.log2 < 40 := log_lt (Nat.lt_trans h (by decide))
  refine ⟨.int i, by simp [toP], by simp [PyData.canLay0], ?_, ?_, by simp [PyData.depth], ?_⟩
  · simp only [PyData.showable, decide_eq_true_eq]; omega
  · simp only [PyData.intsShort, decide_eq_true_eq]; exact PyData.shown_int_le h12
  · simp only [PyData.weight]; split <;> omega
/-- what such data gives to == and to repr -/
theorem dEqP_same {d : D} {x : PyData} (a : toP d = some x) (sh : SeqAt.shaped x = true) (b : x.canLay0 = true) : dEqP false d d = some (false, .bl true) := by
  unfold dEqP
  simp only [a, sh, and_self, if_true, Bool.false_eq_true, if_false, SeqAt.eqv_refl x b]
theorem Nice.eq {k n : Nat} {d : D} (h : Nice k n d) (hk : k ≤ 64) : dEq false d d = some (false, .bl true) := by
  obtain ⟨x, a, b, c, e, f, g⟩ := h
  have sh : SeqAt.shaped x = true := by
    unfold SeqAt.shaped
    simp only [b, Bool.true_and, decide_eq_true_eq]; omega
  have hp := dEqP_same a sh b
  unfold dEq
  split
  · simp
  · simp
  · exact hp
theorem Nice.repr {k n : Nat} {d : D} (h : Nice k n d) (hk : k ≤ 64) (hn : n ≤ 2 ^ 20) : ∃ t, dRepr [d] = some (false, .str t) := by
  obtain ⟨x, a, b, c, e, f, g⟩ := h
  refine ⟨x.shown, ?_⟩
  have hl : x.layable0 = true := by
    unfold PyData.layable0
    simp only [b, Bool.true_and, Bool.and_eq_true, decide_eq_true_eq]
    omega
  have := PyData.shown_fits_of_layable0 (B := 13) (by decide) (by decide) hl e
  unfold dRepr
  simp only [a]
  rw [if_pos ⟨c, by omega, this⟩]
end Cw

/-! Cw, part V: loops of the mirrors -/
namespace Cw
open PySem L2
/-- a comprehension that changes nothing: e is the state in which each turn begins -/
theorem lcL_pure {vs : List Nat} {a : G} {tt : M Bool} {te : M RV} {e : En} (p : D → Bool) (f : D → D) : ∀ {ds : List D},
    (∀ d, d ∈ ds → ∃ e1 e2, a d e = some e1 ∧ tt e1 = .ok (p d) e2 ∧ (p d = false → noMu e2 vs = true ∧ wipeE e2 vs = e) ∧ (p d = true → ∃ e3, M.bind te M.esc e2 = .ok (f d) e3 ∧ noMu e3 vs = true ∧ wipeE e3 vs = e)) →
    lcL vs a tt te ds e = .ok ((ds.filter p).map f) e
  | [], _ => rfl
  | d :: ds, h => by
    have ih := lcL_pure (vs := vs) (a := a) (tt := tt) (te := te) (e := e) p f (ds := ds) fun d hd => h d (List.mem_cons_of_mem _ hd)
    obtain ⟨e1, e2, h1, h2, h3, h4⟩ := h d List.mem_cons_self
    unfold lcL
    simp only [h1, h2]
    cases w : p d with
    | false =>
      obtain ⟨h5, h6⟩ := h3 w
      simp only [h5, if_true, h6, ih, List.filter_cons, w, Bool.false_eq_true, if_false]
    | true =>
      obtain ⟨e3, h5, h6, h7⟩ := h4 w
      simp only [h5, h6, if_true, h7, ih, List.filter_cons, w, List.map_cons]
/-- without a test -/
theorem lcL_map {vs : List Nat} {a : G} {te : M RV} {e : En} (f : D → D) {ds : List D}
    (h : ∀ d, d ∈ ds → ∃ e1 e3, a d e = some e1 ∧ M.bind te M.esc e1 = .ok (f d) e3 ∧ noMu e3 vs = true ∧ wipeE e3 vs = e) : lcL vs a eYes te ds e = .ok (ds.map f) e := by
  have := lcL_pure (vs := vs) (a := a) (tt := eYes) (te := te) (e := e) (fun _ => true) f (ds := ds) fun d hd => by
    obtain ⟨e1, e3, h1, h2, h3, h4⟩ := h d hd
    exact ⟨e1, e1, h1, rfl, ⟨fun z => (Bool.noConfusion z), fun _ => ⟨e3, h2, h3, h4⟩⟩⟩
  rwa [List.filter_eq_self.mpr (fun _ _ => rfl)] at this
/-- a comprehension whose test changes the state: some of the items -/
theorem lcL_some {vs : List Nat} {a : G} {tt : M Bool} {te : M RV} (I : En → Prop) : ∀ {ds : List D} {e : En}, I e →
    (∀ d e, d ∈ ds → I e → ∃ e1 b e2, a d e = some e1 ∧ tt e1 = .ok b e2 ∧ (b = false → noMu e2 vs = true ∧ I (wipeE e2 vs)) ∧ (b = true → ∃ e3, M.bind te M.esc e2 = .ok d e3 ∧ noMu e3 vs = true ∧ I (wipeE e3 vs))) →
    ∃ ys e', lcL vs a tt te ds e = .ok ys e' ∧ I e' ∧ ys.Sublist ds
  | [], e, i, _ => ⟨[], e, rfl, i, .slnil⟩
  | d :: ds, e, i, h => by
    obtain ⟨e1, b, e2, h1, h2, h3, h4⟩ := h d e List.mem_cons_self i
    unfold lcL
    simp only [h1, h2]
    cases b with
    | false =>
      obtain ⟨h5, h6⟩ := h3 rfl
      obtain ⟨ys, e', k1, k2, k3⟩ := lcL_some I (ds := ds) h6 fun d e hd => h d e (List.mem_cons_of_mem _ hd)
      exact ⟨ys, e', by simp only [h5, if_true, k1], k2, k3.cons _⟩
    | true =>
      obtain ⟨e3, h5, h6, h7⟩ := h4 rfl
      obtain ⟨ys, e', k1, k2, k3⟩ := lcL_some I (ds := ds) h7 fun d e hd => h d e (List.mem_cons_of_mem _ hd)
      exact ⟨d :: ys, e', by simp only [h5, h6, if_true, k1], k2, k3.cons_cons _⟩
/-- a loop that goes to its end: I tells what holds when the items before are done -/
theorem forL_inv {a : G} {b : S} (I : List D → En → Prop) : ∀ {ds done : List D} {e : En}, I done e →
    (∀ d pre post e, done ++ ds = pre ++ d :: post → I pre e → ∃ e1 e2, a d e = some e1 ∧ (b e1 = .nx e2 ∨ b e1 = .ct e2) ∧ I (pre ++ [d]) e2) →
    ∃ e', forL a b ds e = .nx e' ∧ I (done ++ ds) e'
  | [], done, e, i, _ => ⟨e, rfl, by simpa using i⟩
  | d :: ds, done, e, i, h => by
    obtain ⟨e1, e2, h1, h2, h3⟩ := h d done ds e rfl i
    obtain ⟨e', k1, k2⟩ := forL_inv I (ds := ds) (done := done ++ [d]) h3 fun d' pre post e' q => h d' pre post e' (by rw [← q]; simp)
    refine ⟨e', ?_, by simpa using k2⟩
    unfold forL
    rcases h2 with h2 | h2 <;> simp only [h1, h2, k1]
/-- the same where what is done does not matter -/
theorem forL_all {a : G} {b : S} (I : En → Prop) {ds : List D} {e : En} (i : I e) (h : ∀ d e, d ∈ ds → I e → ∃ e1 e2, a d e = some e1 ∧ (b e1 = .nx e2 ∨ b e1 = .ct e2) ∧ I e2) : ∃ e', forL a b ds e = .nx e' ∧ I e' := by
  obtain ⟨e', k1, k2⟩ := forL_inv (fun _ => I) (ds := ds) (done := []) i fun d pre post e q j => h d e (by
    have q : ds = pre ++ d :: post := by simpa using q
    rw [q]; simp) j
  exact ⟨e', k1, k2⟩
/-! ### integers as data -/
def ii (xs : List Int) : List D := xs.map D.int
theorem ii_length (xs : List Int) : (ii xs).length = xs.length := List.length_map ..
theorem fVL_ii : ∀ xs : List Int, fVL (ii xs) = some (xs.map V.int)
  | [] => rfl
  | x :: xs => by
    show fVL (D.int x :: ii xs) = _
    unfold fVL
    rw [fVL_ii xs]
    rfl
theorem inV_int (x : Int) : ∀ xs : List Int, inV (V.int x) (xs.map V.int) = decide (x ∈ xs)
  | [] => by simp [inV]
  | y :: ys => by
    have ih := inV_int x ys
    unfold inV at ih ⊢
    rw [List.map_cons, List.any_cons, ih]
    show (y == x || decide (x ∈ ys)) = _
    by_cases h : y = x
    · subst h; simp
    · have h' : ¬ x = y := fun z => h z.symm
      simp [h, h']
theorem dIn_tup (x : Int) (xs : List Int) : dIn false (.int x) (.tup (ii xs)) = some (false, .bl (decide (x ∈ xs))) := by
  unfold dIn
  simp only [fV, fVL_ii, inV_int]
  rfl
theorem dIn_lst (x : Int) (xs : List Int) : dIn false (.int x) (.lst (ii xs)) = some (false, .bl (decide (x ∈ xs))) := by
  unfold dIn
  simp only [fV, fVL_ii, inV_int]
  rfl
theorem dNotIn_tup (x : Int) (xs : List Int) : dIn true (.int x) (.tup (ii xs)) = some (false, .bl (!decide (x ∈ xs))) := by
  unfold dIn
  simp only [fV, fVL_ii, inV_int]
  rfl
theorem dNotIn_lst (x : Int) (xs : List Int) : dIn true (.int x) (.lst (ii xs)) = some (false, .bl (!decide (x ∈ xs))) := by
  unfold dIn
  simp only [fV, fVL_ii, inV_int]
  rfl
/-! ### the item at a place -/
theorem atI_nat {α : Type} (xs : List α) (k : Nat) : L2.atI xs (k : Int) = xs[k]? := by
  unfold L2.atI L2.ixN
  by_cases h : k < xs.length <;> simp [h]
theorem dIx_tup {xs : List D} {k : Nat} {d : D} (h : xs[k]? = some d) : dIx (.tup xs) (.int (k : Int)) = some (false, d) := by
  unfold dIx
  simp only [atI_nat, h]
theorem dIx_lst {xs : List D} {k : Nat} {d : D} (h : xs[k]? = some d) : dIx (.lst xs) (.int (k : Int)) = some (false, d) := by
  unfold dIx
  simp only [atI_nat, h]
end Cw
namespace Cw
open PySem L2
section
variable (Cs : List Addr)
theorem isi_ii (i : Int) : dIsi Cs [.int i, .raw (.ty "int")] = some (false, .bl true) := by
  have e : kitB "int" "int" = some true := by decide +kernel
  simp only [dIsi, isiTy, tyS, e]
theorem isi_ib (i : Int) : dIsi Cs [.int i, .raw (.ty "bool")] = some (false, .bl false) := by
  have e : kitB "int" "bool" = some false := by decide +kernel
  simp only [dIsi, isiTy, tyS, e]
theorem isi_tt (xs : List D) : dIsi Cs [.tup xs, .raw (.ty "tuple")] = some (false, .bl true) := by
  have e : kitB "tuple" "tuple" = some true := by decide +kernel
  simp only [dIsi, isiTy, tyS, e]
theorem isi_cc (C : Addr) (fs : List (Str × D)) (h : C ∈ Cs) : dIsi Cs [.ins C fs, .raw (.ref C)] = some (false, .bl true) := by
  simp only [dIsi, isiCl, h, and_self, if_true, decide_true]
theorem isi2_l (xs : List D) : dIsi2 Cs "list" "tuple" (.lst xs) = some (false, .bl true) := by
  have e : kitB "list" "list" = some true := by decide +kernel
  have e2 : kitB "list" "tuple" = some false := by decide +kernel
  simp only [dIsi2, isiTy, tyS, e, e2, Bool.true_or]
theorem isi2_t (xs : List D) : dIsi2 Cs "list" "tuple" (.tup xs) = some (false, .bl true) := by
  have e : kitB "tuple" "list" = some false := by decide +kernel
  have e2 : kitB "tuple" "tuple" = some true := by decide +kernel
  simp only [dIsi2, isiTy, tyS, e, e2, Bool.false_or]
end
end Cw
namespace Cw
open PySem L2
theorem dEq_int (i j : Int) : dEq false (.int i) (.int j) = some (false, .bl (decide (i = j))) := rfl
theorem dNe_int (i j : Int) : dEq true (.int i) (.int j) = some (false, .bl (!decide (i = j))) := rfl
theorem dEq_str (i j : Str) : dEq false (.str i) (.str j) = some (false, .bl (decide (i = j))) := rfl
theorem dCmp_int (p : Int → Int → Bool) (i j : Int) : dCmp p (.int i) (.int j) = some (false, .bl (p i j)) := rfl
theorem dAdd_int (i j : Int) : dAdd (.int i) (.int j) = some (false, .int (i + j)) := rfl
theorem dSub_int (i j : Int) : dSub (.int i) (.int j) = some (false, .int (i - j)) := rfl
theorem dMod_int (i j : Int) (h : 0 < j) : dMod (.int i) (.int j) = some (false, .int (i % j)) := if_pos h
theorem dDiv_int (i j : Int) (h : 0 < j) (h2 : j < 1073741824) : dDiv (.int i) (.int j) = some (false, .int (i / j)) := if_pos ⟨h, h2⟩
theorem dMul_int (i j : Int) (h : (smallI i || smallI j) = true) : dMul (.int i) (.int j) = some (false, .int (i * j)) := if_pos h
theorem dMul_tup (xs : List D) (k : Nat) (h : k ≤ 1000) (h2 : xs.length ≤ 1000) : dMul (.tup xs) (.int (k : Int)) = some (false, .tup (List.replicate k xs).flatten) := by
  have h3 : repT (k : Int) xs.length = true := repT_of ⟨by omega, by omega, h2⟩
  unfold dMul
  simp only [Int.toNat_natCast]
  rw [if_pos h3]
theorem dMul_lst (xs : List D) (k : Nat) (h : k < 2 ^ 62) (h2 : xs.length * k ≤ sizeLine) : dMul (.lst xs) (.int (k : Int)) = some (true, .lst (List.replicate k xs).flatten) := by
  have h3 : repL (k : Int) xs.length = true := repL_of ⟨by omega, by omega, by rw [Int.toNat_natCast]; exact h2⟩
  unfold dMul
  simp only [Int.toNat_natCast]
  rw [if_pos h3]
theorem dAdd_tup (xs ys : List D) (h : xs.length + ys.length ≤ sizeLine) : dAdd (.tup xs) (.tup ys) = some (false, .tup (xs ++ ys)) := if_pos h
theorem dAdd_lst (xs ys : List D) (h : xs.length + ys.length ≤ sizeLine) : dAdd (.lst xs) (.lst ys) = some (true, .lst (xs ++ ys)) := if_pos h
theorem dInt_int (i : Int) : dInt [.int i] = some (false, .int i) := rfl
theorem dAbs_int (i : Int) : dAbs [.int i] = some (false, .int (if i < 0 then -i else i)) := rfl
theorem dLen_lst (xs : List D) : dLen [.lst xs] = some (false, .int xs.length) := rfl
theorem dLen_tup (xs : List D) : dLen [.tup xs] = some (false, .int xs.length) := rfl
theorem dList_lst (xs : List D) : dList [.lst xs] = some (true, .lst xs) := rfl
theorem dList_tup (xs : List D) : dList [.tup xs] = some (true, .lst xs) := rfl
theorem dTuple_lst (xs : List D) : dTuple [.lst xs] = some (false, .tup xs) := rfl
theorem dTuple_tup (xs : List D) : dTuple [.tup xs] = some (false, .tup xs) := rfl
end Cw
namespace Cw
open PySem L2
/-- 0 .. n-1 -/
def rg (n : Nat) : List Int := (List.range n).map fun (k : Nat) => (k : Int)
theorem rg_length (n : Nat) : (rg n).length = n := by simp [rg]
theorem mem_rg {n : Nat} {i : Int} : i ∈ rg n ↔ 0 ≤ i ∧ i < n := by
  unfold rg
  rw [List.mem_map]
  constructor
  · rintro ⟨k, hk, rfl⟩
    have := List.mem_range.mp hk
    omega
  · intro h
    exact ⟨i.toNat, List.mem_range.mpr (by omega), by omega⟩
theorem rangeD_rg (n : Nat) : rangeD 0 n = ii (rg n) := by
  unfold rangeD ii rg
  rw [List.map_map]
  apply List.map_congr_left
  intro k _
  simp
theorem rgOk_nat (n : Nat) (h : n ≤ 2 ^ 20) : rgOk 0 (n : Int) = true := by
  refine rgOk_iff.mpr ⟨by decide, by decide, by omega, by omega, by omega⟩
theorem rg_to (n : Nat) : ((n : Int) - 0).toNat = n := by omega
theorem NiceL.ii {xs : List Int} (h : ∀ i, i ∈ xs → i.natAbs < 2 ^ 39) : NiceL 0 (xs.length * 42) (Cw.ii xs) := by
  have := NiceL.all (k := 0) (n := 41) (ds := Cw.ii xs) fun d hd => by
    obtain ⟨i, hi, rfl⟩ := List.mem_map.mp hd
    exact Nice.int (h i hi)
  rwa [ii_length] at this
/-- groups as data -/
def gs (rs : List (List Int)) : List D := rs.map fun r => .tup (ii r)
theorem gs_length (rs : List (List Int)) : (gs rs).length = rs.length := List.length_map ..
/-- a group of people below n -/
def Row (n : Nat) (r : List Int) : Prop := r.Sublist (rg n)
theorem Row.lt {n : Nat} {r : List Int} (h : Row n r) {i : Int} (hi : i ∈ r) : 0 ≤ i ∧ i < n := mem_rg.mp (h.subset hi)
theorem Row.len {n : Nat} {r : List Int} (h : Row n r) : r.length ≤ n := by
  have := h.length_le
  rwa [rg_length] at this
theorem Row.nice {n : Nat} {r : List Int} (h : Row n r) (hn : n ≤ 32) : Nice 1 (n * 42) (.tup (ii r)) := by
  have := (NiceL.ii (xs := r) fun i hi => by have := h.lt hi; omega).tup
  exact this.mono (Nat.le_refl _) (Nat.mul_le_mul_right _ h.len)
theorem rows_nice {n : Nat} {rs : List (List Int)} (h : ∀ r, r ∈ rs → Row n r) (hn : n ≤ 32) : NiceL 1 (rs.length * (n * 42 + 1)) (gs rs) := by
  have := NiceL.all (k := 1) (n := n * 42) (ds := gs rs) fun d hd => by
    obtain ⟨r, hr, rfl⟩ := List.mem_map.mp hd
    exact (h r hr).nice hn
  rwa [gs_length] at this
theorem sub_ii {ys : List D} {xs : List Int} (h : ys.Sublist (ii xs)) : ∃ g, ys = ii g ∧ g.Sublist xs := by
  obtain ⟨g, hg, e⟩ := List.sublist_map_iff.mp h
  exact ⟨g, e, hg⟩
theorem eqvAll_nil (ys : List PyData) : PyData.eqv (.list ys) (.list []) = ys.isEmpty := by
  cases ys <;> simp [PyData.eqv, PyData.eqvAll]
theorem toPL_empty {ds : List D} {xs : List PyData} (h : toPL ds = some xs) : xs.isEmpty = ds.isEmpty := by
  cases ds with
  | nil => simp [toPL] at h; subst h; rfl
  | cons d ds =>
    unfold toPL at h
    split at h
    · cases h; rfl
    · cases h
theorem dNe_nil {k n : Nat} {ds : List D} (h : NiceL k n ds) (hk : k < 64) : dEq true (.lst ds) (.lst []) = some (false, .bl (!ds.isEmpty)) := by
  obtain ⟨xs, b1, b2, b3, b4, b5, b6⟩ := h
  have s1 : SeqAt.shaped (.list xs) = true := by
    unfold SeqAt.shaped
    have e : PyData.depth (.list xs) = PyData.depthAll xs + 1 := by simp only [PyData.depth]
    rw [e]
    simp only [PyData.canLay0, b2, Bool.true_and]
    exact decide_eq_true (by omega)
  have s2 : SeqAt.shaped (.list []) = true := by decide +kernel
  have e1 : toP (.lst ds) = some (.list xs) := by simp [toP, b1]
  have e2 : toP (.lst []) = some (.list []) := by simp [toP, toPL]
  show dEqP true (.lst ds) (.lst []) = _
  unfold dEqP
  simp only [e1, e2, s1, s2, and_self, if_true, eqvAll_nil, toPL_empty b1]
end Cw
namespace Cw
open PySem L2
/-- a slot that a caller watches -/
def muB : Option (Fl × D) → Bool
  | some (.mu, _) => true
  | _ => false
theorem isMu_eq (e : En) (i : Nat) : isMu e i = muB (getE e i) := rfl
theorem muB_none : muB none = false := rfl
theorem muB_sh (d : D) : muB (some (.sh, d)) = false := rfl
theorem muB_ow (d : D) : muB (some (.ow, d)) = false := rfl
theorem muB_mu (d : D) : muB (some (.mu, d)) = true := rfl
theorem in62_nat (n : Nat) (h : n ≤ 2 ^ 60) : in62 (n : Int) = true := in62_iff.mpr ⟨by omega, by omega⟩
theorem dApp_one (xs : List D) (y : D) (h : xs.length < sizeLine) : dApp xs [y] = some (xs ++ [y]) := if_pos h
end Cw

/-! Cw, part W: the words of the mirrors, applied -/
namespace Cw
open PySem L2
section
variable (e : En)
theorem bind_eq {α β : Type} (f : M α) (g : α → M β) : M.bind f g e = match f e with
    | .ok a e1 => g a e1
    | .exc x e1 => .exc x e1
    | .bad => .bad := rfl
theorem eAnd_eq (f g : M Bool) : eAnd f g e = match f e with
    | .ok true e1 => g e1
    | .ok false e1 => .ok false e1
    | .exc x e1 => .exc x e1
    | .bad => .bad := by
  unfold eAnd M.bind
  cases f e with
  | ok b e1 => cases b <;> rfl
  | _ => rfl
theorem eOr_eq (f g : M Bool) : eOr f g e = match f e with
    | .ok true e1 => .ok true e1
    | .ok false e1 => g e1
    | .exc x e1 => .exc x e1
    | .bad => .bad := by
  unfold eOr M.bind
  cases f e with
  | ok b e1 => cases b <;> rfl
  | _ => rfl
theorem eIf_eq (c : M Bool) (f g : M RV) : eIf c f g e = match c e with
    | .ok true e1 => f e1
    | .ok false e1 => g e1
    | .exc x e1 => .exc x e1
    | .bad => .bad := by
  unfold eIf M.bind
  cases c e with
  | ok b e1 => cases b <;> rfl
  | _ => rfl
theorem sIf_eq (c : M Bool) (g h : S) : sIf c g h e = match c e with
    | .ok true e1 => g e1
    | .ok false e1 => h e1
    | .exc x e1 => .exc x e1
    | .bad => .bad := by
  unfold sIf M.then
  cases c e with
  | ok b e1 => cases b <;> rfl
  | _ => rfl
theorem eBool_eq (f : M RV) : eBool f e = match (M.bind f M.get) e with
    | .ok (.bl b) e1 => .ok b e1
    | .ok _ e1 => .bad
    | .exc x e1 => .exc x e1
    | .bad => .bad := by
  unfold eBool M.bind
  cases f e with
  | ok r e1 =>
    simp only
    cases M.get r e1 with
    | ok d e2 => cases d <;> rfl
    | _ => rfl
  | _ => rfl
theorem eAndV_eq (f g : M RV) : eAndV f g e = match (M.bind f M.get) e with
    | .ok (.bl true) e1 => g e1
    | .ok (.bl false) e1 => .ok (.sh (.bl false)) e1
    | .ok _ e1 => .bad
    | .exc x e1 => .exc x e1
    | .bad => .bad := by
  unfold eAndV M.bind
  cases f e with
  | ok r e1 =>
    simp only
    cases M.get r e1 with
    | ok d e2 =>
      cases d with
      | bl b => cases b <;> rfl
      | _ => rfl
    | _ => rfl
  | _ => rfl
theorem eOrV_eq (f g : M RV) : eOrV f g e = match (M.bind f M.get) e with
    | .ok (.bl false) e1 => g e1
    | .ok (.bl true) e1 => .ok (.sh (.bl true)) e1
    | .ok _ e1 => .bad
    | .exc x e1 => .exc x e1
    | .bad => .bad := by
  unfold eOrV M.bind
  cases f e with
  | ok r e1 =>
    simp only
    cases M.get r e1 with
    | ok d e2 =>
      cases d with
      | bl b => cases b <;> rfl
      | _ => rfl
    | _ => rfl
  | _ => rfl
theorem eLc_eq (vs : List Nat) (f : M (List D)) (a : G) (tt : M Bool) (te : M RV) : eLc vs f a tt te e = match f e with
    | .ok ds e1 => (match M.wipe vs e1 with
      | .ok _ e2 => (match lcL vs a tt te ds e2 with
        | .ok ys e3 => if ys.length ≤ sizeLine then .ok (.fr (.lst ys)) e3 else .bad
        | .exc x e3 => .exc x e3
        | .bad => .bad)
      | .exc x e2 => .exc x e2
      | .bad => .bad)
    | .exc x e1 => .exc x e1
    | .bad => .bad := by
  unfold eLc M.bind
  cases f e with
  | ok ds e1 =>
    simp only
    cases M.wipe vs e1 with
    | ok u e2 =>
      simp only
      cases lcL vs a tt te ds e2 with
      | ok ys e3 =>
        simp only
        split <;> rfl
      | _ => rfl
    | _ => rfl
  | _ => rfl
theorem eTup_eq (fs : M (List D)) : eTup fs e = match fs e with
    | .ok ds e1 => if ds.length ≤ sizeLine then .ok (.sh (.tup ds)) e1 else .bad
    | .exc x e1 => .exc x e1
    | .bad => .bad := by
  unfold eTup M.bind
  cases fs e with
  | ok ds e1 => simp only; split <;> rfl
  | _ => rfl
theorem eLst_eq (fs : M (List D)) : eLst fs e = match fs e with
    | .ok ds e1 => if ds.length ≤ sizeLine then .ok (.fr (.lst ds)) e1 else .bad
    | .exc x e1 => .exc x e1
    | .bad => .bad := by
  unfold eLst M.bind
  cases fs e with
  | ok ds e1 => simp only; split <;> rfl
  | _ => rfl
theorem iSeq_eq (f : M RV) : iSeq f e = match (M.bind f M.esc) e with
    | .ok (.lst ds) e1 => .ok ds e1
    | .ok (.tup ds) e1 => .ok ds e1
    | .ok _ e1 => .bad
    | .exc x e1 => .exc x e1
    | .bad => .bad := by
  unfold iSeq
  rw [bind_eq]
  cases (M.bind f M.esc) e with
  | ok d e1 => cases d <;> rfl
  | _ => rfl
theorem iRng1D_eq (fs : M (List RV)) : iRng1D fs e = match (M.bind fs getAll) e with
    | .ok [.int j] e1 => if in62 j = true then .ok (rangeD 0 j.toNat) e1 else .bad
    | .ok _ e1 => .bad
    | .exc x e1 => .exc x e1
    | .bad => .bad := by
  unfold iRng1D
  rw [bind_eq, bind_eq]
  cases fs e with
  | ok rs e1 =>
    simp only
    rw [bind_eq]
    cases getAll rs e1 with
    | ok ds e2 =>
      match ds with
      | [.int j] => simp only; split <;> rfl
      | [] => rfl
      | [.non] | [.bl _] | [.str _] | [.tup _] | [.lst _] | [.dic _ _] | [.ins _ _] | [.raw _] | [.scr _] | [.xcp _ _] => rfl
      | .int _ :: _ :: _ | .non :: _ :: _ | .bl _ :: _ :: _ | .str _ :: _ :: _ | .tup _ :: _ :: _ | .lst _ :: _ :: _ | .dic _ _ :: _ :: _ | .ins _ _ :: _ :: _ | .raw _ :: _ :: _ | .scr _ :: _ :: _ | .xcp _ _ :: _ :: _ => rfl
    | _ => rfl
  | _ => rfl
theorem eFld_eq (C : Addr) (n : Str) (g : M RV) : eFld C n g e = match (M.bind g M.get) e with
    | .ok (.ins C' ds) e1 => if C' = C then (match ds.lookup n with
      | some x => .ok (.sh x) e1
      | none => .bad) else .bad
    | .ok _ e1 => .bad
    | .exc x e1 => .exc x e1
    | .bad => .bad := by
  unfold eFld M.bind
  cases g e with
  | ok r e1 =>
    simp only
    cases M.get r e1 with
    | ok d e2 =>
      cases d with
      | ins C' ds =>
        simp only
        split
        · cases ds.lookup n <;> rfl
        · rfl
      | _ => rfl
    | _ => rfl
  | _ => rfl
theorem eMeth_eq (C : Addr) (m : Str) (modes : List Bool) (G : Fn) (g : M RV) (fs : M (List RV)) : eMeth C m modes G g fs e = match (M.bind g M.esc) e with
    | .ok (.ins C' ds) e1 => if C' = C ∧ ds.lookup m = none then (match fs e1 with
      | .ok rs e2 => callM (false :: modes) G (.sh (.ins C' ds) :: rs) e2
      | .exc x e2 => .exc x e2
      | .bad => .bad) else .bad
    | .ok _ e1 => .bad
    | .exc x e1 => .exc x e1
    | .bad => .bad := by
  unfold eMeth
  rw [bind_eq]
  cases (M.bind g M.esc) e with
  | ok d e1 =>
    cases d with
    | ins C' ds =>
      simp only
      split
      · rw [bind_eq]; cases fs e1 <;> rfl
      · rfl
    | _ => rfl
  | _ => rfl
theorem eMut_eq (i : Nat) (dop : List D → List D → Option (List D)) (fs : M (List D)) : eMut i dop fs e = match (M.bind (eVar i) M.get) e with
    | .ok (.lst _) e0 => (match fs e0 with
      | .ok ds e1 => (match getE e1 i with
        | some (.sh, _) => .bad
        | some (f, .lst xs) => (match dop xs ds with
          | some ys => .ok (.sh .non) (e1.set i (some (f, .lst ys)))
          | none => .bad)
        | _ => .bad)
      | .exc x e1 => .exc x e1
      | .bad => .bad)
    | .ok _ _ => .bad
    | .exc x e1 => .exc x e1
    | .bad => .bad := by
  unfold eMut eVar
  rw [bind_eq, bind_eq]
  cases getE e i with
  | none => rfl
  | some v =>
    simp only
    rw [bind_eq]
    cases M.get (.sl i) e with
    | ok d e1 =>
      cases d with
      | lst ds =>
        simp only
        rw [bind_eq]
        cases fs e1 <;> rfl
      | _ => rfl
    | _ => rfl
theorem oSome_eq (f : M RV) : oSome f e = match (M.bind f M.get) e with
    | .ok (.int i) e1 => .ok (some i) e1
    | .ok _ e1 => .bad
    | .exc x e1 => .exc x e1
    | .bad => .bad := by
  unfold oSome M.bind
  cases f e with
  | ok r e1 =>
    simp only
    cases M.get r e1 with
    | ok d e2 => cases d <;> rfl
    | _ => rfl
  | _ => rfl
theorem rg1_eq (f : M RV) : rg1 f e = match (M.bind f M.get) e with
    | .ok (.int i) e1 => .ok (0, i) e1
    | .ok _ e1 => .bad
    | .exc x e1 => .exc x e1
    | .bad => .bad := by
  unfold rg1 M.bind
  cases f e with
  | ok r e1 =>
    simp only
    cases M.get r e1 with
    | ok d e2 => cases d <;> rfl
    | _ => rfl
  | _ => rfl
theorem eNotV_eq (f : M RV) : eNotV f e = match (M.bind f M.get) e with
    | .ok (.bl b) e1 => .ok (.sh (.bl (!b))) e1
    | .ok _ e1 => .bad
    | .exc x e1 => .exc x e1
    | .bad => .bad := by
  unfold eNotV M.bind
  cases f e with
  | ok r e1 =>
    simp only
    cases M.get r e1 with
    | ok d e2 => cases d <;> rfl
    | _ => rfl
  | _ => rfl
end
end Cw
namespace Cw
open PySem L2
def pI (q : Int → Bool) : D → Bool
  | .int i => q i
  | _ => false
theorem filter_pI (q : Int → Bool) (xs : List Int) : (ii xs).filter (pI q) = ii (xs.filter q) := by
  unfold ii
  rw [List.filter_map]
  rfl
/-- the integers that pass -/
theorem lcL_filt {vs : List Nat} {a : G} {tt : M Bool} {te : M RV} {e : En} (q : Int → Bool) {xs : List Int}
    (h : ∀ i, i ∈ xs → ∃ e1 e2, a (.int i) e = some e1 ∧ tt e1 = .ok (q i) e2 ∧ noMu e2 vs = true ∧ wipeE e2 vs = e ∧ M.bind te M.esc e2 = .ok (.int i) e2) : lcL vs a tt te (ii xs) e = .ok (ii (xs.filter q)) e := by
  have := lcL_pure (vs := vs) (a := a) (tt := tt) (te := te) (e := e) (pI q) (fun d => d) (ds := ii xs) fun d hd => by
    obtain ⟨i, hi, rfl⟩ := List.mem_map.mp hd
    obtain ⟨e1, e2, h1, h2, h3, h4, h5⟩ := h i hi
    exact ⟨e1, e2, h1, h2, fun _ => ⟨h3, h4⟩, fun _ => ⟨e2, h5, h3, h4⟩⟩
  rw [this, filter_pI, List.map_id']
theorem getD_gs {rs : List (List Int)} {k : Nat} (h : k < rs.length) : (gs rs)[k]? = some (.tup (ii rs[k])) := by
  unfold gs
  rw [List.getElem?_map, List.getElem?_eq_getElem h]
  rfl
/-- the rows from which somebody of g is -/
def hit (rs : List (List Int)) (g : List Int) (k : Nat) : Bool := g.any fun p => decide (p ∈ rs.getD k [])
def openI (rs : List (List Int)) (g : List Int) : List Int := (rg rs.length).filter fun i => hit rs g i.toNat
theorem dIx_gs (b : Bool) {rs : List (List Int)} {k : Nat} (h : k < rs.length) : dIx (if b then .lst (gs rs) else .tup (gs rs)) (.int (k : Int)) = some (false, .tup (ii rs[k])) := by
  cases b
  · exact dIx_tup (getD_gs h)
  · exact dIx_lst (getD_gs h)
theorem cut_to {α : Type} (xs : List α) (k : Nat) : cutG xs none (some (k : Int)) = xs.take k := by
  unfold cutG
  rw [HT.sIx_nat]
  show List.take (min k xs.length - 0) (xs.drop 0) = _
  rw [Nat.sub_zero, List.drop_zero]
  by_cases h : k ≤ xs.length
  · rw [Nat.min_eq_left h]
  · rw [Nat.min_eq_right (by omega), List.take_length, List.take_of_length_le (by omega)]
theorem cut_from {α : Type} (xs : List α) (k : Nat) : cutG xs (some (k : Int)) none = xs.drop k := by
  unfold cutG
  rw [HT.sIx_nat]
  show List.take (xs.length - min k xs.length) (xs.drop (min k xs.length)) = _
  by_cases h : k ≤ xs.length
  · rw [Nat.min_eq_left h, List.take_of_length_le (by rw [List.length_drop]; exact Nat.le_refl _)]
  · rw [Nat.min_eq_right (by omega), List.drop_of_length_le (Nat.le_refl _), List.drop_of_length_le (by omega)]
    simp
end Cw
namespace Cw
open PySem L2
/-- one turn of a loop -/
def fstep (a : G) (b : S) (d : D) : S := fun e => match a d e with
  | none => .bad
  | some e1 => match b e1 with
    | .ct e2 => .nx e2
    | r => r
theorem forS_inv {a : G} {b : S} (I : List D → En → Prop) {ds : List D} {e : En} (i : I [] e)
    (h : ∀ d pre post e, ds = pre ++ d :: post → I pre e → ∃ e2, fstep a b d e = .nx e2 ∧ I (pre ++ [d]) e2) : ∃ e', forL a b ds e = .nx e' ∧ I ds e' := by
  have := forL_inv (a := a) (b := b) I (ds := ds) (done := []) i fun d pre post e q j => by
    obtain ⟨e2, k1, k2⟩ := h d pre post e (by simpa using q) j
    unfold fstep at k1
    cases w : a d e with
    | none => rw [w] at k1; cases k1
    | some e1 =>
      rw [w] at k1
      simp only at k1
      refine ⟨e1, e2, rfl, ?_, k2⟩
      cases w2 : b e1 with
      | ct e3 => rw [w2] at k1; cases k1; exact .inr rfl
      | nx e3 => rw [w2] at k1; cases k1; exact .inl rfl
      | bk e3 => rw [w2] at k1; cases k1
      | rt r e3 => rw [w2] at k1; cases k1
      | exc x e3 => rw [w2] at k1; cases k1
      | bad => rw [w2] at k1; cases k1
  simpa using this
theorem forS_all {a : G} {b : S} (I : En → Prop) {ds : List D} {e : En} (i : I e) (h : ∀ d e, d ∈ ds → I e → ∃ e2, fstep a b d e = .nx e2 ∧ I e2) : ∃ e', forL a b ds e = .nx e' ∧ I e' :=
  forS_inv (fun _ => I) i fun d pre post e q j => h d e (by rw [q]; simp) j
end Cw
namespace Cw
open PySem L2
theorem rg_succ (n : Nat) : rg (n + 1) = rg n ++ [(n : Int)] := by
  unfold rg
  rw [List.range_succ, List.map_append]
  rfl
theorem rg_get {n k : Nat} (h : k < n) : (rg n)[k]? = some (k : Int) := by
  unfold rg
  rw [List.getElem?_map, List.getElem?_range h]
  rfl
theorem rg_take {n k : Nat} (h : k ≤ n) : (rg n).take k = rg k := by
  unfold rg
  rw [← List.map_take, List.take_range, Nat.min_eq_left h]
/-- where a loop over a range stands -/
theorem split_rg {n : Nat} {pre post : List D} {d : D} (h : ii (rg n) = pre ++ d :: post) : pre.length < n ∧ d = .int (pre.length : Int) ∧ pre = ii (rg pre.length) := by
  have hl := congrArg List.length h
  rw [ii_length, rg_length, List.length_append, List.length_cons] at hl
  have hlt : pre.length < n := by omega
  refine ⟨hlt, ?_, ?_⟩
  · have := congrArg (fun l => l[pre.length]?) h
    simp only [List.getElem?_append_right (Nat.le_refl _), Nat.sub_self, List.getElem?_cons_zero] at this
    unfold ii at this
    rw [List.getElem?_map, rg_get hlt] at this
    exact (Option.some.inj this).symm
  · have := congrArg (List.take pre.length) h
    rw [List.take_left'] at this
    · refine this.symm.trans ?_
      unfold ii
      rw [← List.map_take, rg_take (Nat.le_of_lt hlt)]
    · rfl
theorem NiceL.rg {n : Nat} {xs : List Int} (h : ∀ i, i ∈ xs → 0 ≤ i ∧ i < n) (hn : n ≤ 2 ^ 30) : NiceL 0 (xs.length * 42) (Cw.ii xs) :=
  NiceL.ii fun i hi => by have := h i hi; omega
end Cw

set_option maxHeartbeats 1000000
/-! Cw, part Xa: a try whose suite holds the exception as data. -/
namespace Cw
open PySem L2 PySem.Spec PyProof.Rows
theorem xco_ok {P : Program} {w : World} {H : Hp} {h : Heap} {a : Addr} {cls : Value} {d : Option Addr} {oe : Obj} {vs : Array Value} (ha : h.get? a = some oe) (hz : Zc cls d oe) (hd : oe.data = .fields vs) : ObjOk P w H h a (xco a cls d) :=
  ⟨⟨oe, vs, ha, hz, hd⟩, ⟨oe, ha⟩, fun h1 h2 ⟨o, vs, q, z, e⟩ k => ⟨o, vs, k _ q, z, e⟩⟩
theorem xco_at {P : Program} {w : World} {H : Hp} {h : Heap} {a : Addr} {cls : Value} {d : Option Addr} (hok : HOk P w H h) (e : H a = some (xco a cls d)) : ∃ o vs, h.get? a = some o ∧ Zc cls d o ∧ o.data = .fields vs := by
  have x : ObjOk P w H h a (.ext fun h => ∃ o vs, h.get? a = some o ∧ Zc cls d o ∧ o.data = .fields vs) := hok a _ e
  exact x.1
theorem inv_track {X : Cx} {pins : List (Addr × Obj)} {σ : L2.St} {H : Hp} {s : Shared} {a : Addr} {cls : Value} {d : Option Addr} {oe : Obj} {vs : Array Value} (I : Inv X pins σ H s) (ha : s.heap.get? a = some oe) (hz : Zc cls d oe) (hd : oe.data = .fields vs) (na : H a = none)
    (nL : a ≠ X.env.locals) (n0 : X.s_0.heap.get? a = none) (np : ∀ p ∈ X.pn ++ pins, p.1 ≠ a) : Inv X pins σ (upd H a (xco a cls d)) s := by
  refine ⟨I.ok, I.os, I.bare, ⟨I.base.keep, I.base.slot, fun b o e n hx => ?_, I.base.there, fun b xs e => ?_, fun b o u e => ?_, fun b ps e => ?_⟩, I.loc, I.cell, ?_, fun x c e => ?_, fun p hp => ?_, fun b o q => ?_, I.len⟩
  · have hb : b ≠ a := fun z => by rw [z, n0] at e; cases e
    rw [upd_ne hb]; exact I.base.free b o e n hx
  · have q := I.base.tups b xs e
    rw [upd_ne (ne_of_none q na)]; exact q
  · have q := I.base.frzs b o u e
    rw [upd_ne (ne_of_none q na)]; exact q
  · obtain ⟨m, q⟩ := I.base.tbls b ps e
    exact ⟨m, by rw [upd_ne (ne_of_none q na)]; exact q⟩
  · rw [upd_ne (Ne.symm nL)]; exact I.free
  · have hc : c ≠ a := fun z => by
      obtain ⟨v, o, h1, h2⟩ := I.cell x c e
      rw [z, ha] at h1
      have := Option.some.inj h1
      subst this
      rw [hd] at h2; cases h2
    rw [upd_ne hc]; exact I.freeC x c e
  · obtain ⟨h1, h2, h3⟩ := I.pin p hp
    exact ⟨h1, by rw [upd_ne (np p hp)]; exact h2, h3⟩
  · by_cases hb : b = a
    · subst hb
      rw [upd_same] at q; cases q
      exact xco_ok ha hz hd
    · rw [upd_ne hb] at q
      exact (I.hok b o q).stay (fun _ _ _ z => z) (fun c hc => by rw [upd_ne (ne_of_none hc na)]; exact hc) fun c xs hc => by rw [upd_ne (ne_of_none hc na)]; exact hc
theorem inv_suiteT {X : Cx} {pins : List (Addr × Obj)} {σ : L2.St} {H : Hp} {s : Shared} {a : Addr} (I : Inv X pins σ H s) : Inv (X.suite a (X.pn ++ pins)) [] σ H s :=
  ⟨I.ok.suite _ _, I.os, I.bare, I.base, I.loc, I.cell, I.free, I.freeC, fun p hp => I.pin p (by rw [List.append_nil] at hp; exact hp), I.hok, I.len⟩
theorem inv_unsuiteT {X : Cx} {pins pn' : List (Addr × Obj)} {σ : L2.St} {H : Hp} {s : Shared} {a : Addr} (I : Inv (X.suite a (X.pn ++ pins)) pn' σ H s) (ok : X.Ok) : Inv X pins σ H s :=
  ⟨ok, I.os, I.bare, I.base, I.loc, I.cell, I.free, I.freeC, fun p hp => I.pin p (List.mem_append_left _ hp), I.hok, I.len⟩
/-- what 'except x as n' wishes: the exception is tracked -/
def wAsT (K : Fg) (c : Value) (i : Nat) (ts : TS) (Wout : WX) (D : Ends) : WX := fun cls d σ H =>
  ∃ b, PySem.W.exmOne K cls c = some b ∧ (b = true → ∀ a, H a = none → ts { nx := fun σ' H' => D.nx (σ'.set i none) H', rt := D.rt, bk := fun σ' H' => D.bk (σ'.set i none) H', ct := fun σ' H' => D.ct (σ'.set i none) H' } (σ.set i (some (.ref a))) (upd H a (xco a cls d))) ∧
    (b = false → Wout cls d σ H)
section
variable {X : Cx} {x n : Str} {c : Value} {i : Nat} {body suite : List Stmt} {b₀ : Stmt} {np pos pos' : Pos} {tb : WX → TS} {ts : TS} {Wout : WX}
theorem ps_try_asT (hs : X.stack = X.env :: X.outer) (hf : X.env.frame = some X.env.locals) (hex : X.ex = []) (hN : X.N.Nodup) (hi : X.N[i]? = some n) (hln : X.env.kindOf n = some .local) (hc : Names X x c) (tk : Takes X Wout)
    (hb : ∀ (W : WX) (pn : List (Addr × Obj)) (xe : Value → Shared → Prop), Takes (X.tr pn xe) W → PassesOwn (model X.prog X.w) X.A X.env xe → PSs (X.tr pn xe) body (tb W))
    (hsu : ∀ (a : Addr) (pn : List (Addr × Obj)), PSs (X.suite a pn) (b₀ :: suite) ts) :
    PS X (.Try body [.ExceptHandler (some (.Name x np)) (some n) (b₀ :: suite) pos'] [] [] pos) (fun D σ H => tb (wAsT X.K c i ts Wout D) D σ H) := by
  refine ⟨fun pins s σ H D I h => ?_⟩
  have ok := I.ok
  have hfr : X.A.frames = some (X.env :: X.outer) := by rw [ok.frames, hs]
  have hloc : Loc X.env.scope n := .inl hln
  refine wpAny_Try_except ?_
  refine wpAny_mono ((hb (wAsT X.K c i ts Wout D) (X.pn ++ pins) (fun e s₁ => wpAny (model X.prog X.w) X.A (noteFrame e X.env) (fun _ s₂ => wpAny (model X.prog X.w) X.A (setFlight e none) (fun _ s₃ =>
    wpAny (model X.prog X.w) X.A (handleBy e X.env [.ExceptHandler (some (.Name x np)) (some n) (b₀ :: suite) pos']) (SP X pins D) X.xe s₃) X.xe s₂) X.xe s₁) (fun u s' xx => ?_) PassesOwn.looking).run [] s σ H D (I.toTry _) h) (fun f s1 hsp => ?_) (fun e s1 he => he)
  · obtain ⟨a, B, sI, pins', σ', H', cls, d, rfl, J', nb, up, sky, na, os, ag, b, hb1, hyes, hno⟩ := xx
    have J : Inv X pins σ' H' sI := J'.ofTry ok
    have sky' : Sky B (X.env :: X.outer) a (Zc cls d) X.env.locals s'.heap := by rw [← hs]; exact sky
    show wpAny (model X.prog X.w) X.A (noteFrame (.ref a) X.env) _ _ _
    refine Sky.land Zc.steady hfr hf sky' fun h3 fl3 up3 => ?_
    have J3 : Inv X pins σ' H' { s' with heap := h3 } := J.landed nb fl3.1 (up.trans up3) os ag
    obtain ⟨oe3, vs3, he3, hz3, hd3⟩ := fl3.there
    have notFr : ∀ {h : Heap} {o : Obj} {vs : Array Value}, h.FunFrames B (X.env :: X.outer) → h.get? a = some o → o.data = .fields vs → a ∉ frs (X.env :: X.outer) := fun {h o vs} ff e dd hm => by
      obtain ⟨_, o', e', hnf⟩ := ff.mem hm
      rw [e] at e'; cases e'
      exact hnf _ dd
    have nfr := notFr fl3.2.2.1 he3 hd3
    have nL : a ≠ X.env.locals := fun z => nfr (List.mem_filterMap.mpr ⟨X.env, List.mem_cons_self, by rw [hf, z]⟩)
    have aI : sI.heap.get? a = none := by
      cases q : sI.heap.get? a with
      | none => rfl
      | some o =>
        have := nb a o q (by rw [hs]; exact nfr)
        rw [fl3.2.1] at this; cases this
    have n0 : X.s_0.heap.get? a = none := by
      cases q : X.s_0.heap.get? a with
      | none => rfl
      | some o =>
        obtain ⟨o', q'⟩ := J.base.there a o q (by rw [hex]; simp)
        rw [aI] at q'; cases q'
    have npn : ∀ p ∈ X.pn ++ pins, p.1 ≠ a := fun p hp z => by
      have := (J.pin p hp).1
      rw [z, aI] at this; cases this
    have S3 : Inv (X.suite a (X.pn ++ pins)) [] σ' H' { s' with heap := h3 } := inv_suiteT J3
    refine wpAny_handleBy_cons (codeAny_handlers_test ?_) (by intro q; cases q)
    have LT : PySem.W.Looks (model X.prog X.w) h3 (typeOf (.ref a)) cls := fun A Q E s k q => wpAny_typeOf_ref (k _ _ he3) (by rw [hz3.1]; exact q)
    have LM := PySem.W.exm_one (M := model X.prog X.w) (J3.kIn) LT hb1
    have test : ∀ {Q : Value → Shared → Prop} {E : Value → Shared → Prop}, Q c { s' with heap := h3 } → wpAny (model X.prog X.w) (X.A.mark (some (.ref a))) (eval (.Name x np) X.env) Q E { s' with heap := h3 } := fun {Q E} q => by
      obtain ⟨hg, hdbg, hm | ⟨hm, hv, hnn⟩⟩ := hc
      · exact ld_glob (X := X.suite a (X.pn ++ pins)) S3 hg hm q hdbg
      · exact ld_blt (X := X.suite a (X.pn ++ pins)) S3 hg hm hv q hnn hdbg
    refine test (LM.here ?_)
    cases b with
    | true =>
      refine codeAny_handlers_suite_as ?_
      refine HandSPX.lands_againZ fl3 fun h4 fl4 up4 => ?_
      have J4 : Inv X pins σ' H' { s' with heap := h4 } := J.landed nb fl4.1 ((up.trans up3).trans up4) os ag
      obtain ⟨oe4, vs4, he4, hz4, hd4⟩ := fl4.there
      have S4 : Inv (X.suite a (X.pn ++ pins)) [] σ' (upd H' a (xco a cls d)) { s' with heap := h4 } := inv_suiteT (inv_track J4 he4 hz4 hd4 na nL n0 npn)
      refine store_ok (X := X.suite a (X.pn ++ pins)) (v := .ref a) S4 hN hi hloc rfl (fun s5 S5 => ?_) (.inr hln)
      refine wpAny_mono ((hsu a (X.pn ++ pins)).run [] s5 _ _ _ S5 (hyes rfl a na)) (fun f s6 hsp => ?_) (fun _ _ z => False.elim z)
      have end_ : ∀ {σ6 : L2.St} {H6 : Hp} {Q : Shared → Prop}, Inv (X.suite a (X.pn ++ pins)) [] σ6 H6 s6 → (∀ s7, Inv X pins (σ6.set i none) H6 s7 → Q s7) →
          wpAny (model X.prog X.w) X.A (do bindName X.env n .none; unbindBehindTheSuite X.env n pos') (fun _ s7 => Q s7) X.xe s6 := fun {σ6 H6 Q} S6 hq => gone_ok (inv_unsuiteT S6 ok) hN hi hln hq
      cases f with
      | next =>
        obtain ⟨σ6, H6, S6, q6⟩ := hsp
        exact end_ S6 fun s7 J7 => ⟨_, _, J7, q6⟩
      | brk =>
        obtain ⟨σ6, H6, S6, q6⟩ := hsp
        exact end_ S6 fun s7 J7 => ⟨_, _, J7, q6⟩
      | cont =>
        obtain ⟨σ6, H6, S6, q6⟩ := hsp
        exact end_ S6 fun s7 J7 => ⟨_, _, J7, q6⟩
      | ret u =>
        obtain ⟨v6, σ6, H6, S6, r6, q6⟩ := hsp
        exact end_ S6 fun s7 J7 => ⟨_, _, _, J7, r6, q6⟩
    | false =>
      show wpAny _ X.A (handleBy (.ref a) X.env []) _ _ _
      refine wpAny_handleBy_nil ?_
      obtain ⟨k1, k2, k3, oe, vs, T, oT, ts', he, hz, hd, h1, hr⟩ := id fl3
      unfold PySem.passOn
      refine wpAny_bind (wpAny_field he hd h1 ?_)
      rw [if_neg (show ¬ ((Value.ref T == Value.none) = true) from by simp)]
      have fin : wpAny (model X.prog X.w) X.A (setFlight (.ref a) X.env.frame) (fun _ s4 => wpAny (model X.prog X.w) X.A (throw (.ref a) : Sem Flow) (SP X pins D) X.xe s4) X.xe { s' with heap := h3 } := by
        rw [hf]
        refine HandSPX.setFlight_upZ fl3 fun h4 hh4 up4 => wpAny_throw (tk _ _ ?_)
        exact ⟨a, B, sI, pins, σ', H', cls, d, rfl, J, nb, (up.trans up3).trans up4, .inr (.inr (by rw [hs]; exact hh4)), na, os, ag, hno rfl⟩
      first
        | exact wpAny_bind (wpAny_pure (wpAny_bind fin))
        | exact wpAny_bind fin
  · cases f with
    | next =>
      obtain ⟨σ', H', J', q⟩ := hsp
      exact wpAny_execs_nil ⟨σ', H', J'.ofTry ok, q⟩
    | brk =>
      obtain ⟨σ', H', J', q⟩ := hsp
      exact ⟨σ', H', J'.ofTry ok, q⟩
    | cont =>
      obtain ⟨σ', H', J', q⟩ := hsp
      exact ⟨σ', H', J'.ofTry ok, q⟩
    | ret u =>
      obtain ⟨v, σ', H', J', r, q⟩ := hsp
      exact ⟨v, σ', H', J'.ofTry ok, r, q⟩
end
end Cw

set_option maxHeartbeats 1000000
/-! Cw, part Xb: try, raise; slots forgotten and frozen. -/
namespace Cw
open PySem L2
/-! ### slots forgotten, frozen -/
def fgt (vs : List Nat) : SR → SR
  | .nx e => if noMu e vs = true then .nx (wipeE e vs) else .bad
  | .ct e => if noMu e vs = true then .ct (wipeE e vs) else .bad
  | r => r
def sFgt (vs : List Nat) (g : S) : S := fun e => fgt vs (g e)
section
variable {W : Wx} {K : Fg} {F F' : Fx} {σ σ' : St} {H H' : Hp} {e e' : En}
theorem Post.wipe {vs : List Nat} (p : Post K F σ H e F' σ' H' e') (nm : noMu e' vs = true) : Post K F σ H e F' σ' H' (wipeE e' vs) := by
  obtain ⟨R, ow⟩ := p.rel.wipe' (σ' := σ') nm rfl fun _ _ => rfl
  exact ⟨R, p.stp, fun a z => p.ow a (ow a z), p.le⟩
theorem fgt_of {vs : List Nat} {Dn : Ends} {r : SR} (h : SAft W K F σ H e Dn (fgt vs r)) : SAft W K F σ H e Dn r := by
  cases r with
  | nx e1 =>
    have h : SAft W K F σ H e Dn (if noMu e1 vs = true then .nx (wipeE e1 vs) else .bad) := h
    by_cases nm : noMu e1 vs = true
    · rw [if_pos nm] at h
      exact fun F' σ' H' p => h F' σ' H' (p.wipe nm)
    · rw [if_neg nm] at h
      exact h.elim
  | ct e1 =>
    have h : SAft W K F σ H e Dn (if noMu e1 vs = true then .ct (wipeE e1 vs) else .bad) := h
    by_cases nm : noMu e1 vs = true
    · rw [if_pos nm] at h
      exact fun F' σ' H' p => h F' σ' H' (p.wipe nm)
    · rw [if_neg nm] at h
      exact h.elim
  | bk e1 => exact h
  | rt r e1 => exact h
  | exc x e1 => exact h
  | bad => exact h
/-- an owned slot, frozen -/
def frzE (e : En) : List Nat → En
  | [] => e
  | i :: vs => match getE e i with
    | some (.ow, d) => frzE (e.set i (some (.sh, d))) vs
    | _ => frzE e vs
theorem Post.frz : ∀ {vs : List Nat} {e' : En}, Post K F σ H e F' σ' H' e' → Post K F σ H e F' σ' H' (frzE e' vs)
  | [], e', p => p
  | i :: vs, e', p => by
    unfold frzE
    split
    · rename_i d w
      obtain ⟨r1, r2, _⟩ := p.rel.freeze w
      exact Post.frz ⟨r1, p.stp, fun a z => p.ow a (r2 a z), p.le⟩
    · exact Post.frz p
def frz (vs : List Nat) : SR → SR
  | .nx e => .nx (frzE e vs)
  | .ct e => .ct (frzE e vs)
  | r => r
def sFrz (vs : List Nat) (g : S) : S := fun e => frz vs (g e)
theorem frz_of {vs : List Nat} {Dn : Ends} {r : SR} (h : SAft W K F σ H e Dn (frz vs r)) : SAft W K F σ H e Dn r := by
  cases r with
  | nx e1 => exact fun F' σ' H' p => h F' σ' H' p.frz
  | ct e1 => exact fun F' σ' H' p => h F' σ' H' p.frz
  | bk e1 => exact h
  | rt r e1 => exact h
  | exc x e1 => exact h
  | bad => exact h
end
section
variable {X : Cx} {W : Wx} {st : Stmt} {b : List Stmt} {g : S}
theorem pds_fgt {vs : List Nat} (h : PDS X W st g) : PDS X W st (sFgt vs g) := ps_imp h fun Dn σ H ⟨F, e, R, q⟩ => ⟨F, e, R, fgt_of q⟩
theorem pdb_fgt {vs : List Nat} (h : PDB X W b g) : PDB X W b (sFgt vs g) := pss_imp h fun Dn σ H ⟨F, e, R, q⟩ => ⟨F, e, R, fgt_of q⟩
theorem pds_frz {vs : List Nat} (h : PDS X W st g) : PDS X W st (sFrz vs g) := ps_imp h fun Dn σ H ⟨F, e, R, q⟩ => ⟨F, e, R, frz_of q⟩
theorem pdb_frz {vs : List Nat} (h : PDB X W b g) : PDB X W b (sFrz vs g) := pss_imp h fun Dn σ H ⟨F, e, R, q⟩ => ⟨F, e, R, frz_of q⟩
end
/-! ### try .. except C as n -/
def fixT (i : Nat) : SR → SR
  | .nx e => if noMu e [i] = true then .nx (wipeE e [i]) else .bad
  | .bk e => if noMu e [i] = true then .bk (wipeE e [i]) else .bad
  | .ct e => if noMu e [i] = true then .ct (wipeE e [i]) else .bad
  | .rt r e => .rt r e
  | _ => .bad
def sTry (test : Value → Option Bool) (i : Nat) (b s : S) : S := fun e => match b e with
  | .exc x e1 => (match test x.cls with
    | some true => if isMu e1 i = true then .bad else fixT i (s (e1.set i (some (.sh, .xcp x.cls x.fs))))
    | some false => .exc x e1
    | none => .bad)
  | r => r
theorem rp_xcp {K : Fg} {B : Ad} {H : Hp} {cls : Value} {d : Option Addr} {x : Xc} {a : Addr} (hx : XcOk K B H cls d x) (na : H a = none) (nb : ¬ B a) : Rp K B (upd H a (xco a cls d)) (.ref a) (.xcp x.cls x.fs) := by
  obtain ⟨e1, h2⟩ := hx
  subst e1
  have sm : Same H (upd H a (xco a x.cls d)) := same_upd na
  cases hf : x.fs with
  | nil =>
    rw [hf] at h2
    cases h2
    exact .xc0 nb upd_same
  | cons y ys =>
    rw [hf] at h2
    obtain ⟨dd, vs, e1, nd, e2, r⟩ := h2
    subst e1
    exact .xc1 nb upd_same nd (sm _ _ e2) (r.step (fun _ _ q _ => sm _ _ q) fun _ z => .inl z)
section
variable {X : Cx} {W : Wx} {x n : Str} {c : Value} {i : Nat} {body suite : List Stmt} {b₀ : Stmt} {np pos pos' : Pos} {g s : S} {test : Value → Option Bool}
theorem pds_try (hs : X.stack = X.env :: X.outer) (hf : X.env.frame = some X.env.locals) (hex : X.ex = []) (hN : X.N.Nodup) (hi : X.N[i]? = some n) (hln : X.env.kindOf n = some .local) (hc : Names X x c) (tk : Takes X W)
    (ht : ∀ cls b, test cls = some b → PySem.W.exmOne X.K cls c = some b)
    (hb : ∀ (W : WX) (pn : List (Addr × Obj)) (xe : Value → Shared → Prop), Takes (X.tr pn xe) W → PassesOwn (model X.prog X.w) X.A X.env xe → PDB (X.tr pn xe) W body g)
    (hsu : ∀ (a : Addr) (pn : List (Addr × Obj)), PDB (X.suite a pn) Wno (b₀ :: suite) s) :
    PDS X W (.Try body [.ExceptHandler (some (.Name x np)) (some n) (b₀ :: suite) pos'] [] [] pos) (sTry test i g s) := by
  refine ps_imp (ps_try_asT (tb := fun W' => tS W' X.K g) (ts := tS Wno X.K s) (Wout := W) hs hf hex hN hi hln hc tk hb hsu) fun D σ H ⟨F, e, R, h⟩ => ⟨F, e, R, ?_⟩
  unfold sTry at h
  cases w : g e with
  | nx e1 => rw [w] at h; exact h
  | bk e1 => rw [w] at h; exact h
  | ct e1 => rw [w] at h; exact h
  | rt r e1 => rw [w] at h; exact h
  | bad => rw [w] at h; exact h
  | exc xx e1 =>
    rw [w] at h
    simp only at h
    intro cls d F' σ' H' p hx
    have ecl : cls = xx.cls := hx.1
    cases wt : test xx.cls with
    | none => rw [wt] at h; exact h.elim
    | some b =>
      rw [wt] at h
      refine ⟨b, by rw [ecl]; exact ht _ _ wt, fun eb a na => ?_, fun eb => ?_⟩
      · subst eb
        simp only at h
        split at h
        · exact h.elim
        · rename_i hmu
          have nb : ¬ Bd F' σ' e1 a := fun z => p.rel.trk a z na
          have sm : Same H' (upd H' a (xco a cls d)) := same_upd na
          have R1 := p.rel.same sm
          have rp := rp_xcp hx na nb
          obtain ⟨R2, ow⟩ := R1.setSh (i := i) rp (isMu_ne hmu)
          have p2 : Post X.K F σ H e F' (σ'.set i (some (.ref a))) (upd H' a (xco a cls d)) (e1.set i (some (.sh, .xcp xx.cls xx.fs))) :=
            p.trans ⟨R2, .same sm, fun b z => .inl (ow b z), .refl⟩
          refine ⟨F', _, R2, ?_⟩
          have h := SAft.post p2 h
          have fin : ∀ {F9 σ9 H9 e9}, Post X.K F' (σ'.set i (some (.ref a))) (upd H' a (xco a cls d)) (e1.set i (some (.sh, .xcp xx.cls xx.fs))) F9 σ9 H9 e9 → noMu e9 [i] = true →
              Post X.K F' (σ'.set i (some (.ref a))) (upd H' a (xco a cls d)) (e1.set i (some (.sh, .xcp xx.cls xx.fs))) F9 (σ9.set i none) H9 (wipeE e9 [i]) := fun {F9 σ9 H9 e9} q nm => by
            obtain ⟨R9, ow9⟩ := q.rel.wipe' (σ' := σ9.set i none) nm (by rw [List.length_set]) fun j hj => getS_set_ne fun z => hj (by rw [z]; exact List.mem_singleton.mpr rfl)
            exact ⟨R9, q.stp, fun b z => q.ow b (ow9 b z), q.le⟩
          cases w9 : s (e1.set i (some (.sh, .xcp xx.cls xx.fs))) with
          | nx e9 =>
            rw [w9] at h
            have h : SAft W X.K F' (σ'.set i (some (.ref a))) (upd H' a (xco a cls d)) (e1.set i (some (.sh, .xcp xx.cls xx.fs))) D (if noMu e9 [i] = true then .nx (wipeE e9 [i]) else .bad) := h
            by_cases nm : noMu e9 [i] = true
            · rw [if_pos nm] at h
              exact fun F9 σ9 H9 q => h F9 _ H9 (fin q nm)
            · rw [if_neg nm] at h
              exact h.elim
          | bk e9 =>
            rw [w9] at h
            have h : SAft W X.K F' (σ'.set i (some (.ref a))) (upd H' a (xco a cls d)) (e1.set i (some (.sh, .xcp xx.cls xx.fs))) D (if noMu e9 [i] = true then .bk (wipeE e9 [i]) else .bad) := h
            by_cases nm : noMu e9 [i] = true
            · rw [if_pos nm] at h
              exact fun F9 σ9 H9 q => h F9 _ H9 (fin q nm)
            · rw [if_neg nm] at h
              exact h.elim
          | ct e9 =>
            rw [w9] at h
            have h : SAft W X.K F' (σ'.set i (some (.ref a))) (upd H' a (xco a cls d)) (e1.set i (some (.sh, .xcp xx.cls xx.fs))) D (if noMu e9 [i] = true then .ct (wipeE e9 [i]) else .bad) := h
            by_cases nm : noMu e9 [i] = true
            · rw [if_pos nm] at h
              exact fun F9 σ9 H9 q => h F9 _ H9 (fin q nm)
            · rw [if_neg nm] at h
              exact h.elim
          | rt r e9 => rw [w9] at h; exact h
          | exc x9 e9 => rw [w9] at h; exact h.elim
          | bad => rw [w9] at h; exact h
      · subst eb
        exact h cls d F' σ' H' p hx
end
end Cw

set_option maxHeartbeats 1000000
/-! Cw, part Xc: raise C(..) of an own error class whose __init__ keeps its arguments. -/
namespace Cw
open PySem L2
/-- what the __init__ of such a class does: ns the fields -/
def spI (K : Fg) (C : Addr) (ns : List Str) : Sp := fun vs H Q _ => ∃ a ws, vs = .ref a :: ws ∧ ws.length = ns.length ∧ H a = some (exo a C none) ∧
  match ns with
  | [] => Q .non H
  | _ => ∀ dx H2, H dx = none → dx ≠ a → H2 a = some (exo a C (some dx)) → H2 dx = some (exd dx (ns.zip ws).reverse) → (∀ b, b ≠ a → b ≠ dx → H2 b = H b) → Q .non H2
section
variable {X : Cx} {e : Expr} {es : List Expr} {ta : TA} {p p1 p2 pos : Pos}
theorem pe_crinit {pl : Sem Bool} {x : Str} {CE : Addr} (hg : Gl X x) (hm : X.mg x = some (.ref CE)) (r : ClX.CRead X.K CE (.type "type")) (vV : PySem.W.findCls X.K (.ref CE) (.type "type") "__init__" = some (.val (.builtin "ValueError.__init__"))) (ha : PA X (e :: es) ta)
    (hc : eval (.Call (.Attribute (.Name x p1) "__init__" p2) (e :: es) [] pos) X.env = (do
      let ov ← eval (.Name x p1) X.env
      standAt p2.atName
      let (f, first) ← holding [ov] (getMethod ov "__init__" pl)
      callWith pos f first (backTo pos (starEach (e :: es) X.env)) (backToKw pos (keywordEach [] X.env))) := by rfl)
    (he : starEach (e :: es) X.env = (false, eval e X.env) :: starEach es X.env := by rfl) (hpl : (backTo pos (starEach es X.env)).any (·.1) = false := by rfl) (hdb : (x == ("__debug__" : Str)) = false := by decide) :
    PE X (.Call (.Attribute (.Name x p1) "__init__" p2) (e :: es) [] pos) (tVeI X.K ta) := by
  refine ⟨fun pins s σ H Q I h => ?_⟩
  refine PySem.W.methodCall_KW (ld_glob I hg hm ?_ hdb) hc
  refine PySem.W.method_cls I.kIn r.ga (PySem.W.cls_value I.kIn r.rd vV (by decide +kernel) ?_)
  show wpAny _ _ (callWith pos (Value.builtin "ValueError.__init__") [] (backTo pos (starEach (e :: es) X.env)) []) _ _ _
  refine PyProof.Rows.callWith_method1 (thn (ha.run pos pins _ σ H _ (I.tok _) h) fun us s1 ⟨vs, H1, I1, r1, a, C, ws, ev, hl, T, ea, q⟩ => ?_) he hpl
  subst ev
  cases r1 with
  | @cons _ u0 _ ur ra rw' =>
    obtain rfl : u0 = Value.ref a := ra
    have hlen : ur.length ≤ sizeLine := by
      rw [← Paired.length rw', sizeLine_eq]
      omega
    exact oinit_ok T I1 ea hlen fun s' J => ⟨.non, H1, J, rfl, q⟩
end
section
variable {P : Program} {w : World} {K : Fg} {mg : Str → Option Value} {base : Heap} {qual : Str} {st : Stmt} {f C : Addr} {fd : FuncData} {m n1 n2 n3 : Str}
theorem spI_len {ns : List Str} (vs : List V) (H : Hp) (Q : VK) (E : XK) (h : spI K C ns vs H Q E) : vs.length = (("self" : Str) :: ns).length := by
  obtain ⟨a, ws, rfl, hl, _⟩ := h
  simp [hl]
theorem init0 (T : OexC K C) (F : Fun K "__init__" qual st f fd) (Sc : FnScope ["self"] ["self"] (defScope st))
    (hb : ∀ (cdv : Value) (A : Around) (outer : List PySem.Env) (s : Shared) (H : Hp) (E : XK), PSs (cxOf CX0 P w K mg base ["self"] qual (defScope st) f cdv A outer s H E).nox (defBody st) (tDrop (tVeI K (tCons (tVar 0) (tCons (tC (.str m)) tNil))))) :
    FnOk P w K mg base CX0 1 f fd ["self"] (spI K C []) :=
  Fun.ok F Sc spI_len fun cdv A outer s H vs Q E hr h => ⟨_, hb cdv A outer s H E, by
    obtain ⟨a, ws, rfl, hl, ea, q⟩ := h
    have : ws = [] := List.length_eq_zero_iff.mp hl
    subst this
    exact ⟨_, rfl, a, C, [.str m], rfl, by simp, T, ea, q⟩⟩
theorem init1 (T : OexC K C) (h1 : PySem.W.findIn K (.ref C) n1 = some none) (F : Fun K "__init__" qual st f fd) (Sc : FnScope ["self", n1] ["self", n1] (defScope st))
    (hb : ∀ (cdv : Value) (A : Around) (outer : List PySem.Env) (s : Shared) (H : Hp) (E : XK), PSs (cxOf CX0 P w K mg base ["self", n1] qual (defScope st) f cdv A outer s H E).nox (defBody st) (tSeq (tDrop (tVeI K (tCons (tVar 0) (tCons (tC (.str m)) tNil)))) (tOst K n1 (tVar 0) (tVar 1)))) :
    FnOk P w K mg base CX0 1 f fd ["self", n1] (spI K C [n1]) :=
  Fun.ok F Sc spI_len fun cdv A outer s H vs Q E hr h => ⟨_, hb cdv A outer s H E, by
    obtain ⟨a, ws, rfl, hl, ea, q⟩ := h
    match ws, hl with
    | [y1], _ =>
      refine ⟨_, rfl, a, C, [.str m], rfl, by simp, T, ea, _, rfl, _, rfl, a, C, rfl, T, h1, .inl ⟨ea, fun dx nd ne => ?_⟩⟩
      refine q dx _ nd ne upd_same (by rw [upd_ne ne, upd_same]; rfl) fun b ha hd => by rw [upd_ne ha, upd_ne hd]⟩
theorem init2 (T : OexC K C) (h1 : PySem.W.findIn K (.ref C) n1 = some none) (h2 : PySem.W.findIn K (.ref C) n2 = some none) (F : Fun K "__init__" qual st f fd) (Sc : FnScope ["self", n1, n2] ["self", n1, n2] (defScope st))
    (hb : ∀ (cdv : Value) (A : Around) (outer : List PySem.Env) (s : Shared) (H : Hp) (E : XK), PSs (cxOf CX0 P w K mg base ["self", n1, n2] qual (defScope st) f cdv A outer s H E).nox (defBody st)
      (tSeq (tDrop (tVeI K (tCons (tVar 0) (tCons (tC (.str m)) tNil)))) (tSeq (tOst K n1 (tVar 0) (tVar 1)) (tOst K n2 (tVar 0) (tVar 2))))) :
    FnOk P w K mg base CX0 1 f fd ["self", n1, n2] (spI K C [n1, n2]) :=
  Fun.ok F Sc spI_len fun cdv A outer s H vs Q E hr h => ⟨_, hb cdv A outer s H E, by
    obtain ⟨a, ws, rfl, hl, ea, q⟩ := h
    match ws, hl with
    | [y1, y2], _ =>
      refine ⟨_, rfl, a, C, [.str m], rfl, by simp, T, ea, _, rfl, _, rfl, a, C, rfl, T, h1, .inl ⟨ea, fun dx nd ne => ?_⟩⟩
      refine ⟨_, rfl, _, rfl, a, C, rfl, T, h2, .inr ⟨dx, [(n1, y1)], upd_same, by rw [upd_ne ne, upd_same], by simp, ?_⟩⟩
      refine q dx _ nd ne (by rw [upd_ne (Ne.symm ne), upd_same]) (by rw [upd_same]; rfl) fun b ha hd => by rw [upd_ne hd, upd_ne ha, upd_ne hd]⟩
theorem init3 (T : OexC K C) (h1 : PySem.W.findIn K (.ref C) n1 = some none) (h2 : PySem.W.findIn K (.ref C) n2 = some none) (h3 : PySem.W.findIn K (.ref C) n3 = some none) (F : Fun K "__init__" qual st f fd) (Sc : FnScope ["self", n1, n2, n3] ["self", n1, n2, n3] (defScope st))
    (hb : ∀ (cdv : Value) (A : Around) (outer : List PySem.Env) (s : Shared) (H : Hp) (E : XK), PSs (cxOf CX0 P w K mg base ["self", n1, n2, n3] qual (defScope st) f cdv A outer s H E).nox (defBody st)
      (tSeq (tDrop (tVeI K (tCons (tVar 0) (tCons (tC (.str m)) tNil)))) (tSeq (tOst K n1 (tVar 0) (tVar 1)) (tSeq (tOst K n2 (tVar 0) (tVar 2)) (tOst K n3 (tVar 0) (tVar 3)))))) :
    FnOk P w K mg base CX0 1 f fd ["self", n1, n2, n3] (spI K C [n1, n2, n3]) :=
  Fun.ok F Sc spI_len fun cdv A outer s H vs Q E hr h => ⟨_, hb cdv A outer s H E, by
    obtain ⟨a, ws, rfl, hl, ea, q⟩ := h
    match ws, hl with
    | [y1, y2, y3], _ =>
      refine ⟨_, rfl, a, C, [.str m], rfl, by simp, T, ea, _, rfl, _, rfl, a, C, rfl, T, h1, .inl ⟨ea, fun dx nd ne => ?_⟩⟩
      refine ⟨_, rfl, _, rfl, a, C, rfl, T, h2, .inr ⟨dx, [(n1, y1)], upd_same, by rw [upd_ne ne, upd_same], by simp, ?_⟩⟩
      refine ⟨_, rfl, _, rfl, a, C, rfl, T, h3, .inr ⟨dx, [(n2, y2), (n1, y1)], by rw [upd_ne (Ne.symm ne), upd_same], by rw [upd_same], by simp, ?_⟩⟩
      refine q dx _ nd ne (by rw [upd_ne (Ne.symm ne), upd_ne (Ne.symm ne), upd_same]) (by rw [upd_same]; rfl) fun b ha hd => by rw [upd_ne hd, upd_ne hd, upd_ne ha, upd_ne hd]⟩
end
end Cw

set_option maxHeartbeats 1000000
/-! Cw, part Xd: raise C(..). -/
namespace Cw
open PySem L2
section
variable {X : Cx} {e : Expr} {es : List Expr} {p pos : Pos}
theorem mk_end00 {pins : List (Addr × Obj)} {σ : St} {H1 : Hp} {hp hp2 h2 : Heap} {g1 g2 : Array GenState} {d1 d2 : Drawn} {t1 t2 : Nat} {os1 os2 : OsState} {a C : Addr} (I1 : Inv X pins σ H1 ⟨hp, g1, d1, t1, os1⟩)
    (ha : hp.objs.size ≤ a) (k : ∀ b o, hp.get? b = some o → hp2.get? b = some o) (un : Un (frs X.stack) [] (upd H1 a (exo a C none)) (upd H1 a (exo a C none)) hp2 h2) (hok : HOk X.prog X.w (upd H1 a (exo a C none)) h2) (ho : os2 = os1) (hb : PyProof.Rows.AllBare g2) :
    ∃ (t0 : Addr) (G : Heap), Inv X pins σ H1 ⟨G, g2, d2, t2, os2⟩ ∧ (∀ b o, G.get? b = some o → h2.get? b = some o) ∧ G.get? a = none ∧
      h2.get? a = some ({ cls := .ref C, dict := none, data := .fields #[.ref t0, .none, .none, .none, .bool false, .none] } : Obj) ∧ H1 a = none := by
  obtain ⟨t0, hoe⟩ := exo_at hok (upd_same (H := H1) (a := a) (o := exo a C none))
  have hn : H1 a = none := I1.hok.fresh ha
  obtain ⟨G, g1', g2'⟩ := restrict h2 fun b => decide (b ≠ a)
  have gk : ∀ b, b ≠ a → G.get? b = h2.get? b := fun b hb => g1' b (decide_eq_true hb)
  have ge : G.get? a = none := g2' a (by simp)
  have nha : ∀ {b : Addr} {o : Obj}, hp.get? b = some o → b ≠ a := fun {b o} z => Nat.ne_of_lt (Nat.lt_of_lt_of_le (Heap.lt_size z) ha)
  have up : ∀ {b : Addr}, b ≠ a → H1 b = none → upd H1 a (exo a C none) b = none := fun {b} hb n => by rw [upd_ne hb]; exact n
  have U : Un (frs X.stack) [] H1 H1 hp G := {
    keep := fun b o z n hf hx => by
      rw [gk b (nha z)]
      exact un.keep b o (k b o z) (up (nha z) n) hf hx
    slot := fun b o z n hf hx => by
      rw [gk b (nha z)]
      exact un.slot b o (k b o z) (up (nha z) n) hf hx
    free := fun b o z n hx => n
    there := fun b o z hx => by
      rw [gk b (nha z)]
      exact un.there b o (k b o z) hx
    tups := fun b xs z => z
    frzs := fun b o v z => z
    tbls := fun b ps z => ⟨#[], by rw [z]; simp⟩ }
  have hok3 : HOk X.prog X.w H1 G := fun b o z => by
    have hba : b ≠ a := fun e => by
      rw [e, hn] at z
      cases z
    have q := hok b o (by rw [upd_ne hba]; exact z)
    have noa : ∀ {c : Addr}, upd H1 a (exo a C none) c = some (.own b) → c ≠ a := fun {c} hc => at_ne upd_same hc exo_own
    exact q.stay (fun c v hc y => by
        have hca : c ≠ a := by
          rcases hc with hc | hc
          · rw [hc]
            exact hba
          · exact noa hc
        rw [gk c hca]
        exact y)
      (fun c hc => by rw [upd_ne (noa hc)] at hc; exact hc) (fun c xs hc => by rw [upd_ne (at_ne upd_same hc exo_tup)] at hc; exact hc)
  have J : Inv X pins σ H1 ⟨G, g2, d2, t2, os2⟩ := I1.call' (ch := []) ho U hok3 hb (fun b z => absurd z (by simp))
  refine ⟨t0, G, J, fun b o z => ?_, ge, hoe, hn⟩
  by_cases hba : b = a
  · rw [hba, ge] at z
    cases z
  · exact (gk b hba).symm.trans z
theorem pmk_oex0 {x : Str} {C fI : Addr} {k : Nat} {fd : FuncData} {ps : List Str} (T : OexC X.K C) (iC : PySem.W.findIn X.K (.ref C) "__init__" = some (some (.ref fI))) (tI : PySem.W.typeIn X.K (.ref fI) = some (.type "function"))
    (F1 : FnOk X.prog X.w X.K X.mg X.base CX0 k fI fd ps (spI X.K C [])) (hr : Room (k + 1) X.A) (hb : Binds X.K fd ps []) (hg : Gl X x) (hm : X.mg x = some (.ref C))
    (hdb : (x == ("__debug__" : Str)) = false := by decide) :
    PMk X (.Call (.Name x p) [] [] pos) (fun σ H Q => Q (.ref C) none H) := by
  intro pins s σ H Q I h
  obtain ⟨nm, q, N, bs, bm, sn, sub, ab, col, dd, k0, k1, k2, k3, k5, hC, hbm⟩ := T.cls
  refine PySem.wpAny_Call_Name_kw (ld_glob I hg hm ?_ hdb)
  refine PySem.W.callWith_K0 (first := []) I.kIn T.kC ?_
  show wpAny _ _ (call (.ref C) []) _ _ _
  obtain ⟨hp, g, dr, tk, os⟩ := s
  have hsz : hp.objs.size ≤ hp.objs.size + 1 := Nat.le_succ _
  have hn : H (hp.objs.size + 1) = none := I.hok.fresh hsz
  have hq : spI X.K C [] (V.ref (hp.objs.size + 1) :: ([] ++ [])) (upd H (hp.objs.size + 1) (exo (hp.objs.size + 1) C none)) (fun v H2 => v = .non ∧ H2 = upd H (hp.objs.size + 1) (exo (hp.objs.size + 1) C none)) (fun _ _ _ => False) :=
    ⟨_, [], rfl, rfl, upd_same, rfl, rfl⟩
  have kk : ∀ b o, hp.get? b = some o → ((hp.push (PySem.W.kdv_tup [])).push (PySem.HandSPX.excO C hp.objs.size)).get? b = some o := fun b o e => Heap.get?_push_of_some _ (Heap.get?_push_of_some _ e)
  have hget : ((hp.push (PySem.W.kdv_tup [])).push (PySem.HandSPX.excO C hp.objs.size)).get? (hp.objs.size + 1) = some (PySem.HandSPX.excO C hp.objs.size) := by heap_get
  have I2 : Inv X pins σ (upd H (hp.objs.size + 1) (exo (hp.objs.size + 1) C none)) ⟨(hp.push (PySem.W.kdv_tup [])).push (PySem.HandSPX.excO C hp.objs.size), g, dr, tk, os⟩ :=
    I.laid (t' := tk) (a := hp.objs.size + 1) (o := exo (hp.objs.size + 1) C none) (h' := (hp.push (PySem.W.kdv_tup [])).push (PySem.HandSPX.excO C hp.objs.size)) kk hsz (exo_ok hget)
  have r2 : Vals (V.ref (hp.objs.size + 1) :: ([] ++ [])) [Value.ref (hp.objs.size + 1)] := .cons rfl .nil
  have hl : (Value.ref (hp.objs.size + 1) :: ([] : List Value) ++ []).length = ps.length := by
    have e := r2.length
    rw [F1.len _ _ _ _ hq] at e
    exact e.symm
  refine wpAny_call (PySem.HandSPX.call_own F.excBase_ValueError (fun Y => PySem.HandSPX.refsVE_contains Y bm hbm) (I.kIn _ _ hC) (PySem.W.looks_findIn I.kIn iC) (fun self => PySem.W.bind_fn I.kIn self tI) (Nat.zero_le _)
    (codeAny_mono (F1.run _ X.stack _ _ ⟨Value.ref (hp.objs.size + 1) :: [], []⟩ [Value.ref (hp.objs.size + 1)] _ _ (fun _ _ _ => False) (hr.make C [] []) (I2.env0.make C [] []) (by have := hb _ [Value.ref (hp.objs.size + 1)] I2.kIn hl; rw [List.append_nil] at this; exact this) r2 hq) fun r s' hq' => ?_))
  cases r with
  | error er => exact False.elim hq'
  | ok fl =>
    cases fl with
    | ret u =>
      obtain ⟨v, H2, os2, bare2, un2, hok2, rv, ev, eh⟩ := hq'
      subst ev
      subst eh
      obtain ⟨h2, g2, d2, t2, os'⟩ := s'
      obtain ⟨t0, G, J, kG, ge, hoe, na⟩ := mk_end00 (d2 := d2) (t2 := t2) I hsz kk un2 hok2 os2 bare2
      exact ⟨rv, _, _, _, ⟨G, g2, d2, t2, os'⟩, _, .ref C, none, rfl, J, kG, ge, hoe, ⟨rfl, rfl⟩, rfl, rfl, na, rfl, bare2, raises_own T.exC T.tyC, h⟩
    | next => exact False.elim hq'
    | brk => exact False.elim hq'
    | cont => exact False.elim hq'
end
/-! ### raise C(..) -/
def sRaise (C : Addr) (ns : List Str) (fs : M (List D)) : S := M.then fs fun ds => fun e => if ds.length = ns.length then .exc ⟨.ref C, (ns.zip ds).reverse⟩ e else .bad
theorem RpF.append {K : Fg} {B : Ad} {H : Hp} : ∀ {vs ws : List (Str × V)} {ds es : List (Str × D)}, RpF K B H vs ds → RpF K B H ws es → RpF K B H (vs ++ ws) (ds ++ es)
  | _, _, _, _, .nil, h => h
  | _, _, _, _, .cons a r, h => .cons a (RpF.append r h)
theorem RpF.rev {K : Fg} {B : Ad} {H : Hp} : ∀ {vs : List (Str × V)} {ds : List (Str × D)}, RpF K B H vs ds → RpF K B H vs.reverse ds.reverse
  | _, _, .nil => .nil
  | _, _, .cons a r => by
    rw [List.reverse_cons, List.reverse_cons]
    exact RpF.append (RpF.rev r) (.cons a .nil)
theorem RpL.zipF {K : Fg} {B : Ad} {H : Hp} : ∀ {ns : List Str} {vs : List V} {ds : List D}, RpL K B H vs ds → RpF K B H (ns.zip vs) (ns.zip ds)
  | [], _, _, _ => .nil
  | n :: ns, _, _, .nil => .nil
  | n :: ns, _, _, .cons a r => .cons a (RpL.zipF r)
section
variable {X : Cx} {W : Wx} {e : Expr} {es : List Expr} {p pos pos' : Pos} {fs : M (List D)} {x : Str} {C fI : Addr} {k : Nat} {fd : FuncData} {ps : List Str}
theorem pds_raise0 (hc : X.calm = true) (tk : Takes X W) (T : OexC X.K C) (iC : PySem.W.findIn X.K (.ref C) "__init__" = some (some (.ref fI))) (tI : PySem.W.typeIn X.K (.ref fI) = some (.type "function"))
    (F1 : FnOk X.prog X.w X.K X.mg X.base CX0 k fI fd ps (spI X.K C [])) (hr : Room (k + 1) X.A) (hb : Binds X.K fd ps []) (hg : Gl X x) (hm : X.mg x = some (.ref C)) (hdb : (x == ("__debug__" : Str)) = false := by decide) :
    PDS X W (.Raise (some (.Call (.Name x p) [] [] pos)) none pos') (sRaise C [] aNil) :=
  ps_imp (ps_raise hc tk (pmk_oex0 T iC tI F1 hr hb hg hm hdb)) fun D σ H ⟨F, e, R, h⟩ => by
    have h := Aft.ret R (SAft.then h)
    exact h _ none F σ H (.refl R) ⟨rfl, rfl⟩
theorem pds_raise {n : Str} {ns : List Str} (hns : (n :: ns).length ≤ 900) (hc : X.calm = true) (tk : Takes X W) (T : OexC X.K C) (iC : PySem.W.findIn X.K (.ref C) "__init__" = some (some (.ref fI))) (tI : PySem.W.typeIn X.K (.ref fI) = some (.type "function"))
    (F1 : FnOk X.prog X.w X.K X.mg X.base CX0 k fI fd ps (spI X.K C (n :: ns))) (hr : Room (k + 1) X.A) (hb : Binds X.K fd ps []) (hg : Gl X x) (hm : X.mg x = some (.ref C)) (ha : PDL X W (e :: es) fs)
    (hdb : (x == ("__debug__" : Str)) = false := by decide) (he : starEach (e :: es) X.env = (false, eval e X.env) :: starEach es X.env := by rfl) (hpl : (backTo pos (starEach es X.env)).any (·.1) = false := by rfl) :
    PDS X W (.Raise (some (.Call (.Name x p) (e :: es) [] pos)) none pos') (sRaise C (n :: ns) fs) :=
  ps_imp (ps_raise hc tk (pmk_oex (CX := CX0) T iC tI F1 hr hb .nil (fun _ _ _ _ _ _ _ z => z.elim) hg hm ha hdb he hpl)) fun D σ H ⟨F, e, R, h⟩ => ⟨F, e, R, (SAft.then h).imp fun ds F1 e1 H1 p1 h1 vs rp => by
    have hlv := rp.length
    by_cases hl : ds.length = (n :: ns).length
    · have h1 : SAft W X.K F1 σ H1 e1 D (if ds.length = (n :: ns).length then .exc ⟨.ref C, ((n :: ns).zip ds).reverse⟩ e1 else .bad) := h1
      rw [if_pos hl] at h1
      refine ⟨by omega, fun a na => ⟨a, vs, by simp, by rw [hlv, hl], upd_same, fun dx H2 nd ne e1' e2 e3 => ⟨rfl, dx, _, e1', e2, ?_, ?_⟩⟩⟩
      · rw [upd_ne ne] at nd; exact nd
      · rw [upd_ne ne] at nd
        have sm : Same H1 (upd (del H2 a) dx (.xd ((n :: ns).zip vs).reverse)) := fun b o q => by
          have hba : b ≠ a := ne_of_none q na
          have hbd : b ≠ dx := ne_of_none q nd
          rw [upd_ne hbd, del_ne hba, e3 b hba hbd, upd_ne hba]; exact q
        have po := Post.same p1.rel sm
        refine h1 _ (some dx) F1 σ _ po ⟨rfl, ?_⟩
        have rf : RpF X.K (Bd F1 σ e1) (upd (del H2 a) dx (.xd ((n :: ns).zip vs).reverse)) ((n :: ns).zip vs).reverse ((n :: ns).zip ds).reverse := (RpF.rev (RpL.zipF (rp.step (fun _ _ q _ => sm _ _ q) fun _ z => .inl z)))
        have nb : ¬ Bd F1 σ e1 dx := fun z => p1.rel.trk dx z nd
        have hz : (((n :: ns).zip ds).reverse).length = ds.length := by rw [List.length_reverse, List.length_zip, hl]; exact Nat.min_self _
        generalize ((n :: ns).zip ds).reverse = zz at rf hz
        cases zz with
        | nil => rw [hl] at hz; cases hz
        | cons y ys => exact ⟨dx, _, rfl, nb, upd_same, rf⟩
    · have h1 : SAft W X.K F1 σ H1 e1 D (if ds.length = (n :: ns).length then .exc ⟨.ref C, ((n :: ns).zip ds).reverse⟩ e1 else .bad) := h1
      rw [if_neg hl] at h1
      exact h1.elim⟩
end
end Cw

set_option maxHeartbeats 1000000
/-! Cw, part Xe: what is asked of a caught exception. -/
namespace Cw
open PySem L2
structure XcF (K : Fg) (C : Addr) : Prop where
  oex : OexC K C
  ga : PySem.W.findIn K (.ref C) "__getattribute__" = some (some (.builtin "BaseException.__getattribute__"))
  gg : PySem.W.findIn K (.ref C) "__getattr__" = some none
  hd : PySem.W.hasDictIn K C = true
  ha : PySem.W.findIn K (.ref C) "__class__" = some (some (.builtin "object.__class__"))
  hn : PySem.W.specialIn K (.builtin "object.__class__") "__get__" = some (some (.builtin "getset_descriptor.__get__"))
  ht : PySem.W.takesIn K (.builtin "object.__class__") = some true
  hm : PySem.W.mroIn K C (.type "object") = some true
theorem XcF.ic {K : Fg} {C : Addr} (h : XcF K C) : (PySem.W.clsIn K C).isSome = true := by
  obtain ⟨cd, hc, _⟩ := PySem.W.any_some h.hd
  rw [hc]; rfl
structure XK (K : Fg) (CE : Addr) (Xs : List Addr) : Prop where
  cl : ∀ C, C ∈ Xs → XcF K C
  ce : ∀ C, C ∈ Xs → PySem.W.subIn K (.ref C) (.ref CE) = some true
  two : ∀ C, C ∈ Xs → ∀ C', C' ∈ Xs → PySem.W.subIn K (.ref C) (.ref C') = some (decide (C = C'))
  ve : ∀ C, C ∈ Xs → PySem.W.subIn K (.ref C) (.type "ValueError") = some true
  ceC : (PySem.W.clsIn K CE).isSome = true
  ceT : PySem.W.typeIn K (.ref CE) = some (.type "type")
  ceB : PySem.W.subIn K (.ref CE) (.type "BaseException") = some true
theorem XK.sub {K : Fg} {CE : Addr} {l Xs : List Addr} (h : XK K CE l) (s : ∀ C, C ∈ Xs → C ∈ l) : XK K CE Xs :=
  ⟨fun C m => h.cl C (s C m), fun C m => h.ce C (s C m), fun C m C' m' => h.two C (s C m) C' (s C' m'), fun C m => h.ve C (s C m), h.ceC, h.ceT, h.ceB⟩
section
variable {K : Fg} {CE : Addr} {Xs : List Addr} {C c : Addr}
theorem kitCls_ref {t : Value} {D : Addr} {b : Bool} (h1 : (PySem.W.clsIn K D).isSome = true) (h2 : PySem.W.typeIn K (.ref D) = some (.type "type")) (h3 : PySem.W.subIn K t (.ref D) = some b) : PySem.W.kitCls K t (.ref D) = some b := by
  show (if ((PySem.W.clsIn K D).isSome && PySem.W.typeIn K (.ref D) == some (.type "type")) = true then PySem.W.subIn K t (.ref D) else none) = some b
  rw [if_pos (by rw [h1, h2]; rfl)]
  exact h3
theorem kitOne_of {t c : Value} {b : Bool} (h : PySem.W.kitCls K t c = some b) (hb : t = c → b = true) : PySem.W.kitOne K t c = some b := by
  unfold PySem.W.kitOne
  by_cases e : t = c
  · subst e
    rw [hb rfl]; simp
  · rw [if_neg (by simpa using e)]; exact h
theorem XK.kitE (x : XK K CE Xs) (m : C ∈ Xs) : PySem.W.kitCls K (.ref C) (.ref CE) = some true := kitCls_ref x.ceC x.ceT (x.ce C m)
theorem XK.kit2 (x : XK K CE Xs) (m : C ∈ Xs) (m' : c ∈ Xs) : PySem.W.kitCls K (.ref C) (.ref c) = some (decide (C = c)) := kitCls_ref (x.cl c m').ic (x.cl c m').oex.tyC (x.two C m c m')
theorem XK.kitV (x : XK K CE Xs) (m : C ∈ Xs) : PySem.W.kitCls K (.ref C) (.type "ValueError") = some true := by
  show (if PySem.W.kitMeta "ValueError" = true then PySem.W.subIn K (.ref C) (.type "ValueError") else none) = some true
  rw [if_pos (by decide +kernel)]
  exact x.ve C m
/-- which exceptions a clause takes -/
def xT (Xs : List Addr) (CE c : Addr) : Value → Option Bool
  | .ref C => if C ∈ Xs then (if c = CE then some true else if c ∈ Xs then some (decide (C = c)) else none) else none
  | _ => none
theorem xT_ok (x : XK K CE Xs) (cls : Value) (b : Bool) (h : xT Xs CE c cls = some b) : PySem.W.exmOne K cls (.ref c) = some b := by
  cases cls with
  | ref C =>
    have h : (if C ∈ Xs then (if c = CE then some true else if c ∈ Xs then some (decide (C = c)) else none) else none) = some b := h
    by_cases m : C ∈ Xs
    · rw [if_pos m] at h
      by_cases e : c = CE
      · subst e
        rw [if_pos rfl] at h; cases h
        show (if (PySem.W.subIn K (.ref c) (.type "BaseException") == some true) = true then PySem.W.kitCls K (.ref C) (.ref c) else none) = some true
        rw [if_pos (by rw [x.ceB]; rfl)]
        exact x.kitE m
      · rw [if_neg e] at h
        by_cases m' : c ∈ Xs
        · rw [if_pos m'] at h; cases h
          show (if (PySem.W.subIn K (.ref c) (.type "BaseException") == some true) = true then PySem.W.kitCls K (.ref C) (.ref c) else none) = _
          rw [if_pos (by rw [(x.cl c m').oex.exC]; rfl)]
          exact x.kit2 m m'
        · rw [if_neg m'] at h; cases h
    · rw [if_neg m] at h; cases h
  | _ => cases h
def dIsX (Xs : List Addr) (CE : Addr) : List D → Option (Bool × D)
  | [.xcp (.ref C) _, .raw (.ref c)] => if C ∈ Xs then (if c = CE then some (false, .bl true) else if c ∈ Xs then some (false, .bl (decide (C = c))) else none) else none
  | [.xcp (.ref C) _, .raw (.ty T)] => if C ∈ Xs ∧ T = "ValueError" then some (false, .bl true) else none
  | _ => none
def dXf (Xs : List Addr) (n : Str) : D → Option (Bool × D)
  | .xcp (.ref C) fs => if C ∈ Xs then (match fs.lookup n with
    | some d => some (false, d)
    | none => none) else none
  | _ => none
end
theorem RpB.xcp {K : Fg} {B : Ad} {H : Hp} {v : V} {cls : Value} {ds : List (Str × D)} (h : RpB K B H v (.xcp cls ds)) : ∃ a d, v = .ref a ∧ H a = some (xco a cls d) ∧ ((d = none ∧ ds = []) ∨ ∃ dd fs, d = some dd ∧ H dd = some (.xd fs) ∧ RpF K B H fs ds) := by
  rcases h with h | ⟨p, _, h⟩
  · cases h with
    | xc0 nb q => exact ⟨_, _, rfl, q, .inl ⟨rfl, rfl⟩⟩
    | xc1 nb q nd qd r => exact ⟨_, _, rfl, q, .inr ⟨_, _, rfl, qd, r⟩⟩
  · exact h.elim
section
variable {X : Cx} {CE : Addr} {Xs : List Addr}
theorem xc_inst {pins : List (Addr × Obj)} {σ : St} {H : Hp} {s : Shared} {a C : Addr} {d : Option Addr} (I : Inv X pins σ H s) (ea : H a = some (xco a (.ref C) d)) (hd : d = none ∨ ∃ dd fs, d = some dd ∧ H dd = some (.xd fs)) : ∃ ox od, PySem.W.InstAt s.heap a ox C od := by
  obtain ⟨oe, vs, ho, hz, hf⟩ := xco_at I.hok ea
  rcases hd with rfl | ⟨dd, fs, rfl, hdd⟩
  · exact ⟨oe, none, ho, hz.1, by unfold PySem.W.notCls; rw [hf] <;> rfl, by rw [hz.2]; trivial⟩
  · have hx : ObjOk X.prog X.w H s.heap dd (.xd fs) := I.hok dd _ hdd
    obtain ⟨mA, hns, hr⟩ := hx
    obtain ⟨od, hod, hl⟩ := lookIn_ns hns
    exact ⟨oe, some od, ho, hz.1, by unfold PySem.W.notCls; rw [hf] <;> rfl, by rw [hz.2]; exact hod⟩
theorem cd_isX (x : XK X.K CE Xs) : CallR X (.builtin "isinstance") (rDn X.K (dIsX Xs CE)) := by
  intro pins s σ H xs us Q I r ⟨B, ds, tr, rs, q⟩
  have key : ∀ (C : Addr) (fs : List (Str × D)) (y : V) (cv : Value) (b : Bool) (v : V) (u w : Value), C ∈ Xs → RpB X.K B H v (.xcp (.ref C) fs) → RelV v u → RelV y w → w = cv → PySem.W.kitOne X.K (.ref C) cv = some b → Q (.bl b) H →
      wpAny (model X.prog X.w) X.A (call (.builtin "isinstance") [u, w]) (EP X pins σ Q) X.xe s := fun C fs y cv b v u w m h ru rw' ew hk hq => by
    subst ew
    obtain ⟨a, d, rfl, ea, hd⟩ := h.xcp
    cases ru
    obtain ⟨ox, od, J⟩ := xc_inst I ea (hd.imp (fun z => z.1) fun ⟨dd, fs, e1, e2, _⟩ => ⟨dd, fs, e1, e2⟩)
    have c := x.cl C m
    exact PySem.W.kia_one (PySem.W.kitx_exc c.ic c.ga c.gg c.oex.exC c.ha c.hn c.ht c.hm) I.kIn J hk (fun z => nomatch z) fun tk => ⟨.bl b, H, I.kept (t' := tk) fun _ _ z => z, rfl, hq⟩
  unfold dIsX at q
  split at q
  · rename_i C fs c
    match xs, rs with
    | [v, y], ⟨rv, ry, _⟩ =>
      cases r with
      | cons ru rr =>
        cases rr with
        | cons rw' rr =>
          cases rr
          have ey : y = .ref c := by
            rcases ry with ry | ⟨_, _, z⟩
            · cases ry; rfl
            · exact z.elim
          subst ey
          cases rw'
          split at q
          · rename_i m
            split at q
            · rename_i e
              subst e
              exact key C fs (.ref c) (.ref c) true v _ _ m rv ru rfl rfl (kitOne_of (x.kitE m) fun _ => rfl) q.bl
            · split at q
              · rename_i m'
                exact key C fs (.ref c) (.ref c) _ v _ _ m rv ru rfl rfl (kitOne_of (x.kit2 m m') fun e => decide_eq_true (Value.ref.inj e)) q.bl
              · exact q.elim
          · exact q.elim
  · rename_i C fs T
    match xs, rs with
    | [v, y], ⟨rv, ry, _⟩ =>
      cases r with
      | cons ru rr =>
        cases rr with
        | cons rw' rr =>
          cases rr
          have ey : y = .ty T := by
            rcases ry with ry | ⟨_, _, z⟩
            · cases ry; rfl
            · exact z.elim
          subst ey
          cases rw'
          split at q
          · rename_i m
            obtain ⟨m, rfl⟩ := m
            exact key C fs (.ty "ValueError") (.type "ValueError") true v _ _ m rv ru rfl rfl (kitOne_of (x.kitV m) fun _ => rfl) q.bl
          · exact q.elim
  · exact q.elim
end
section
variable {X : Cx} {W : Wx} {CE : Addr} {Xs : List Addr} {e : Expr} {f : M RV} {n : Str} {pos : Pos}
theorem pd_xf (x : XK X.K CE Xs) (hn : ∀ C, C ∈ Xs → PySem.W.findIn X.K (.ref C) n = some none) (he : PD X W e f) (hb : attributeBase e n X.env (eval e X.env) = eval e X.env := by rfl) : PD X W (.Attribute e n pos) (eOp1 (dXf Xs n) f) := by
  refine ⟨fun pins s σ H Q I h => ?_⟩
  refine attr_of hb (thn (he.run pins s σ H _ I (op1_of h)) fun u s1 hh => ?_)
  obtain ⟨v, H1, I1, rx, B, dx, tr, rp, q⟩ := hh
  unfold dXf at q
  split at q
  · rename_i C fs
    split at q
    · rename_i m
      split at q
      · rename_i d w
        obtain ⟨a, d', rfl, ea, hd⟩ := rp.xcp
        cases rx
        rcases hd with ⟨_, rfl⟩ | ⟨dd, vs, rfl, hdd, rf⟩
        · cases w
        · obtain ⟨v, lv, rv⟩ := rf.lookup.1 d w
          obtain ⟨oe, vv, ho, hz, hf⟩ := xco_at I1.hok ea
          have hx : ObjOk X.prog X.w H1 s1.heap dd (.xd vs) := I1.hok dd _ hdd
          obtain ⟨mA, hns, hr⟩ := hx
          obtain ⟨od, hod, hl⟩ := lookIn_ns hns
          obtain ⟨u, hu, ru⟩ := RelO.some_of (v := v) (o := mA n) (by rw [← lv]; exact hr n)
          have J : PySem.W.InstAt s1.heap a oe C (some od) := ⟨ho, hz.1, by unfold PySem.W.notCls; rw [hf] <;> rfl, by rw [hz.2]; exact hod⟩
          have c := x.cl C m
          exact HandSPX.exc_get I1.kIn J c.ga c.gg c.oex.exC (PySem.W.findObj_own c.hd (hn C m) rfl (by rw [hl, hu])) (handed_of ru) ⟨v, H1, I1.tok _, ru, q.old rv⟩
      · exact q.elim
    · exact q.elim
  · exact q.elim
end
end Cw

set_option maxHeartbeats 1000000
/-! Cw, part Xf: slots put in order ahead of a statement; the classes by their numbers; small operations. -/
namespace Cw
open PySem L2
def sPre (dead fz : List Nat) (g : S) : S := fun e => if noMu e dead = true then g (frzE (wipeE e dead) fz) else .bad
theorem pds_pre {X : Cx} {W : Wx} {st : Stmt} {g : S} {dead fz : List Nat} (h : PDS X W st g) : PDS X W st (sPre dead fz g) :=
  ps_imp h fun Dn σ H ⟨F, e, R, q⟩ => by
    have q : SAft W X.K F σ H e Dn (if noMu e dead = true then g (frzE (wipeE e dead) fz) else .bad) := q
    by_cases nm : noMu e dead = true
    · rw [if_pos nm] at q
      have p : Post X.K F σ H e F σ H (frzE (wipeE e dead) fz) := ((Post.refl R).wipe nm).frz
      exact ⟨F, _, p.rel, SAft.post p q⟩
    · rw [if_neg nm] at q
      exact q.elim
/-! ### classes -/
def Cs (a : Nat → Addr) : List Addr := (List.range 9).map a
def Xs (a : Nat → Addr) : List Addr := (List.range 20).map fun i => a (21 + i)
theorem cs_mem (a : Nat → Addr) (k : Nat) (h : k < 9) : a k ∈ Cs a := List.mem_map.mpr ⟨k, List.mem_range.mpr h, rfl⟩
theorem xs_mem (a : Nat → Addr) (k : Nat) (h : 21 ≤ k) (h2 : k ≤ 40) : a k ∈ Xs a := List.mem_map.mpr ⟨k - 21, List.mem_range.mpr (by omega), by rw [Nat.add_sub_cancel' h]⟩
def pickA (l1 : List (Nat × Addr)) (d1 ce : Addr) (l2 : List (Nat × Addr)) (d2 : Addr) (i : Nat) : Addr := if i < 20 then (l1.lookup i).getD d1 else if i = 20 then ce else (l2.lookup i).getD d2
def pickB (l : List Addr) (i : Nat) : Addr := l.getD i 0
theorem lookup_mem {l : List (Nat × Addr)} {d : Addr} (i : Nat) : (l.lookup i).getD d ∈ d :: l.map (·.2) := by
  induction l with
  | nil => exact List.mem_cons_self
  | cons y l ih =>
    obtain ⟨k, v⟩ := y
    rw [List.lookup_cons]
    cases i == k with
    | true => simp
    | false =>
      rcases List.mem_cons.mp ih with h | h
      · simp only [h]; exact List.mem_cons_self
      · exact List.mem_cons_of_mem _ (List.mem_cons_of_mem _ h)
theorem pickX_mem {l1 l2 : List (Nat × Addr)} {d1 d2 ce C : Addr} (h : C ∈ Xs (pickA l1 d1 ce l2 d2)) : C ∈ d2 :: l2.map (·.2) := by
  obtain ⟨i, hi, rfl⟩ := List.mem_map.mp h
  have e : pickA l1 d1 ce l2 d2 (21 + i) = (l2.lookup (21 + i)).getD d2 := by
    unfold pickA
    rw [if_neg (by omega), if_neg (by omega)]
  rw [e]
  exact lookup_mem _
theorem pickC_mem {l1 l2 : List (Nat × Addr)} {d1 d2 ce C : Addr} (h : C ∈ Cs (pickA l1 d1 ce l2 d2)) : C ∈ d1 :: l1.map (·.2) := by
  obtain ⟨i, hi, rfl⟩ := List.mem_map.mp h
  have hi := List.mem_range.mp hi
  have e : pickA l1 d1 ce l2 d2 i = (l1.lookup i).getD d1 := by
    unfold pickA
    rw [if_pos (by omega)]
  rw [e]
  exact lookup_mem _
/-! ### words applied -/
section
variable (e : En)
theorem sPre_eq (dead fz : List Nat) (g : S) : sPre dead fz g e = if noMu e dead = true then g (frzE (wipeE e dead) fz) else .bad := rfl
theorem fgt_nx (vs : List Nat) : fgt vs (.nx e) = if noMu e vs = true then .nx (wipeE e vs) else .bad := rfl
theorem fgt_ct (vs : List Nat) : fgt vs (.ct e) = if noMu e vs = true then .ct (wipeE e vs) else .bad := rfl
theorem fgt_rt (vs : List Nat) (r : RV) : fgt vs (.rt r e) = .rt r e := rfl
theorem fgt_bk (vs : List Nat) : fgt vs (.bk e) = .bk e := rfl
theorem fgt_exc (vs : List Nat) (x : Xc) : fgt vs (.exc x e) = .exc x e := rfl
theorem fgt_bad (vs : List Nat) : fgt vs .bad = .bad := rfl
theorem frz_nx (vs : List Nat) : frz vs (.nx e) = .nx (frzE e vs) := rfl
theorem frz_ct (vs : List Nat) : frz vs (.ct e) = .ct (frzE e vs) := rfl
theorem frz_rt (vs : List Nat) (r : RV) : frz vs (.rt r e) = .rt r e := rfl
theorem frz_bk (vs : List Nat) : frz vs (.bk e) = .bk e := rfl
theorem frz_exc (vs : List Nat) (x : Xc) : frz vs (.exc x e) = .exc x e := rfl
theorem frz_bad (vs : List Nat) : frz vs .bad = .bad := rfl
theorem frzE_nil : frzE e [] = e := rfl
theorem frzE_cons (i : Nat) (vs : List Nat) : frzE e (i :: vs) = match getE e i with
  | some (.ow, d) => frzE (e.set i (some (.sh, d))) vs
  | _ => frzE e vs := rfl
end
end Cw

set_option maxHeartbeats 1000000
/-! Cw, part Xg: dicts made, asked; counts, powers, least and greatest of two. -/
namespace Cw
open PySem L2
theorem hu1 {k : Nat} {A : Around} (r : Room k A) : A.units + 1 < cLine := by have := r.un; omega
def eDnew (t : Bool) : M RV := M.ret (.fr (.dic t []))
section
variable {X : Cx} {W : Wx} {pos : Pos}
theorem pd_dnewK : PD X W (.Dict [] [] pos) (eDnew false) := pe_imp pe_dnewK fun σ H Q ⟨F, e, R, h⟩ p np => by
  have s := same_upd (o := .dK []) np
  exact h (F.plus p) _ ⟨R.plus s np (by rw [upd_same]; exact fun z => nomatch z), .same s, fun _ z => .inl z, ⟨rfl, fun a z => .inl z, fun a z => z.elim .inl fun z => .inr (z ▸ np)⟩⟩ _ ⟨p, rfl, np, .inr rfl, _, upd_same, .nil⟩
theorem pd_dnewT : PD X W (.Dict [] [] pos) (eDnew true) := pe_imp pe_dnewT fun σ H Q ⟨F, e, R, h⟩ p np => by
  have s := same_upd (o := .dT []) np
  exact h (F.plus p) _ ⟨R.plus s np (by rw [upd_same]; exact fun z => nomatch z), .same s, fun _ z => .inl z, ⟨rfl, fun a z => .inl z, fun a z => z.elim .inl fun z => .inr (z ▸ np)⟩⟩ _ ⟨p, rfl, np, .inr rfl, _, upd_same, .nil⟩
end
/-- an item of a list, of a tuple, of a dict -/
def dIxD (x y : D) : Option (Bool × D) := match x with
  | .dic t kvs => (match dGet t kvs y with
    | some (some d) => some (false, d)
    | _ => none)
  | _ => dIx x y
theorem id_ixD {X : Cx} (hu : X.A.units + 1 < cLine) : IxR X (rD2 X.K dIxD) := by
  intro value slice pins s σ H x y v u Q I rx ry ⟨B, dx, dy, tr, hx, hy, q⟩ hs
  have gen : dIxD dx dy = dIx dx dy → wpAny (model X.prog X.w) X.A (PyProof.Rows.subscriptTail value slice v u) (EP X pins σ Q) X.xe s := fun e =>
    id_ix value slice pins s σ H x y v u Q I rx ry ⟨B, dx, dy, tr, hx, hy, by rw [← e]; exact q⟩ hs
  cases dx with
  | dic t kvs =>
    unfold dIxD at q
    simp only at q
    cases w : dGet t kvs dy with
    | none => rw [w] at q; exact q.elim
    | some o =>
      cases o with
      | none => rw [w] at q; exact q.elim
      | some d =>
        rw [w] at q
        obtain ⟨a, ov, rfl, g, g1, _⟩ := dGet_of hx hy w
        obtain ⟨v', rfl, rv⟩ := g1 d rfl
        exact ix_dict hu value slice pins s σ H _ y v u Q I rx ry ⟨a, v', rfl, g, q.old rv⟩ hs
  | _ => exact gen rfl
/-- in, not in -/
def dInD (neg : Bool) (x y : D) : Option (Bool × D) := match y with
  | .dic t kvs => (match dGet t kvs x with
    | some o => some (false, .bl (if neg then !o.isSome else o.isSome))
    | none => none)
  | _ => dIn neg x y
theorem od_inD {X : Cx} (hu : X.A.units + 1 < cLine) : OpR X (compareOp .In) (rD2 X.K (dInD false)) := by
  intro pins s σ H x y v u Q I rx ry ⟨B, dx, dy, tr, hx, hy, q⟩
  cases dy with
  | dic t kvs =>
    unfold dInD at q
    simp only at q
    cases w : dGet t kvs dx with
    | none => rw [w] at q; exact q.elim
    | some o =>
      rw [w] at q
      obtain ⟨a, ov, rfl, g, g1, g2⟩ := dGet_of hy hx w
      cases ry
      have e : ov.isSome = o.isSome := by
        cases o with
        | none => rw [g2 rfl]; rfl
        | some d => obtain ⟨v', rfl, _⟩ := g1 d rfl; rfl
      exact d_in hu I g rx fun s' I' => ⟨.bl ov.isSome, H, I', rfl, by rw [e]; exact q.bl⟩
  | _ => exact od_in pins s σ H x y v u Q I rx ry ⟨B, dx, _, tr, hx, hy, q⟩
theorem od_notinD {X : Cx} (hu : X.A.units + 1 < cLine) : OpR X (compareOp .NotIn) (rD2 X.K (dInD true)) := by
  intro pins s σ H x y v u Q I rx ry ⟨B, dx, dy, tr, hx, hy, q⟩
  cases dy with
  | dic t kvs =>
    unfold dInD at q
    simp only at q
    cases w : dGet t kvs dx with
    | none => rw [w] at q; exact q.elim
    | some o =>
      rw [w] at q
      obtain ⟨a, ov, rfl, g, g1, g2⟩ := dGet_of hy hx w
      cases ry
      have e : ov.isSome = o.isSome := by
        cases o with
        | none => rw [g2 rfl]; rfl
        | some d => obtain ⟨v', rfl, _⟩ := g1 d rfl; rfl
      exact d_notIn hu I g rx fun s' I' => ⟨.bl (!ov.isSome), H, I', rfl, by rw [e]; exact q.bl⟩
  | _ => exact od_notin pins s σ H x y v u Q I rx ry ⟨B, dx, _, tr, hx, hy, q⟩
/-! ### numbers -/
noncomputable def dPow : D → D → Option (Bool × D)
  | .int i, .int j => if 0 ≤ j ∧ j ≤ 1000 ∧ smallI i = true then some (false, .int (i ^ j.toNat)) else none
  | _, _ => none
theorem od_pow {X : Cx} : OpR X (binaryOp .Pow) (rD2 X.K dPow) := opr_imp op_pow fun x y H Q ⟨B, dx, dy, tr, rx, ry, q⟩ => by
  unfold dPow at q; split at q
  · split at q
    · rename_i h
      have h3 := smallI_to h.2.2
      exact ⟨_, _, rx.int, ry.int, ⟨h.1, by omega, by omega⟩, q.int⟩
    · exact q.elim
  · exact q.elim
def dMin2 : List D → Option (Bool × D)
  | [.int i, .int j] => some (false, .int (if j < i then j else i))
  | _ => none
def dMax2 : List D → Option (Bool × D)
  | [.int i, .int j] => some (false, .int (if j > i then j else i))
  | _ => none
theorem cd_min2 {X : Cx} (hc : X.calm = true) : CallR X (.builtin "min") (rDn X.K dMin2) := callr_imp (call_min2 hc) fun xs H Q ⟨B, ds, tr, rs, q⟩ => by
  unfold dMin2 at q; split at q
  · match xs, rs with
    | [x, y], ⟨rx, ry, _⟩ => exact ⟨_, _, by rw [rx.int, ry.int], q.int⟩
  · exact q.elim
theorem cd_max2 {X : Cx} (hc : X.calm = true) : CallR X (.builtin "max") (rDn X.K dMax2) := callr_imp (call_max2 hc) fun xs H Q ⟨B, ds, tr, rs, q⟩ => by
  unfold dMax2 at q; split at q
  · match xs, rs with
    | [x, y], ⟨rx, ry, _⟩ => exact ⟨_, _, by rw [rx.int, ry.int], q.int⟩
  · exact q.elim
end Cw

set_option maxHeartbeats 2000000
/-! Cw, part Xh: comprehensions with two fors; extend. -/
namespace Cw
open PySem L2
def lc2L (vs vs1 : List Nat) (a : G) (tt : M Bool) (f1 : M (List D)) (a1 : G) (tt1 : M Bool) (te : M RV) : List D → M (List D)
  | [], e => .ok [] e
  | d :: ds, e => match a d e with
    | none => .bad
    | some e1 => match tt e1 with
      | .ok true e2 => (match f1 e2 with
        | .ok ds1 e3 => if noMu e3 vs1 = true then (match lcL vs1 a1 tt1 te ds1 (wipeE e3 vs1) with
          | .ok ys e4 => if noMu e4 vs = true then (match lc2L vs vs1 a tt f1 a1 tt1 te ds (wipeE e4 vs) with
            | .ok zs e5 => .ok (ys ++ zs) e5
            | _ => .bad) else .bad
          | _ => .bad) else .bad
        | _ => .bad)
      | .ok false e2 => if noMu e2 vs = true then lc2L vs vs1 a tt f1 a1 tt1 te ds (wipeE e2 vs) else .bad
      | _ => .bad
def eLc2 (vs vs1 : List Nat) (f : M (List D)) (a : G) (tt : M Bool) (f1 : M (List D)) (a1 : G) (tt1 : M Bool) (te : M RV) : M RV :=
  M.bind f fun ds => M.bind (M.wipe vs) fun _ => M.bind (lc2L vs vs1 a tt f1 a1 tt1 te ds) fun ys => if ys.length ≤ sizeLine then M.ret (.fr (.lst ys)) else M.bad
section
variable {K : Fg} {J : It} {vs vs1 : List Nat} {a a1 : G} {tt tt1 : M Bool} {f1 : M (List D)} {te : M RV} {σ : St}
theorem lc2L_wiped : ∀ {ds ys : List D} {e e' : En}, Wiped vs e → lc2L vs vs1 a tt f1 a1 tt1 te ds e = .ok ys e' → Wiped vs e'
  | [], _, _, _, hw, h => by unfold lc2L at h; cases h; exact hw
  | d :: ds, ys, e, e', hw, h => by
    unfold lc2L at h
    cases w : a d e with
    | none => simp only [w] at h; cases h
    | some e1 =>
      simp only [w] at h
      cases w2 : tt e1 with
      | bad => simp only [w2] at h; cases h
      | exc x e2 => simp only [w2] at h; cases h
      | ok b e2 =>
        cases b with
        | false =>
          simp only [w2] at h
          split at h
          · exact lc2L_wiped wiped_wipe h
          · cases h
        | true =>
          simp only [w2] at h
          cases w3 : f1 e2 with
          | bad => simp only [w3] at h; cases h
          | exc x e2 => simp only [w3] at h; cases h
          | ok ds1 e3 =>
            simp only [w3] at h
            split at h
            · cases w4 : lcL vs1 a1 tt1 te ds1 (wipeE e3 vs1) with
              | bad => simp only [w4] at h; cases h
              | exc x e2 => simp only [w4] at h; cases h
              | ok zs e4 =>
                simp only [w4] at h
                split at h
                · cases w5 : lc2L vs vs1 a tt f1 a1 tt1 te ds (wipeE e4 vs) with
                  | bad => simp only [w5] at h; cases h
                  | exc x2 e5 => simp only [w5] at h; cases h
                  | ok z5 e5 => simp only [w5] at h; cases h; exact lc2L_wiped wiped_wipe w5
                · cases h
            · cases h
theorem lc2L_noexc : ∀ {ds : List D} {e e' : En} {x : Xc}, lc2L vs vs1 a tt f1 a1 tt1 te ds e ≠ .exc x e'
  | [], e, e', x, h => by unfold lc2L at h; cases h
  | d :: ds, e, e', x, h => by
    unfold lc2L at h
    cases w : a d e with
    | none => simp only [w] at h; cases h
    | some e1 =>
      simp only [w] at h
      cases w2 : tt e1 with
      | bad => simp only [w2] at h; cases h
      | exc x e2 => simp only [w2] at h; cases h
      | ok b e2 =>
        cases b with
        | false =>
          simp only [w2] at h
          split at h
          · exact lc2L_noexc h
          · cases h
        | true =>
          simp only [w2] at h
          split at h
          · split at h
            · split at h
              · split at h
                · split at h <;> cases h
                · cases h
              · cases h
            · cases h
          · cases h
theorem lc2_run {F : Fx} {H : Hp} {e e9 : En} {p : Addr} {ds ys acc : List D} {Qd : Hp → Prop} {ts ts1 : List Nat} (hts : ∀ i, i ∈ ts → i ∈ vs) (hts1 : ∀ i, i ∈ ts1 → i ∈ vs1) (hvv : ∀ i, i ∈ vs1 → i ∈ vs) (R : Rel K F (L2.wipe σ vs) H e) (hp : F.bx p) (hacc : OwnAt K (Bd F (L2.wipe σ vs) e) H p (.lst acc)) (hJ : ItOk K J (Bd F (L2.wipe σ vs) e) H ds)
    (hr : lc2L vs vs1 a tt f1 a1 tt1 te ds e = .ok ys e9) (hz : acc.length + ys.length ≤ sizeLine)
    (hQ : ∀ F' H', Rel K F' (L2.wipe σ vs) H' e9 → Stp (fun b => Own (L2.wipe σ vs) e b ∨ b = p) H H' → (∀ b, Own (L2.wipe σ vs) e9 b → Own (L2.wipe σ vs) e b ∨ H b = none) → Le F F' H → OwnAt K (Bd F' (L2.wipe σ vs) e9) H' p (.lst (acc ++ ys)) → Qd H') :
    ∃ W : Nat → Nat → Hp → Prop, (∃ m, W 0 m H) ∧ ∀ i m H, W i m H →
      (J.stop i H ∧ Qd H) ∨ (J.go i H ∧ ∃ Nx : Hp → Prop, (∀ H', Nx H' → ∃ m', m' < m ∧ W (i + 1) m' H') ∧ ∀ x H', J.yld i H x H' → tG K ts a x (L2.wipe σ vs) H' fun σ2 H2 => L2.wipe σ2 vs = L2.wipe σ vs ∧ tT Wno K tt σ2 H2 fun b H3 =>
        if b = true then tI Wno K f1 σ2 H3 fun J1 H4 => ∃ W1 : Nat → Nat → Hp → Prop, (∃ m, W1 0 m H4) ∧ ∀ j k H, W1 j k H →
          (J1.stop j H ∧ Nx H) ∨ (J1.go j H ∧ ∃ Nx1 : Hp → Prop, (∀ H', Nx1 H' → ∃ k', k' < k ∧ W1 (j + 1) k' H') ∧ ∀ x H', J1.yld j H x H' → tG K ts1 a1 x (L2.wipe σ2 vs1) H' fun σ3 H5 => L2.wipe σ3 vs1 = L2.wipe σ2 vs1 ∧ tT Wno K tt1 σ3 H5 fun b H6 =>
            if b = true then tE Wno K te σ3 H6 fun y H7 => ∃ acc, H7 p = some (.lst acc) ∧ acc.length < sizeLine ∧ Nx1 (upd H7 p (.lst (acc ++ [y]))) else Nx1 H6)
        else Nx H3) := by
  obtain ⟨⟨Sx, s0, st, sx⟩⟩ := hJ
  refine ⟨fun i m H' => i + m = ds.length ∧ ∃ F' e' ac zs, Rel K F' (L2.wipe σ vs) H' e' ∧ Sx (Bd F' (L2.wipe σ vs) e') H' ∧ F'.bx p ∧ OwnAt K (Bd F' (L2.wipe σ vs) e') H' p (.lst ac) ∧ lc2L vs vs1 a tt f1 a1 tt1 te (ds.drop i) e' = .ok zs e9 ∧ ac ++ zs = acc ++ ys ∧
      Stp (fun b => Own (L2.wipe σ vs) e b ∨ b = p) H H' ∧ (∀ b, Own (L2.wipe σ vs) e' b → Own (L2.wipe σ vs) e b ∨ H b = none) ∧ Le F F' H, ⟨ds.length, by simp, F, e, acc, ys, R, s0, hp, hacc, hr, rfl, .refl, fun _ z => .inl z, .refl⟩, ?_⟩
  rintro i m H' ⟨him, F', e', ac, zs, R', s', hp', ho, hl, hac, stp, ow, le⟩
  obtain ⟨go, stop⟩ := sx _ _ s' R'.trk
  by_cases hi : i < ds.length
  · have hd : ds[i]? = some ds[i] := List.getElem?_eq_getElem hi
    obtain ⟨hgo, hy⟩ := go i _ hd
    refine .inr ⟨hgo, fun H2 => ∃ F' e' ac zs, Rel K F' (L2.wipe σ vs) H2 e' ∧ Sx (Bd F' (L2.wipe σ vs) e') H2 ∧ F'.bx p ∧ OwnAt K (Bd F' (L2.wipe σ vs) e') H2 p (.lst ac) ∧ lc2L vs vs1 a tt f1 a1 tt1 te (ds.drop (i + 1)) e' = .ok zs e9 ∧ ac ++ zs = acc ++ ys ∧
      Stp (fun b => Own (L2.wipe σ vs) e b ∨ b = p) H H2 ∧ (∀ b, Own (L2.wipe σ vs) e' b → Own (L2.wipe σ vs) e b ∨ H b = none) ∧ Le F F' H, fun H2 q => ⟨m - 1, by omega, by omega, q⟩, fun x H2 y => ?_⟩
    obtain ⟨sm, rp⟩ := hy x H2 y
    have pS := Post.same R' sm
    rw [List.drop_eq_getElem_cons hi] at hl
    unfold lc2L at hl
    cases w : a ds[i] e' with
    | none => simp only [w] at hl; cases hl
    | some e2 =>
      simp only [w] at hl
      refine ⟨F', e', ds[i], e2, pS.rel, rp, w, fun F3 σ3 H3 p3 o3 => ⟨mem_wipe_eq (by rw [o3.1, wipe_length]) fun j hj => ?_, F3, e2, p3.rel, ?_⟩⟩
      · rw [o3.2 j fun z => hj (hts j z), getS_wipe_out hj]
      · have pT := pS.trans p3
        have out3 : ∀ i, i ∉ vs → getS σ3 i = getS (L2.wipe σ vs) i := fun i hi => o3.2 i fun z => hi (hts i z)
        have fin : ∀ {F4 : Fx} {H4 : Hp} {e4 : En} {zs' : List D}, Post K F' (L2.wipe σ vs) H' e' F4 σ3 H4 e4 → noMu e4 vs = true → lc2L vs vs1 a tt f1 a1 tt1 te (ds.drop (i + 1)) (wipeE e4 vs) = .ok zs' e9 → ac ++ zs' = acc ++ ys →
            ∃ F' e' ac zs, Rel K F' (L2.wipe σ vs) H4 e' ∧ Sx (Bd F' (L2.wipe σ vs) e') H4 ∧ F'.bx p ∧ OwnAt K (Bd F' (L2.wipe σ vs) e') H4 p (.lst ac) ∧ lc2L vs vs1 a tt f1 a1 tt1 te (ds.drop (i + 1)) e' = .ok zs e9 ∧ ac ++ zs = acc ++ ys ∧
              Stp (fun b => Own (L2.wipe σ vs) e b ∨ b = p) H H4 ∧ (∀ b, Own (L2.wipe σ vs) e' b → Own (L2.wipe σ vs) e b ∨ H b = none) ∧ Le F F' H := fun {F4 H4 e4 zs'} p4 nm hl' hac' => by
          obtain ⟨Rw, oww⟩ := p4.rel.wipe' (σ' := L2.wipe σ vs) nm (by rw [o3.1]) fun i hi => (out3 i hi).symm
          have p5 : Post K F' (L2.wipe σ vs) H' e' F4 (L2.wipe σ vs) H4 (wipeE e4 vs) := ⟨Rw, p4.stp, fun b z => p4.ow b (oww b z), p4.le⟩
          refine ⟨F4, _, ac, zs', Rw, st _ _ _ _ s' p5.k1 p5.k2, p4.le.up p hp', ho.step p5.k1 p5.k2 (p5.around R' hp'), hl', hac', stp.trans (p5.stp) fun b z => ?_, fun b z => (p5.ow b z).elim (ow b) fun z => .inr (stp.back b z), ⟨p5.le.pn.trans le.pn, fun b z => p5.le.up b (le.up b z), fun b z => (p5.le.dn b z).elim (le.dn b) fun z => .inr (stp.back b z)⟩⟩
          exact (ow b z).elim (fun z => .inl (.inl z)) .inr
        cases w2 : tt e2 with
        | bad => simp only [w2] at hl; cases hl
        | exc x e3 => simp only [w2] at hl; cases hl
        | ok b e3 =>
          intro F4 H4 p4
          cases b with
          | false =>
            simp only [w2] at hl
            split at hl
            · rename_i nm
              exact fin (pT.trans p4) nm hl hac
            · cases hl
          | true =>
            simp only [w2] at hl
            refine ⟨F4, e3, p4.rel, ?_⟩
            cases w3 : f1 e3 with
            | bad => simp only [w3] at hl; cases hl
            | exc x e4 => simp only [w3] at hl; cases hl
            | ok ds1 e4 =>
              simp only [w3] at hl
              split at hl
              · rename_i nm1
                cases w4 : lcL vs1 a1 tt1 te ds1 (wipeE e4 vs1) with
                | bad => simp only [w4] at hl; cases hl
                | exc x e5 => simp only [w4] at hl; cases hl
                | ok ys1 e5 =>
                  simp only [w4] at hl
                  split at hl
                  · rename_i nm2
                    cases w5 : lc2L vs vs1 a tt f1 a1 tt1 te (ds.drop (i + 1)) (wipeE e5 vs) with
                    | bad => simp only [w5] at hl; cases hl
                    | exc x e6 => simp only [w5] at hl; cases hl
                    | ok zs2 e6 =>
                      simp only [w5] at hl
                      cases hl
                      intro F5 H5 p5 J1 hJ1
                      have pX := (pT.trans p4).trans p5
                      obtain ⟨R1, ow1⟩ := p5.rel.wipe' (σ' := L2.wipe σ3 vs1) nm1 (by rw [wipe_length]) fun i hi => getS_wipe_out hi
                      have ho5 := ho.step pX.k1 pX.k2 (pX.around R' hp')
                      have bd1 : ∀ b, Bd F5 (L2.wipe σ3 vs1) (wipeE e4 vs1) b → Bd F5 σ3 e4 b := fun b z => z.elim .inl fun z => .inr (ow1 b z)
                      have hlen : ac.length + ys1.length ≤ sizeLine := by
                        have e1 := congrArg List.length hac
                        simp only [List.length_append] at e1
                        omega
                      refine lc_run (σ := σ3) (vs := vs1) (acc := ac) hts1 R1 (pX.le.up p hp') (ho5.anti bd1) (hJ1.step (fun _ _ q _ => q) fun b z => .inl (bd1 b z)) w4 hlen fun F9 H9 R9 stI owI leI oI => ?_
                      obtain ⟨Rw, oww⟩ := R9.wipe' (σ' := L2.wipe σ vs) nm2 (by rw [wipe_length σ3 vs1, o3.1]) fun i hi => by
                        rw [getS_wipe_out fun z => hi (hvv i z), out3 i hi]
                      have own9 : ∀ b, Own (L2.wipe σ vs) (wipeE e5 vs) b → Own (L2.wipe σ vs) e' b ∨ H' b = none := fun b z =>
                        (owI b (oww b z)).elim (fun z => pX.ow b (ow1 b z)) fun z => .inr (pX.stp.back b z)
                      have k1 : ∀ b o, H' b = some o → ¬ Bd F' (L2.wipe σ vs) e' b → H9 b = some o := fun b o q n =>
                        stI.keep b o (pX.k1 b o q n) fun z => z.elim (fun z => (pX.ow b (ow1 b z)).elim (fun z => n (.inr z)) fun z => by rw [q] at z; cases z) fun z => n (.inl (z ▸ hp'))
                      have k2 : ∀ b, Bd F9 (L2.wipe σ vs) (wipeE e5 vs) b → Bd F' (L2.wipe σ vs) e' b ∨ H' b = none := fun b z => by
                        rcases z with z | z
                        · rcases leI.dn b z with z | z
                          · exact (pX.le.dn b z).imp .inl id
                          · exact .inr (pX.stp.back b z)
                        · exact (own9 b z).imp .inr id
                      refine ⟨F9, wipeE e5 vs, ac ++ ys1, zs2, Rw, st _ _ _ _ s' k1 k2, leI.up p (pX.le.up p hp'), oI.anti fun b z => z.elim .inl fun z => .inr (oww b z), w5, by rw [List.append_assoc]; exact hac, ⟨fun b o q n => ?_, fun b q => stp.back b (pX.stp.back b (stI.back b q))⟩, fun b z => (own9 b z).elim (ow b) fun z => .inr (stp.back b z), ⟨(leI.pn.trans pX.le.pn).trans le.pn, fun b z => leI.up b (pX.le.up b (le.up b z)), fun b z => ?_⟩⟩
                      · have q1 := stp.keep b o q n
                        have q2 := pX.stp.keep b o q1 fun z => (ow b z).elim (fun z => n (.inl z)) fun z => by rw [q] at z; cases z
                        exact stI.keep b o q2 fun z => z.elim (fun z => (pX.ow b (ow1 b z)).elim (fun z => (ow b z).elim (fun z => n (.inl z)) fun z => by rw [q] at z; cases z) fun z => by rw [q1] at z; cases z) fun z => n (.inr z)
                      · rcases leI.dn b z with z | z
                        · rcases pX.le.dn b z with z | z
                          · exact le.dn b z
                          · exact .inr (stp.back b z)
                        · exact .inr (stp.back b (pX.stp.back b z))
                  · cases hl
              · cases hl
  · have e1 : i = ds.length := by omega
    subst e1
    rw [List.drop_eq_nil_of_le (Nat.le_refl _)] at hl
    unfold lc2L at hl
    cases hl
    rw [List.append_nil] at hac
    subst hac
    exact .inl ⟨stop, hQ F' H' R' stp ow le ho⟩
theorem lc2_of {W : Wx} {f : M (List D)} {H : Hp} {Q : VK} {ts ts1 : List Nat} (hts : ∀ i, i ∈ ts → i ∈ vs) (hts1 : ∀ i, i ∈ ts1 → i ∈ vs1) (hvv : ∀ i, i ∈ vs1 → i ∈ vs) (h : tE W K (eLc2 vs vs1 f a tt f1 a1 tt1 te) σ H Q) : tLc2 (tI W K f) (tG K ts a) (tT Wno K tt) (tI Wno K f1) (tG K ts1 a1) (tT Wno K tt1) (tE Wno K te) vs vs1 σ H Q := by
  obtain ⟨F, e, R, h⟩ := h
  refine ⟨F, e, R, h.bind.imp fun ds F1 e1 H1 p1 h1 J hJ p np => ?_⟩
  unfold M.bind M.wipe at h1
  by_cases nm : noMu e1 vs = true
  · simp only [if_pos nm] at h1
    cases w : lc2L vs vs1 a tt f1 a1 tt1 te ds (wipeE e1 vs) with
    | bad => simp only [w] at h1; exact h1.elim
    | exc x e2 => exact absurd w lc2L_noexc
    | ok ys e9 =>
      simp only [w] at h1
      by_cases hz : ys.length ≤ sizeLine
      · simp only [if_pos hz] at h1
        obtain ⟨Rw, oww⟩ := p1.rel.wipe' (σ' := L2.wipe σ vs) nm (wipe_length _ _) fun i hi => getS_wipe_out hi
        have s := same_upd (o := .lst []) np
        have Rp' := Rw.plus s np (by rw [upd_same]; exact fun z => nomatch z)
        have hJ' : ItOk K J (Bd (F1.plus p) (L2.wipe σ vs) (wipeE e1 vs)) (upd H1 p (.lst [])) ds := hJ.step (fun a o q _ => s a o q) fun b z => by
          rcases z with (z | z) | z
          · exact .inl (.inl z)
          · exact .inr (z ▸ np)
          · exact .inl (.inr (oww b z))
        refine lc2_run hts hts1 hvv Rp' (.inr rfl) (acc := []) ⟨[], upd_same, .nil⟩ hJ' w (by simpa using hz) fun F' H' R' stp ow le o => ?_
        have hw := lc2L_wiped wiped_wipe w
        obtain ⟨R9, ow9⟩ := R'.swap (σ' := σ) hw (wipe_length _ _).symm fun i hi => (getS_wipe_out hi).symm
        have np' : ∀ b, upd H1 p (.lst []) b = none → H1 b = none := fun b q => s.free q
        have ps : Post K F1 σ H1 e1 F' σ H' e9 := ⟨R9, ⟨fun b u q n => stp.keep b u (s b u q) fun z => z.elim (fun z => n (oww b z)) fun z => (by rw [z, np] at q; cases q), fun b q => np' b (stp.back b q)⟩,
          fun b z => (ow b ((ow9 b).mp z)).elim (fun z => .inl (oww b z)) fun z => .inr (np' b z), ⟨le.pn, fun b z => le.up b (.inl z), fun b z => (le.dn b z).elim (fun z => z.elim .inl fun z => .inr (z ▸ np)) fun z => .inr (np' b z)⟩⟩
        refine h1 F' H' ps _ ⟨p, rfl, p1.stp.back p np, le.up p (.inr rfl), ?_⟩
        have o : OwnAt K (Bd F' (L2.wipe σ vs) e9) H' p (.lst ys) := o
        exact o.anti fun b z => z.elim .inl fun z => .inr ((ow9 b).mp z)
      · simp only [if_neg hz] at h1; exact h1.elim
  · simp only [if_neg nm] at h1; exact h1.elim
end
section
variable {X : Cx} {W : Wx}
theorem pd_lc2V {elt tg iter tg1 iter1 : Expr} {ifs ifs1 : List Expr} {scope : Scope} {own : List (Str × Nat)} {vs vs1 : List Nat} {pos : Pos} {f f1 : M (List D)} {a a1 : G} {ts ts1 : List Nat} {tt tt1 : M Bool} {te : M RV} (hc : X.calm = true) (hN : X.N.Nodup) (hi : PDI X W tg iter f) (ok : BlkOk X.N X.env.scope scope own) (hv : own.map (·.2) = vs)
    (hg : ∀ (s : Shared) (H : Hp) (C : Addr) (cl : List (Str × Addr)) (fp : List Addr), PDG (X.blk s H scope (compEnvC scope cl C X.env) fp) tg ts a) (ht : ∀ (s : Shared) (H : Hp) (C : Addr) (cl : List (Str × Addr)) (fp : List Addr), PDTs (X.blk s H scope (compEnvC scope cl C X.env) fp) Wno ifs tt)
    (hi1 : ∀ (s : Shared) (H : Hp) (C : Addr) (cl : List (Str × Addr)) (fp : List Addr), PDI (X.blk s H scope (compEnvC scope cl C X.env) fp) Wno tg1 iter1 f1)
    (hg1 : ∀ (s : Shared) (H : Hp) (C : Addr) (cl : List (Str × Addr)) (fp : List Addr), PDG (X.blk s H scope (compEnvC scope cl C X.env) fp) tg1 ts1 a1) (ht1 : ∀ (s : Shared) (H : Hp) (C : Addr) (cl : List (Str × Addr)) (fp : List Addr), PDTs (X.blk s H scope (compEnvC scope cl C X.env) fp) Wno ifs1 tt1)
    (he : ∀ (s : Shared) (H : Hp) (C : Addr) (cl : List (Str × Addr)) (fp : List Addr), PD (X.blk s H scope (compEnvC scope cl C X.env) fp) Wno elt te) (hts : ∀ i, i ∈ ts → i ∈ vs) (hts1 : ∀ i, i ∈ ts1 → i ∈ vs1) (hvv : ∀ i, i ∈ vs1 → i ∈ vs) (hs : ∀ x, foldedSetIterable iter X.env x = pure x := by intro _; rfl) (hs1 : ∀ env x, foldedSetIterable iter1 env x = pure x := by intro _ _; rfl) :
    PD X W (.ListComp elt [⟨tg, iter, ifs, 0⟩, ⟨tg1, iter1, ifs1, 0⟩] scope pos) (eLc2 vs vs1 f a tt f1 a1 tt1 te) := by
  subst hv
  exact pe_imp (pe_lc2 hc hN hi ok hvv hg ht hi1 hg1 ht1 he hs hs1) fun _ _ _ => lc2_of hts hts1 hvv
theorem pds_setLc2V {i : Nat} {y : Str} {py : Pos} {elt tg iter tg1 iter1 : Expr} {ifs ifs1 : List Expr} {scope : Scope} {own : List (Str × Nat)} {vs vs1 : List Nat} {pos spos : Pos} {f f1 : M (List D)} {a a1 : G} {ts ts1 : List Nat} {tt tt1 : M Bool} {te : M RV} (hc : X.calm = true) (hN : X.N.Nodup) (hy : X.N[i]? = some y) (hyl : X.env.scope.names.lookup y = some .local)
    (hsw : swapsWith (.ListComp elt [⟨tg, iter, ifs, 0⟩, ⟨tg1, iter1, ifs1, 0⟩] scope pos) (some (.Name y py)) spos.line X.env = pure true) (hi : PDI X W tg iter f) (ok : BlkOk X.N X.env.scope scope own) (hv : own.map (·.2) = vs)
    (hg : ∀ (s : Shared) (H : Hp) (C : Addr) (cl : List (Str × Addr)) (fp : List Addr), PDG (X.blk s H scope (compEnvC scope cl C X.env) fp) tg ts a) (ht : ∀ (s : Shared) (H : Hp) (C : Addr) (cl : List (Str × Addr)) (fp : List Addr), PDTs (X.blk s H scope (compEnvC scope cl C X.env) fp) Wno ifs tt)
    (hi1 : ∀ (s : Shared) (H : Hp) (C : Addr) (cl : List (Str × Addr)) (fp : List Addr), PDI (X.blk s H scope (compEnvC scope cl C X.env) fp) Wno tg1 iter1 f1)
    (hg1 : ∀ (s : Shared) (H : Hp) (C : Addr) (cl : List (Str × Addr)) (fp : List Addr), PDG (X.blk s H scope (compEnvC scope cl C X.env) fp) tg1 ts1 a1) (ht1 : ∀ (s : Shared) (H : Hp) (C : Addr) (cl : List (Str × Addr)) (fp : List Addr), PDTs (X.blk s H scope (compEnvC scope cl C X.env) fp) Wno ifs1 tt1)
    (he : ∀ (s : Shared) (H : Hp) (C : Addr) (cl : List (Str × Addr)) (fp : List Addr), PD (X.blk s H scope (compEnvC scope cl C X.env) fp) Wno elt te) (hts : ∀ i, i ∈ ts → i ∈ vs) (hts1 : ∀ i, i ∈ ts1 → i ∈ vs1) (hvv : ∀ i, i ∈ vs1 → i ∈ vs) (hs : ∀ x, foldedSetIterable iter X.env x = pure x := by intro _; rfl) (hs1 : ∀ env x, foldedSetIterable iter1 env x = pure x := by intro _ _; rfl) :
    PDS X W (.Assign [.Name y py] (.ListComp elt [⟨tg, iter, ifs, 0⟩, ⟨tg1, iter1, ifs1, 0⟩] scope pos) spos) (sSet i (eLc2 vs vs1 f a tt f1 a1 tt1 te)) := by
  subst hv
  exact ps_imp (ps_setLc2 hc hN hy hyl hsw hi ok hvv hg ht hi1 hg1 ht1 he hs hs1) fun Dn σ H ⟨F, e, R, h⟩ => lc2_of hts hts1 hvv (Q := fun x H1 => Dn.nx (σ.set i (some x)) H1) ⟨F, e, R, (set_of R h).imp fun r F1 e1 H1 p1 h1 v hv => by
    obtain ⟨F2, e2, p2, h2⟩ := h1 v hv
    exact h2 F2 _ H1 (.refl p2.rel)⟩
end
end Cw

set_option maxHeartbeats 1000000
/-! Cw, part Xi: methods of lists that change them: extend, insert, pop. -/
namespace Cw
open PySem L2
/-- the list in slot i is changed; what is handed back -/
def eMutG (i : Nat) (dop : List D → List D → Option (D × List D)) (fs : M (List D)) : M RV := M.bind (eVar i) fun _ => M.bind (M.get (.sl i)) fun d0 => match d0 with
  | .lst _ => M.bind fs fun ds => fun e => match getE e i with
    | some (.sh, _) => .bad
    | some (f, .lst xs) => (match dop xs ds with
      | some (r, ys) => .ok (.sh r) (e.set i (some (f, .lst ys)))
      | none => .bad)
    | _ => .bad
  | _ => M.bad
def rMutG (ok : Hp → List V → List V → V → List V → Prop) : V → List V → Hp → VK → Prop := fun x vs H Q => ∃ l xs r ys, x = .ref l ∧ H l = some (.lst xs) ∧ ok H xs vs r ys ∧ Q r (upd H l (.lst ys))
section
variable {X : Cx} {W : Wx} {apos cpos p pos : Pos} {e o : Expr} {es : List Expr} {fs : M (List D)} {name : Str} {id : String} {i : Nat} {dop : List D → List D → Option (D × List D)} {ok : Hp → List V → List V → V → List V → Prop}
def OpG (K : Fg) (ok : Hp → List V → List V → V → List V → Prop) (dop : List D → List D → Option (D × List D)) : Prop :=
  ∀ B H xs vs ds es rd ys, RpL K B H xs ds → RpL K B H vs es → dop ds es = some (rd, ys) → ∃ r yv, ok H xs vs r yv ∧ RpL K B H yv ys ∧ Rp K B H r rd
theorem mutG_of {K : Fg} {σ : St} {H : Hp} {Q : VK} (hop : OpG K ok dop) (h : tE W K (eMutG i dop fs) σ H Q) :
    tBM K "list" (rMutG ok) (tE W K (eVar i)) (tAD W K fs) σ H Q := by
  obtain ⟨F, e, R, h⟩ := h
  refine ⟨F, e, R, ?_⟩
  have hb := h.bind
  unfold eVar at hb ⊢
  cases w : getE e i with
  | none => simp only [w] at hb; exact hb
  | some y =>
    simp only [w] at hb ⊢
    intro F1 H1 p1 v hv
    have h1 := hb F1 H1 p1
    obtain ⟨d0, l0, r0, h2⟩ := get_of p1.rel (H0 := H) hv h1
    cases d0 with
    | lst xs0 =>
      simp only at h2
      obtain ⟨a, vs0, rfl, sq, _⟩ := RpL.sqB r0
      refine ⟨.inl ⟨rfl, vs0, sq⟩, F1, e, p1.rel, h2.bind.imp fun ds F2 e2 H2 p2 h3 vs rvs => ?_⟩
      cases g : getE e2 i with
      | none => simp only [g] at h3; exact h3.elim
      | some z =>
        obtain ⟨f, d⟩ := z
        have own : f ≠ .sh → ∀ xs, d = .lst xs → ∀ rd ys, dop xs ds = some (rd, ys) → (∀ F' H', Post K F2 σ H2 e2 F' σ H' (e2.set i (some (f, .lst ys))) → ∀ v, Held K F' σ H H' (e2.set i (some (f, .lst ys))) v (.sh rd) → Q v H') → rMutG ok (.ref a) vs H2 Q := fun n xs ed rd ys hd hq => by
          subst ed
          obtain ⟨q, s, xvs, hx, rx⟩ := p2.rel.own i f _ g n
          have hv' := (show getS σ i = some (.ref a) from hv).symm.trans s
          cases hv'
          obtain ⟨r, yv, h4, h5, h6⟩ := hop _ _ _ _ _ _ _ _ rx rvs hd
          have bq : Bd F2 σ e2 a := .inr ⟨i, f, _, g, n, s⟩
          obtain ⟨po, _⟩ := p2.rel.mut (o := .lst yv) (d' := .lst ys) g n s ⟨_, upd_same, h5.step (step_upd bq) fun a z => .inl z⟩
          exact ⟨a, xvs, r, yv, rfl, hx, h4, hq F2 _ po _ (h6.post po)⟩
        cases d with
        | lst xs =>
          cases f with
          | sh => simp only [g] at h3; exact h3.elim
          | ow =>
            simp only [g] at h3
            cases hd : dop xs ds with
            | none => simp only [hd] at h3; exact h3.elim
            | some z => obtain ⟨rd, ys⟩ := z; simp only [hd] at h3; exact own (by decide) xs rfl rd ys hd h3
          | mu =>
            simp only [g] at h3
            cases hd : dop xs ds with
            | none => simp only [hd] at h3; exact h3.elim
            | some z => obtain ⟨rd, ys⟩ := z; simp only [hd] at h3; exact own (by decide) xs rfl rd ys hd h3
        | _ => cases f <;> (simp only [g] at h3; exact h3.elim)
    | _ => exact h2.elim
theorem pd_mutG {x : Str} (hN : X.N[i]? = some x) (hv : Vis X.env.scope x) (slot : Slot "list" name id) (hty : typeOf (.builtin id) = pure (.type "method_descriptor")) (hm : MtR X id (rMutG ok)) (hop : OpG X.K ok dop)
    (ha : PDL X W (e :: es) fs) (hd : (x == ("__debug__" : Str)) = false := by decide) (hcd : (x == ("__classdict__" : Str)) = false := by decide)
    (hbase : attributeBase (.Name x p) name X.env (eval (.Name x p) X.env) = eval (.Name x p) X.env := by rfl)
    (hfew : ((backTo cpos (starEach (e :: es) X.env)).all (fun x => !x.1) && (backToKw cpos (keywordEach [] X.env)).all (fun x => x.1.isSome)
      && decide ((e :: es).length + ([] : List Keyword).length + (if ([] : List Keyword).isEmpty then 0 else 1) < 30)) = true := by rfl)
    (hline : (apos.endLine == cpos.line) = true := by rfl) (hs : starEach (e :: es) X.env = (false, eval e X.env) :: starEach es X.env := by rfl) (hplain : (backTo cpos (starEach es X.env)).any (·.1) = false := by rfl) :
    PD X W (.Call (.Attribute (.Name x p) name apos) (e :: es) [] cpos) (eMutG i dop fs) :=
  pe_imp (pe_bm PySem.F.plainAttrs_list slot hty hm (pd_var (W := W) (pos := p) hN hv hd hcd) ha hbase hfew hline hs hplain) fun _ _ _ => mutG_of hop
theorem pd_mutG0 {x : Str} (hN : X.N[i]? = some x) (hv : Vis X.env.scope x) (slot : Slot "list" name id) (hty : typeOf (.builtin id) = pure (.type "method_descriptor")) (hm : MtR X id (rMutG ok)) (hop : OpG X.K ok dop)
    (hd : (x == ("__debug__" : Str)) = false := by decide) (hcd : (x == ("__classdict__" : Str)) = false := by decide)
    (hbase : attributeBase (.Name x p) name X.env (eval (.Name x p) X.env) = eval (.Name x p) X.env := by rfl) (hline : (apos.endLine == cpos.line) = true := by rfl) :
    PD X W (.Call (.Attribute (.Name x p) name apos) [] [] cpos) (eMutG i dop aNil) :=
  pe_imp (pe_bm0 PySem.F.plainAttrs_list slot hty hm (pd_var (W := W) (pos := p) hN hv hd hcd) hbase hline) fun σ H Q h => by
    have h := mutG_of (W := W) hop h
    obtain ⟨F, e, R, h⟩ := h
    refine ⟨F, e, R, h.imp fun r F1 e1 H1 p1 h1 v hv => ?_⟩
    obtain ⟨ty, F2, e2, R2, h2⟩ := h1 v hv
    exact ⟨ty, Aft.ret R2 h2 [] .nil⟩
/-! extend -/
def dExt (xs ds : List D) : Option (D × List D) := match ds with
  | [.lst zs] => if xs.length + zs.length ≤ sizeLine then some (.non, xs ++ zs) else none
  | _ => none
def okExt (H : Hp) (xs vs : List V) (r : V) (ys : List V) : Prop := ∃ b zs, vs = [.ref b] ∧ H b = some (.lst zs) ∧ xs.length + zs.length ≤ sizeLine ∧ r = .non ∧ ys = xs ++ zs
theorem mt_ext : MtR X "list.extend" (rMutG okExt) := fun pins s σ H x vs v us Q I rx rv ⟨l, xs, r, ys, e1, h1, ⟨b, zs, e2, hb, hz, er, ey⟩, q⟩ =>
  mt_extend pins s σ H x vs v us Q I rx rv ⟨l, b, xs, zs, e1, e2, h1, hb, hz, by rw [er, ey] at q; exact q⟩
theorem op_ext : OpG X.K okExt dExt := fun B H xs vs ds es rd ys r1 r2 q => by
  unfold dExt at q
  split at q
  · rename_i zs
    split at q
    · rename_i hz
      cases q
      cases r2 with
      | cons a b =>
        cases b
        obtain ⟨p, zv, rfl, t, r⟩ := RpL.sq_lst a
        exact ⟨.non, xs ++ zv, ⟨p, zv, rfl, t.2, by rw [r1.length, r.length]; exact hz, rfl, rfl⟩, r1.app r, .non⟩
    · cases q
  · cases q
/-! insert -/
def dIns (xs ds : List D) : Option (D × List D) := match ds with
  | [.int i, y] => if xs.length < sizeLine ∧ 0 ≤ i ∧ i < 2 ^ 20 then some (.non, xs.take i.toNat ++ [y] ++ xs.drop i.toNat) else none
  | _ => none
def okIns (_ : Hp) (xs vs : List V) (r : V) (ys : List V) : Prop := ∃ (i : Int) (y : V), vs = [.int i, y] ∧ xs.length < sizeLine ∧ 0 ≤ i ∧ i < 2 ^ 63 ∧ r = .non ∧ ys = xs.take i.toNat ++ [y] ++ xs.drop i.toNat
theorem mt_ins : MtR X "list.insert" (rMutG okIns) := fun pins s σ H x vs v us Q I rx rv ⟨l, xs, r, ys, e1, h1, ⟨i, y, e2, hz, h0, h2, er, ey⟩, q⟩ =>
  mt_insert pins s σ H x vs v us Q I rx rv ⟨l, xs, i, y, e1, e2, h1, hz, h0, h2, by rw [er, ey] at q; exact q⟩
theorem op_ins : OpG X.K okIns dIns := fun B H xs vs ds es rd ys r1 r2 q => by
  unfold dIns at q
  split at q
  · rename_i i y
    split at q
    · rename_i hz
      cases q
      cases r2 with
      | cons a b =>
        cases a
        cases b with
        | cons c d =>
          cases d
          exact ⟨.non, _, ⟨i, _, rfl, by rw [r1.length]; exact hz.1, hz.2.1, by omega, rfl, rfl⟩, ((r1.take _).app (.cons c .nil)).app (r1.drop _), .non⟩
    · cases q
  · cases q
/-! pop -/
def dPop (xs ds : List D) : Option (D × List D) := match ds with
  | [] => (match xs.getLast? with
    | some y => some (y, xs.dropLast)
    | none => none)
  | [.int i] => if 0 ≤ i ∧ i < xs.length ∧ i < 2 ^ 20 then (match xs[i.toNat]? with
    | some y => some (y, xs.eraseIdx i.toNat)
    | none => none) else none
  | _ => none
def okPop (_ : Hp) (xs vs : List V) (r : V) (ys : List V) : Prop := (vs = [] ∧ xs[xs.length - 1]? = some r ∧ ys = xs.dropLast) ∨ ∃ (i : Int), vs = [.int i] ∧ 0 ≤ i ∧ i < xs.length ∧ i < 2 ^ 20 ∧ xs[i.toNat]? = some r ∧ ys = xs.eraseIdx i.toNat
theorem mt_popG : MtR X "list.pop" (rMutG okPop) := fun pins s σ H x vs v us Q I rx rv ⟨l, xs, r, ys, e1, h1, h2, q⟩ => by
  rcases h2 with ⟨e2, hy, ey⟩ | ⟨i, e2, h0, hi, hb, hy, ey⟩
  · exact mt_pop pins s σ H x vs v us Q I rx rv ⟨l, xs, r, e1, e2, h1, hy, by rw [ey] at q; exact q⟩
  · refine mt_popAt pins s σ H x vs v us Q I rx rv ⟨l, xs, i, i.toNat, r, e1, e2, h1, by omega, by omega, ?_, hy, by rw [ey] at q; exact q⟩
    exact seqIndex_of h0 (by omega)
theorem RpL.erase {K : Fg} {B : Ad} {H : Hp} : ∀ {vs : List V} {ds : List D} (i : Nat), RpL K B H vs ds → RpL K B H (vs.eraseIdx i) (ds.eraseIdx i)
  | _, _, _, .nil => by simpa using RpL.nil
  | _, _, 0, .cons _ t => t
  | _, _, i + 1, .cons a t => .cons a (RpL.erase i t)
theorem RpL.dropL {K : Fg} {B : Ad} {H : Hp} {vs : List V} {ds : List D} (h : RpL K B H vs ds) : RpL K B H vs.dropLast ds.dropLast := by
  rw [List.dropLast_eq_take, List.dropLast_eq_take, h.length]
  exact h.take _
theorem op_pop : OpG X.K okPop dPop := fun B H xs vs ds es rd ys r1 r2 q => by
  unfold dPop at q
  split at q
  · cases r2
    cases w : ds.getLast? with
    | none => rw [w] at q; cases q
    | some y =>
      rw [w] at q; cases q
      rw [List.getLast?_eq_getElem?] at w
      obtain ⟨v, hv, rv⟩ := r1.get w
      exact ⟨v, _, .inl ⟨rfl, by rw [r1.length]; exact hv, rfl⟩, r1.dropL, rv⟩
  · rename_i i
    split at q
    · rename_i hz
      cases w : ds[i.toNat]? with
      | none => rw [w] at q; cases q
      | some y =>
        rw [w] at q; cases q
        cases r2 with
        | cons a b =>
          cases a
          cases b
          obtain ⟨v, hv, rv⟩ := r1.get w
          exact ⟨v, _, .inr ⟨i, rfl, hz.1, by rw [r1.length]; exact hz.2.1, hz.2.2, hv, rfl⟩, r1.erase _, rv⟩
    · cases q
  · cases q
end
/-! count of truths -/
def dCount : D → D → Option (Bool × D)
  | .lst xs, .bl b => (match blL xs with
    | some bs => some (false, .int (bs.count b : Nat))
    | none => none)
  | _, _ => none
end Cw

set_option maxHeartbeats 1000000
/-! Cw, part Xj: -1. -/
namespace Cw
open PySem L2
theorem pd_neg {X : Cx} {W : Wx} {j : Nat} {p pos : Pos} (v : Int) : PD X W (.UnaryOp .USub (.Constant (.int v) j p) pos) (eC (.int (-v))) :=
  pe_imp (pe_un un_neg pe_int) fun σ H Q h => ⟨v, rfl, c_of (fun _ _ => .int _) h⟩
/-- what is walked, then the slots put in order -/
def iPre (dead fz : List Nat) (f : M (List D)) : M (List D) := fun e => match f e with
  | .ok ds e1 => if noMu e1 dead = true then .ok ds (frzE (wipeE e1 dead) fz) else .bad
  | r => r
theorem pdi_pre {X : Cx} {W : Wx} {tg it : Expr} {f : M (List D)} {dead fz : List Nat} (h : PDI X W tg it f) : PDI X W tg it (iPre dead fz f) :=
  pi_imp h fun σ H Q ⟨F, e, R, q⟩ => ⟨F, e, R, by
    unfold iPre at q
    cases w : f e with
    | bad => rw [w] at q; exact q
    | exc x e1 => rw [w] at q; exact q
    | ok ds e1 =>
      rw [w] at q
      have q : Aft W X.K F σ H e (fun ds F' e' H' => ∀ J, ItOk X.K J (Bd F' σ e') H' ds → Q J H') (if noMu e1 dead = true then .ok ds (frzE (wipeE e1 dead) fz) else .bad) := q
      by_cases nm : noMu e1 dead = true
      · rw [if_pos nm] at q
        intro F' H' p J hJ
        have p2 : Post X.K F' σ H' e1 F' σ H' (frzE (wipeE e1 dead) fz) := ((Post.refl p.rel).wipe nm).frz
        exact q F' H' (p.trans p2) J (hJ.step (fun _ _ z _ => z) fun a z => p2.k2 a z)
      · rw [if_neg nm] at q
        exact q.elim⟩
theorem iPre_eq (e : En) (dead fz : List Nat) (f : M (List D)) : iPre dead fz f e = match f e with
  | .ok ds e1 => if noMu e1 dead = true then .ok ds (frzE (wipeE e1 dead) fz) else .bad
  | r => r := rfl
end Cw

set_option maxHeartbeats 1000000
/-! Cw, part Xk: a, b = e1, e2 where a name is a cell. -/
namespace Cw
open PySem L2
section
variable {X : Cx} {W : Wx} {x y z : Str} {i j l : Nat} {px py pz pt pt2 pos : Pos} {kt k2 : Nat} {a b c : Expr} {f g h : M RV}
theorem pds_par2T (hc : X.calm = true) (hN : X.N.Nodup) (hi : X.N[i]? = some x) (hj : X.N[j]? = some y) (hx : Loc X.env.scope x) (hy : Loc X.env.scope y) (fx : X.fn x = true ∨ X.env.scope.names.lookup x = some .local) (fy : X.fn y = true ∨ X.env.scope.names.lookup y = some .local) (ha : PD X W a f) (hb : PD X W b g)
    (hw : swappedStores [.Tuple [.Name x px, .Name y py] kt pt] (.Tuple [a, b] k2 pt2) X.env = pure none := by rfl)
    (hs : swapsWithSole [.Tuple [.Name x px, .Name y py] kt pt] (.Tuple [a, b] k2 pt2) pos.line X.env = pure false := by rfl)
    (s1 : starEach [a, b] X.env = (false, eval a X.env) :: starEach [b] X.env := by rfl) (s2 : starEach [b] X.env = (false, eval b X.env) :: starEach [] X.env := by rfl)
    (hn : (assignEach [.Name x px, .Name y py] X.env).length = 2 := by rfl) (hst : (assignEach [.Name x px, .Name y py] X.env).findIdx? (·.1) = none := by rfl)
    (q1 : (assignEach [.Name x px, .Name y py] X.env).map (·.2) = assign (.Name x px) X.env :: (assignEach [.Name y py] X.env).map (·.2) := by rfl) (q2 : (assignEach [.Name y py] X.env).map (·.2) = assign (.Name y py) X.env :: (assignEach [] X.env).map (·.2) := by rfl) :
    PDS X W (.Assign [.Tuple [.Name x px, .Name y py] kt pt] (.Tuple [a, b] k2 pt2) pos) (sPar2 i j f g) :=
  ps_imp (ps_asg (pe_tup (pa_cons ha (pa_cons hb pa_nil s2) s1)) (pg_tup hc (pgs_cons (pg_name hN hi hx fx) (pgs_cons (pg_name hN hj hy fy) pgs_nil q2) q1) hn hst) hs hw) fun Dn σ H ⟨F, e, R, h⟩ => ⟨F, e, R, nrm_of R (k := fun r F1 e1 H1 => SAft W X.K F σ H e Dn ((M.then (M.bind g M.nrm) fun s => M.then (put i r) fun _ => M.then (put j s) fun _ => .nx) e1))
    (fun r F1 e1 H1 v nr p1 h1 hv => ⟨F1, e1, p1.rel, nrm_of p1.rel (k := fun s F2 e2 H2 => SAft W X.K F σ H e Dn ((M.then (put i r) fun _ => M.then (put j s) fun _ => .nx) e2)) (fun s F2 e2 H2 w ns p2 h2 hw => by
      refine ⟨by show 2 ≤ sizeLine; decide, fun p np => ⟨p, [v, w], rfl, SqT.of upd_same, rfl, v, [w], rfl, w, [], rfl, rfl, ?_⟩⟩
      have sm := same_upd (o := .tup [v, w]) np
      have pS := Post.same p2.rel sm
      obtain ⟨e3, w1, h3⟩ := put_then h2
      obtain ⟨e4, w2, h4⟩ := put_then h3
      have hv2 := (hv.post p1.rel p2).post p2.rel pS
      have hw2 := hw.post p2.rel pS
      obtain ⟨F3, P3, mv⟩ := PutR.put R (.of ((p1.trans p2).trans pS)) (fun _ z => z) hv2 nr w1
      obtain ⟨F4, P4, _⟩ := PutR.put R P3 p1.stp.back (mv hw2 ns (fun d d' q er es ev ew => (held_fr hv er ev).2 (held_fr hw es ew).1)) ns w2
      exact h4 F _ _ P4.post) (then_eq p1 h1)⟩)
    (then_eq (.refl R) h)⟩
end
end Cw

/-! Cw, part Xl: zip -/
namespace Cw
open PySem L2
def zipD (xs ys : List D) : List D := List.zipWith (fun x y => D.tup [x, y]) xs ys
theorem zipD_get {xs ys : List D} {i : Nat} {d : D} (h : (zipD xs ys)[i]? = some d) : ∃ x y, xs[i]? = some x ∧ ys[i]? = some y ∧ d = .tup [x, y] := by
  unfold zipD at h
  rw [List.getElem?_zipWith] at h
  cases w : xs[i]? with
  | none => rw [w] at h; cases h
  | some x =>
    cases w2 : ys[i]? with
    | none => rw [w, w2] at h; cases h
    | some y => rw [w, w2] at h; cases h; exact ⟨x, y, rfl, rfl, rfl⟩
theorem zipD_length {xs ys : List D} : (zipD xs ys).length = min xs.length ys.length := by unfold zipD; rw [List.length_zipWith]
theorem itOk_zipL {K : Fg} {B : Ad} {H : Hp} {a b : Addr} {vs us : List V} {ds es : List D} (h : LstAt K B H a vs) (h2 : LstAt K B H b us) (r : RpL K B H vs ds) (r2 : RpL K B H us es) : ItOk K (Itz K a b) B H (zipD ds es) := by
  refine ⟨fun B H => (LstAt K B H a vs ∧ LstAt K B H b us) ∧ RpL K B H vs ds ∧ RpL K B H us es, ⟨⟨h, h2⟩, r, r2⟩, fun B H B' H' ⟨⟨h, k⟩, r, q⟩ h1 h2 => ⟨⟨h.step h1 h2, k.step h1 h2⟩, r.step h1 h2, q.step h1 h2⟩, ?_⟩
  rintro B H ⟨⟨h, h2⟩, r, r2⟩ tr
  refine ⟨fun i d q => ?_, ⟨vs, us, h.sq, h2.sq, by have := r.length; have := r2.length; rw [zipD_length]; omega⟩⟩
  obtain ⟨x, y, hx, hy, rfl⟩ := zipD_get q
  obtain ⟨v, hv, rv⟩ := r.get hx
  obtain ⟨u, hu, ru⟩ := r2.get hy
  refine ⟨⟨vs, us, v, u, h.sq, h2.sq, hv, hu⟩, ?_⟩
  rintro _ H' ⟨T, x', y', rfl, nT, rfl, hx', hy'⟩
  have e := hv.symm.trans (hx' vs h.sq)
  cases e
  have e := hu.symm.trans (hy' us h2.sq)
  cases e
  have sm := same_upd (o := .tup [v, u]) nT
  exact ⟨sm, .tup ⟨fun z => tr T z nT, upd_same⟩ (.cons (rv.step (fun a o q _ => sm a o q) fun a z => .inl z) (.cons (ru.step (fun a o q _ => sm a o q) fun a z => .inl z) .nil))⟩
theorem itOk_zipT {K : Fg} {B : Ad} {H : Hp} {a b : Addr} {vs us : List V} {ds es : List D} (h : TupAt K B H a vs) (h2 : TupAt K B H b us) (r : RpL K B H vs ds) (r2 : RpL K B H us es) : ItOk K (RZ.ItzT K a b) B H (zipD ds es) := by
  refine ⟨fun B H => (TupAt K B H a vs ∧ TupAt K B H b us) ∧ RpL K B H vs ds ∧ RpL K B H us es, ⟨⟨h, h2⟩, r, r2⟩, fun B H B' H' ⟨⟨h, k⟩, r, q⟩ h1 h2 => ⟨⟨h.step h1 h2, k.step h1 h2⟩, r.step h1 h2, q.step h1 h2⟩, ?_⟩
  rintro B H ⟨⟨h, h2⟩, r, r2⟩ tr
  refine ⟨fun i d q => ?_, ⟨vs, us, h.sq, h2.sq, by have := r.length; have := r2.length; rw [zipD_length]; omega⟩⟩
  obtain ⟨x, y, hx, hy, rfl⟩ := zipD_get q
  obtain ⟨v, hv, rv⟩ := r.get hx
  obtain ⟨u, hu, ru⟩ := r2.get hy
  refine ⟨⟨vs, us, v, u, h.sq, h2.sq, hv, hu⟩, ?_⟩
  rintro _ H' ⟨T, x', y', rfl, nT, rfl, hx', hy'⟩
  have e := hv.symm.trans (hx' vs h.sq)
  cases e
  have e := hu.symm.trans (hy' us h2.sq)
  cases e
  have sm := same_upd (o := .tup [v, u]) nT
  exact ⟨sm, .tup ⟨fun z => tr T z nT, upd_same⟩ (.cons (rv.step (fun a o q _ => sm a o q) fun a z => .inl z) (.cons (ru.step (fun a o q _ => sm a o q) fun a z => .inl z) .nil))⟩
/-- zip of two lists or of two tuples that are shared -/
def iZipD (fs : M (List D)) : M (List D) := M.bind fs fun ds => match ds with
  | [.lst xs, .lst ys] => M.ret (zipD xs ys)
  | [.tup xs, .tup ys] => M.ret (zipD xs ys)
  | _ => M.bad
section
variable {X : Cx} {W : Wx} {l l2 : Expr} {fs : M (List D)} {p pos tpos : Pos} {elts : List Expr} {kk : Nat}
theorem pdi_zip (hg : Gl X "zip") (hm : X.mg "zip" = none) (hl : PDL X W [l, l2] fs) (hs : starEach [l, l2] X.env = (false, eval l X.env) :: starEach [l2] X.env := by rfl) (hpl : (backTo pos (starEach [l2] X.env)).any (·.1) = false := by rfl) :
    PDI X W (.Tuple elts kk tpos) (.Call (.Name "zip" p) [l, l2] [] pos) (iZipD fs) :=
  pi_imp (RZ.pi_zipA hg hm hl hs hpl) fun σ H Q ⟨F, e, R, h⟩ => ⟨F, e, R, h.bind.imp fun ds F1 e1 H1 p1 h1 vs rv => by
    split at h1
    · cases rv with
      | cons ra rr =>
        cases rr with
        | cons rb rr =>
          cases rr
          obtain ⟨a, vs, rfl, t, r⟩ := RpL.sq_lst ra
          obtain ⟨b, us, rfl, t2, r2⟩ := RpL.sq_lst rb
          exact ⟨a, b, vs, us, rfl, .inl ⟨t.sq, t2.sq, h1 F1 H1 (.refl p1.rel) _ (itOk_zipL t t2 r r2)⟩⟩
    · cases rv with
      | cons ra rr =>
        cases rr with
        | cons rb rr =>
          cases rr
          obtain ⟨a, vs, rfl, t, r⟩ := ra.tup_inv
          obtain ⟨b, us, rfl, t2, r2⟩ := rb.tup_inv
          exact ⟨a, b, vs, us, rfl, .inr ⟨t.sq, t2.sq, h1 F1 H1 (.refl p1.rel) _ (itOk_zipT t t2 r r2)⟩⟩
    · exact h1.elim⟩
end
end Cw

/-! Cw, part Xm: abs(x) by __abs__ -/
namespace Cw
open PySem L2 PySem.Calls
structure SpI (K : Fg) (C f : Addr) (nm : Str) : Prop where
  hs : PySem.W.findIn K (.ref C) nm = some (some (.ref f))
  hf : PySem.W.typeIn K (.ref f) = some (.type "function")
/-- the callee runs below a builtin -/
theorem runGA {X : Cx} {CX : CXT} {k : Nat} {f : Addr} {fd : FuncData} {ps : List Str} {sp : Sp} {E : L2.St → L2.XK} {pins : List (Addr × Obj)} {σ : L2.St} {H : Hp} {s : Shared} {Q : VK} {us : List Value} {vs : List V} {A : Around} (F : FnG X.prog X.w X.K X.mg X.base CX k f fd ps sp) (sb : Sub X k A) (hgd : A.guards = some []) (hb : Binds X.K fd ps [])
    (hx : PassesAt CX X σ (E σ)) (I : Inv X pins σ H s) (r : Vals vs us) (h : sp vs H Q (E σ)) : wpAny (model X.prog X.w) A (call (.ref f) us) (EP X pins σ Q) X.xe s := by
  have hl : us.length = ps.length := r.length.symm.trans (F.len _ _ _ _ h)
  have e0 : Env0 X.prog X.w X.K X.mg X.base A X.stack s H := by
    have e := I.env0
    exact ⟨by rw [sb.fr]; exact e.frames, e.mod, e.bs, e.bsz, e.funs, e.frf, e.hok, e.bare⟩
  apply PySem.wpAny_call
  apply codeAny_mono (F.run A X.stack s H ⟨us, []⟩ us vs Q (E σ) sb.room hgd e0 (by
    have := hb s us I.kIn (by simpa using hl)
    simpa using this) r h)
  intro res s' z
  match res, z with
  | .error e, z => exact hx pins H s e s' I z
  | .ok (.ret u), z => exact I.after z
def dAbsI (C : Addr) (G : Fn) (ds : List D) : Option (Bool × D) := match ds with
  | [.ins C1 fs] => if C1 = C then (match G [.ins C1 fs] with
    | .ok (false, .int i) [] => some (false, .int i)
    | _ => none) else none
  | ds => dAbs ds
section
variable {X : Cx} {C f : Addr} {fd : FuncData} {ps : List Str} {k : Nat} {G : Fn}
theorem cd_absI (ei : SpI X.K C f "__abs__") (F : FnG X.prog X.w X.K X.mg X.base (L2.CX X.prog X.w) k f fd ps (spD X.K [false] G)) (hb : Binds X.K fd ps []) (hr : Room (k + 1) X.A) (hgd : X.A.guards = some []) : CallR X (.builtin "abs") (rDn X.K (dAbsI C G)) := by
  intro pins s σ H xs us Q I rv hq
  obtain ⟨B, ds, tr, rs, q⟩ := hq
  by_cases hi : ∃ C1 fs, ds = [.ins C1 fs]
  · obtain ⟨C1, fs, rfl⟩ := hi
    unfold dAbsI at q
    simp only at q
    split at q
    · rename_i hC
      subst hC
      obtain ⟨v, rfl, rp⟩ := rs.one
      obtain ⟨a, dxa, fa, rfl, ha, ra⟩ := rp.ins0
      obtain ⟨u, rfl, ru⟩ := rv.one
      cases ru
      obtain ⟨mA, J, _⟩ := ins_get I.hok ha
      obtain ⟨od, J, _⟩ := J.look
      cases w : G [.ins C1 fs] with
      | bad => rw [w] at q; exact q.elim
      | exc x ms => rw [w] at q; exact q.elim
      | ok r ms =>
        rw [w] at q
        split at q
        · rename_i r' i ew
          cases ew
          have hsp : spD X.K [false] G [.ref a] H (fun v H' => v = .int i ∧ Same H H') (WE Wno σ) := by
            refine ⟨B0, [.ins C1 fs], ⟨ra, trivial⟩, List.nodup_nil, fun _ z => z.elim, ?_⟩
            rw [w]
            intro v H' st rv _
            cases rv
            exact ⟨rfl, fun a o q => st.keep a o q (fun z => nomatch z)⟩
          have r2 : Vals [V.ref a] [Value.ref a] := .cons rfl .nil
          have sb : Sub X k X.A.in1 := Sub.in1 (⟨hr, rfl⟩ : Sub X (k + 1) X.A)
          refine call_function_entry PyProof.Rows.kind_abs PyProof.Rows.plain_abs PyProof.Rows.entry_abs (PyProof.Rows.args_abs _) ?_
          unfold Builtin.«abs»
          refine wpAny_bind (m := oneArg "abs" _) (wpAny_pure ?_)
          refine wpAny_bind (m := callSpecial? (.ref a) (Str.ofString "__abs__")) (PySem.W.special_fn I.kIn J ei.hs ei.hf ?_)
          have := runGA (us := [.ref a]) (vs := [.ref a]) F sb hgd hb (passN σ) I r2 hsp
          refine wpAny_mono this (fun r s' z => ?_) fun _ _ x => x
          obtain ⟨z, H', I', rz, ez, ex⟩ := z
          subst ez
          obtain ⟨tk, rfl⟩ := rz
          exact wpAny_pure ⟨_, rfl, .int i, H', I', ⟨_, rfl⟩, q _ _ ex (.int i)⟩
        · exact q.elim
    · exact q.elim
  · refine cd_abs pins s σ H xs us Q I rv ⟨B, ds, tr, rs, ?_⟩
    have e : dAbsI C G ds = dAbs ds := by
      unfold dAbsI
      split
      · exact absurd ⟨_, _, rfl⟩ hi
      · rfl
    rwa [e] at q
end
end Cw

/-! Cw, part Xn: sorted(ints) -/
namespace Cw
open PySem L2
theorem SpI.of {K : Fg} {C f : Addr} {nm : Str} (h : PySem.W.findIn K (.ref C) nm = some (some (.ref f))) (k : PySem.W.isFn K (.ref f) = true) : SpI K C f nm := ⟨h, eq_of_beq k⟩
def srt (ns : List Int) : List Int := ns.mergeSort fun a b => decide (a ≤ b)
theorem srt_perm (ns : List Int) : (srt ns).Perm ns := List.mergeSort_perm _ _
theorem srt_pw (ns : List Int) : (srt ns).Pairwise (· ≤ ·) := by
  have := List.pairwise_mergeSort (le := fun a b : Int => decide (a ≤ b)) (fun a b c h1 h2 => by simp only [decide_eq_true_eq] at *; omega) (fun a b => by simp only [Bool.or_eq_true, decide_eq_true_eq]; omega) ns
  exact this.imp fun h => by simpa using h
theorem pw_uniq : ∀ {l m : List Int}, l.Perm m → l.Pairwise (· ≤ ·) → m.Pairwise (· ≤ ·) → l = m
  | [], m, h, _, _ => (List.nil_perm.mp h).symm
  | x :: l, [], h, _, _ => absurd (List.perm_nil.mp h) (by simp)
  | x :: l, y :: m, h, h1, h2 => by
    have e : x = y := by
      have hx : x ∈ y :: m := h.subset List.mem_cons_self
      have hy : y ∈ x :: l := h.symm.subset List.mem_cons_self
      have a1 : y ≤ x := by
        rcases List.mem_cons.mp hx with z | z
        · omega
        · exact (List.pairwise_cons.mp h2).1 x z
      have a2 : x ≤ y := by
        rcases List.mem_cons.mp hy with z | z
        · omega
        · exact (List.pairwise_cons.mp h1).1 y z
      omega
    subst e
    rw [pw_uniq ((List.perm_cons x).mp h) (List.pairwise_cons.mp h1).2 (List.pairwise_cons.mp h2).2]
theorem srt_uniq {l ns : List Int} (h : l.Perm ns) (p : l.Pairwise (· ≤ ·)) : l = srt ns := pw_uniq (h.trans (srt_perm ns).symm) p (srt_pw ns)
def dSorted : List D → Option (Bool × D)
  | [.lst xs] => (match intL xs with
    | some ns => some (true, .lst ((srt ns).map D.int))
    | none => none)
  | _ => none
theorem RpL.intL' {K : Fg} {B : Ad} {H : Hp} : ∀ ns : List Int, RpL K B H (ns.map V.int) (ns.map D.int)
  | [] => .nil
  | n :: ns => .cons (.int n) (RpL.intL' ns)
section
variable {X : Cx}
theorem cd_sorted : CallR X (.builtin "sorted") (rDn X.K dSorted) := callr_imp cr_sortedI fun xs H Q ⟨B, ds, tr, rs, q⟩ => by
  unfold dSorted at q; split at q
  · obtain ⟨v, rfl, r⟩ := rs.one
    obtain ⟨a, vs, rfl, hl, rl⟩ := r.lst
    split at q
    · rename_i ns w
      have e := rl.ints w
      subst e
      refine ⟨a, ns, rfl, SqL.of hl, fun ns' p hp hs np => ?_⟩
      rw [srt_uniq hp hs]
      exact Res.newL q (RpL.intL' (srt ns)) p np
    · exact q.elim
  · exact q.elim
end
end Cw

/-! Cw, part Xo: x.count(True) of a list of truths -/
namespace Cw
open PySem L2
def eqb (k : Bool) (v : Value) : Bool := match v with
  | .bool n => n == k
  | _ => false
def rCntB (K : PySem.W.Frag) : V → List V → Hp → VK → Prop := fun x xs H Q => ∃ (p : Addr) (bs : List Bool) (k : Bool), x = .ref p ∧ xs = [.bl k] ∧ SqL K H p (bs.map V.bl) ∧ Q (.int (bs.count k : Nat)) H
theorem bools_vals : ∀ {bs : List Bool} {us : List Value}, Vals (bs.map V.bl) us → us = bs.map Value.bool
  | [], _, h => by cases h; rfl
  | b :: bs, _, h => by
    cases h with
    | cons h1 h2 =>
      rw [bools_vals h2]
      cases h1
      rfl
theorem eqb_count (k : Bool) : ∀ bs : List Bool, (bs.map Value.bool).countP (eqb k) = bs.count k
  | [] => rfl
  | b :: bs => by
    rw [List.map_cons, List.countP_cons, List.count_cons, eqb_count k bs] <;> rfl
section
variable {X : Cx}
theorem mt_lcountB : MtR X "list.count" (rCntB X.K) := by
  intro pins s σ H x xs v us Q I rx rxs h
  obtain ⟨p, bs, k, rfl, rfl, hs, q⟩ := h
  cases rx
  obtain ⟨u, rfl, ru⟩ := rxs.one
  cases ru
  obtain ⟨its, rv, ⟨⟨cls, dd, data, sl⟩, n, ho, hc, hdn, hd⟩, hlen⟩ := I.list hs
  simp only at hc hd
  subst hc hd
  have hi := bools_vals rv
  subst hi
  refine call_meets PySem.F.slot_list_count ⟨_, ho, rfl⟩ PySem.F.entry_list_count (PySem.F.args_list_count_2 _ _)
    (SeqAt.list_countAt p _ n dd sl (.bool k) (eqb k)) ⟨ho, fun y hy => ?_, ?_⟩
  · have hy : y ∈ bs.map Value.bool := by simpa using hy
    obtain ⟨b, _, rfl⟩ := List.mem_map.mp hy
    exact SeqAt.EqAt.bool_bool b k
  · have ec := eqb_count k bs
    refine ⟨.int (bs.count k : Nat), H, I.tok _, ⟨s.toks, ?_⟩, q⟩
    show Value.int (((bs.map Value.bool).toArray.toList.countP (eqb k) : Nat) : Int) s.toks = Value.int ((bs.count k : Nat) : Int) s.toks
    rw [List.toList_toArray, ec]
def dCntB (k : Bool) : D → Option (Bool × D)
  | .lst xs => (match blL xs with
    | some bs => some (false, .int (bs.count k : Nat))
    | none => none)
  | _ => none
theorem pd_countB {W : Wx} {o : Expr} {f : M RV} {k : Bool} {j} {p apos cpos : Pos} (ho : PD X W o f)
    (hbase : attributeBase o "count" X.env (eval o X.env) = eval o X.env := by rfl)
    (hfew : ((backTo cpos (starEach [.Constant (.bool k) j p] X.env)).all (fun x => !x.1) && (backToKw cpos (keywordEach [] X.env)).all (fun x => x.1.isSome)
      && decide (([.Constant (.bool k) j p] : List Expr).length + ([] : List Keyword).length + (if ([] : List Keyword).isEmpty then 0 else 1) < 30)) = true := by rfl)
    (hline : (apos.endLine == cpos.line) = true := by rfl) (hs : starEach [.Constant (.bool k) j p] X.env = (false, eval (.Constant (.bool k) j p) X.env) :: starEach [] X.env := by rfl) (hplain : (backTo cpos (starEach [] X.env)).any (·.1) = false := by rfl) :
    PD X W (.Call (.Attribute o "count" apos) [.Constant (.bool k) j p] [] cpos) (eOp1 (dCntB k) f) :=
  pe_imp (pe_bm PySem.F.plainAttrs_list PySem.F.slot_list_count PySem.F.type_list_count mt_lcountB ho (pa_cons pe_bl pa_nil hs) hbase hfew hline hs hplain) fun σ H Q h => by
    obtain ⟨F, e, R, h⟩ := op1_of h
    refine ⟨F, e, R, h.imp fun r F1 e1 H1 p1 h1 v hv => ?_⟩
    obtain ⟨B, dx, tr, rx, q⟩ := h1 v hv
    unfold dCntB at q
    split at q
    · obtain ⟨a, vs, rfl, hl, rl⟩ := rx.lst
      split at q
      · rename_i bs w
        have e := rl.bls w
        subst e
        exact ⟨.inl ⟨rfl, _, SqL.of hl⟩, a, bs, k, rfl, rfl, SqL.of hl, q.int⟩
      · exact q.elim
    · exact q.elim
end
end Cw

/-! Cw, part Xp: x[i], y[j] = e -/
namespace Cw
open PySem L2
def stI (i : Nat) (fk : M RV) (d : D) : S := M.then (eVar i) fun _ => M.then fk fun r => M.then (M.get r) fun k => putIx i k d
abbrev rSLD : TSet := fun o i v H Q => rSetL o i v H Q ∨ rSetD o i v H Q
theorem st_of {W : Wx} {K : Fg} {F1 : Fx} {σ : St} {H1 : Hp} {e1 : En} {Dn : Ends} {i : Nat} {fk : M RV} {d : D} {y : V} (R1 : Rel K F1 σ H1 e1) (ry : Rp K (Bd F1 σ e1) H1 y d) (h1 : SAft W K F1 σ H1 e1 Dn (stI i fk d e1)) :
    gSub (tVar i) (tE W K fk) rSLD y σ H1 Dn.nx := by
  have hb := h1.then
  unfold eVar at hb
  cases w : getE e1 i with
  | none => simp only [w] at hb; exact hb.elim
  | some z =>
    simp only [w] at hb
    have h2 := hb F1 H1 (.refl R1)
    have hv : ∃ v, getS σ i = some v := by
      obtain ⟨fl, d0⟩ := z
      by_cases hf : fl = .sh
      · subst hf
        obtain ⟨v, a, _⟩ := R1.val i d0 w
        exact ⟨v, a⟩
      · obtain ⟨q, a, _⟩ := R1.own i fl d0 w hf
        exact ⟨_, a⟩
    obtain ⟨v, hv⟩ := hv
    refine ⟨v, getS_to hv, F1, e1, R1, h2.then.imp fun r F2 e2 H2 p2 h3 kv hkv => ?_⟩
    unfold M.then M.get at h3
    cases w2 : look e2 r with
    | none => simp only [w2] at h3; exact h3.elim
    | some kd =>
      simp only [w2] at h3
      exact putIx_of p2.rel hv (hkv.look p2.rel w2) (Rp.post ry p2) h3
theorem SAft.gnil {W : Wx} {K : Fg} {F : Fx} {σ : St} {H : Hp} {e : En} {Dn : Ends} : ∀ {r : SR}, SAft W K F σ H e Dn r → SAft W K F σ H e { Dn with nx := fun σ' H' => gNil [] σ' H' Dn.nx } r
  | .nx e', h => fun F' σ' H' p => ⟨rfl, h F' σ' H' p⟩
  | .bk _, h => h
  | .ct _, h => h
  | .rt _ _, h => h
  | .exc _ _, h => h
  | .bad, h => h
def sSwap (i : Nat) (fk : M RV) (j : Nat) (fl : M RV) (fv : M RV) : S := M.then (M.bind fv M.esc) fun d => match d with
  | .tup [da, db] => sSeq (stI i fk da) (stI j fl db)
  | _ => fun _ => .bad
section
variable {X : Cx} {W : Wx} {x y : Str} {p p2 pos tpos tpos2 pt : Pos} {kt : Nat} {v ix jx : Expr} {fk fl fv : M RV} {i j : Nat}
theorem pds_swap (hc : X.calm = true) (he : PD X W v fv)
    (hg1 : PG X (.Subscript (.Name x p) ix tpos) (gSub (tVar i) (tE W X.K fk) rSLD)) (hg2 : PG X (.Subscript (.Name y p2) jx tpos2) (gSub (tVar j) (tE W X.K fl) rSLD))
    (hs : swapsWithSole [.Tuple [.Subscript (.Name x p) ix tpos, .Subscript (.Name y p2) jx tpos2] kt pt] v pos.line X.env = pure false := by rfl)
    (hw : swappedStores [.Tuple [.Subscript (.Name x p) ix tpos, .Subscript (.Name y p2) jx tpos2] kt pt] v X.env = pure none := by rfl)
    (h1 : (assignEach [.Tuple [.Subscript (.Name x p) ix tpos, .Subscript (.Name y p2) jx tpos2] kt pt] X.env).map (·.2) = [assign (.Tuple [.Subscript (.Name x p) ix tpos, .Subscript (.Name y p2) jx tpos2] kt pt) X.env] := by rfl)
    (a1 : (assignEach [.Subscript (.Name x p) ix tpos, .Subscript (.Name y p2) jx tpos2] X.env).map (·.2) = assign (.Subscript (.Name x p) ix tpos) X.env :: (assignEach [.Subscript (.Name y p2) jx tpos2] X.env).map (·.2) := by rfl)
    (a2 : (assignEach [.Subscript (.Name y p2) jx tpos2] X.env).map (·.2) = assign (.Subscript (.Name y p2) jx tpos2) X.env :: (assignEach [] X.env).map (·.2) := by rfl)
    (hn : (assignEach [.Subscript (.Name x p) ix tpos, .Subscript (.Name y p2) jx tpos2] X.env).length = 2 := by rfl) (hst : (assignEach [.Subscript (.Name x p) ix tpos, .Subscript (.Name y p2) jx tpos2] X.env).findIdx? (·.1) = none := by rfl) :
    PDS X W (.Assign [.Tuple [.Subscript (.Name x p) ix tpos, .Subscript (.Name y p2) jx tpos2] kt pt] v pos) (sSwap i fk j fl fv) :=
  ps_imp (ps_asg he (pg_tup hc (pgs_cons hg1 (pgs_cons hg2 pgs_nil a2) a1) hn hst) hs hw h1) fun Dn σ H ⟨F, e, R, h⟩ => ⟨F, e, R, esc_of R (k := fun d F1 e1 H1 => Rel X.K F1 σ H1 e1 ∧ SAft W X.K F1 σ H1 e1 Dn ((match d with
      | .tup [da, db] => sSeq (stI i fk da) (stI j fl db)
      | _ => fun _ => .bad) e1)) (fun d F1 e1 H1 z ⟨R1, h1⟩ rz => by
    split at h1
    · obtain ⟨a, vs, rfl, t, r⟩ := rz.tup_inv
      cases r with
      | cons ra rr =>
        cases rr with
        | cons rb rr =>
          cases rr
          rename_i va vb
          refine ⟨a, [va, vb], rfl, t.sq, rfl, va, [vb], rfl, ?_⟩
          refine st_of (Dn := { Dn with nx := fun σ' H' => gCons (gSub (tVar j) (tE W X.K fl) rSLD) gNil [vb] σ' H' Dn.nx }) R1 ra ?_
          unfold sSeq at h1
          cases q : stI i fk _ e1 with
          | nx e2 =>
            rw [q] at h1
            exact fun F' σ' H' p => ⟨vb, [], rfl, st_of p.rel (Rp.post rb p) (SAft.gnil (SAft.post p h1))⟩
          | bk e2 => rw [q] at h1; exact h1
          | ct e2 => rw [q] at h1; exact h1
          | rt r e2 => rw [q] at h1; exact h1
          | exc x e2 => rw [q] at h1; exact h1
          | bad => rw [q] at h1; exact h1
    · exact h1.elim) (h.then.imp fun d F1 e1 H1 p1 h1 => ⟨p1.rel, h1⟩)⟩
end
end Cw

/-! Cw, part Xq: {k: v} of two ints -/
namespace Cw
open PySem L2
def eDisp1 (k v : Int) : M RV := M.ret (.fr (.dic false [(.int k, .int v)]))
section
variable {X : Cx} {W : Wx} {pos pk pv : Pos} {k v : Int} {jk jv}
theorem pd_disp1 : PD X W (.Dict [some (.Constant (.int k) jk pk)] [.Constant (.int v) jv pv] pos) (eDisp1 k v) :=
  pe_imp (pe_disp (pps_cons pe_int pe_int pps_nil) rfl rfl (by simp) (by simp)) fun σ H Q ⟨F, e, R, h⟩ p np => by
    refine ⟨upd_same, [(.inl k, .int v)], rfl, by simp, ?_⟩
    have e1 : upd (upd H p (.dK [])) p (.dK (mergeK [] [(.inl k, .int v)])) = upd H p (.dK [(.inl k, .int v)]) := by rw [upd_upd]; rfl
    rw [e1]
    have s := same_upd (o := .dK [(.inl k, .int v)]) np
    exact h (F.plus p) _ ⟨R.plus s np (by rw [upd_same]; exact fun z => nomatch z), .same s, fun _ z => .inl z, ⟨rfl, fun a z => .inl z, fun a z => z.elim .inl fun z => .inr (z ▸ np)⟩⟩ _ ⟨p, rfl, np, .inr rfl, _, upd_same, .cons (.int v) .nil⟩
end
end Cw

set_option maxHeartbeats 4000000
/-! Cw, part Xr: x + y, x * n, n * x, x - t by the methods of an own class -/
namespace Cw
open PySem L2 PySem.Calls
/-- what the class has for an operator -/
structure BiI (K : Fg) (C f : Addr) (nm : String) : Prop where
  hc : PySem.W.selfFirst K C = true
  hs : PySem.W.findIn K (.ref C) (PySem.dunder nm) = some (some (.ref f))
  hf : PySem.W.isFn K (.ref f) = true
/-- what an own class and a given type have for an operator -/
structure BiT (K : Fg) (C : Addr) (nm T : String) : Prop where
  rc : ∃ rc, PySem.W.findIn K (.ref C) (dunderR nm) = some rc ∧ (rc = none ∨ ∃ g : Addr, rc = some (.ref g))
  f1 : ∃ fo, PySem.W.findIn K (.type T) (PySem.dunder nm) = some fo
  f2 : ∃ ro, PySem.W.findIn K (.type T) (dunderR nm) = some ro
  hsub : PySem.W.subIn K (.type T) (.ref C) = some false
/-- the reflected method, for ints at the left -/
structure BiR (K : Fg) (C f : Addr) (nm : String) : Prop where
  hr : PySem.W.findIn K (.ref C) (dunderR nm) = some (some (.ref f))
  hg : PySem.W.isFn K (.ref f) = true
  hsub : PySem.W.subIn K (.ref C) (.type "int") = some false
section
variable {prog : Program} {w : World} {A : Around} {E : Value → Shared → Prop} {s : Shared} {K : Fg} {x C L f : Addr} {h₀ : Heap} {m : Str → Option Value} {ox : Obj} {od : Option Obj} {T : String}
theorem binT_looks {op : Operator} {b : Value} {Q : Value → Shared → Prop} (X : K.In s.heap) (I : PySem.W.InstAt s.heap x ox C od) (hb : PySem.W.Looks (model prog w) s.heap (typeOf b) (.type T)) (bi : BiI K C f op.info.2) (bt : BiT K C op.info.2 T)
    (h : wpAny (model prog w) A (call (.ref f) [.ref x, b]) (PySem.W.CmpBack Q) E s) : wpAny (model prog w) A (binaryOp op (.ref x) b) Q E s := by
  obtain ⟨⟨rc, hr, hp⟩, ⟨fo, h1⟩, ⟨ro, h2⟩, hsub⟩ := bt
  obtain ⟨hc, hs, hf⟩ := bi
  obtain ⟨cd, rest, hcd, hm⟩ := PySem.W.ksp_first hc
  rcases hi : op.info with ⟨sym, nm'⟩
  rw [hi] at hs hr h1 h2
  dsimp only at hs hr h1 h2
  have one := PySem.W.ksp_try X I hs hf h
  obtain ⟨hh, g, d, tt, os⟩ := s
  have k1 : PySem.W.Looks (model prog w) hh (typeOf (.ref x)) (.ref C) := I.type
  have k2 : PySem.W.Looks (model prog w) hh (typeOf b) (.type T) := hb
  have k3 : PySem.W.Looks (model prog w) hh (fillsNumberSlot (.ref C) nm') true := PySem.W.fills_K X hcd hm hs
  have k4 := PySem.W.ksp_fillsT (M := model prog w) (T := T) (nm := nm') X h1 h2
  have k5 : PySem.W.Looks (model prog w) hh (isSubtype (.type T) (.ref C)) false := PySem.W.looks_subIn X hsub
  have k6 : PySem.W.Looks (model prog w) hh (numberSlotInPython (.ref C) nm') true := PySem.W.ksp_inPy X hs hr hp
  have k7 : PySem.W.Looks (model prog w) hh (numberSlotInPython (.type T) nm') false := PySem.W.Looks.of_pure rfl
  have k8 : PySem.W.Looks (model prog w) hh (typeLookup (.type T) (dunderR nm')) ro := PySem.W.looks_findIn X h2
  generalize ((fo.isSome && !isSeqSlot fo) || (ro.isSome && !isSeqSlot ro)) = right at k4
  have ne : (Value.ref C == Value.type T) = false := Bool.eq_false_iff.mpr fun q => by cases beq_iff_eq.mp q
  simp only [binaryOp, hi]
  refine wpAny_holding (wpAny_bind ?_)
  unfold binaryOp1
  refine wpAny_bind (k1.at (wpAny_bind (k2.at (wpAny_bind (k3.at ?_)))))
  simp only [ne, Bool.false_eq_true, if_false]
  cases right with
  | false =>
    repeat ((fail_if_success (with_reducible show wpAny _ _ (tryMethod _ _ _) _ _ _)); lk)
    refine wpAny_mono one (fun r s' hr' => ?_) fun _ _ e => e
    obtain ⟨v, rfl, hq⟩ := hr'
    repeat lk
    exact hq
  | true =>
    repeat ((fail_if_success (with_reducible show wpAny _ _ (tryMethod _ _ _) _ _ _)); lk)
    refine wpAny_mono one (fun r s' hr' => ?_) fun _ _ e => e
    obtain ⟨v, rfl, hq⟩ := hr'
    repeat lk
    exact hq
theorem int_mul_inst (a : Int) (t : Tok) (x C dx : Addr) :
    Meets (Builtin.«int.__mul__» ⟨[.int a t, .ref x], []⟩) (fun _ R s => s.heap.get? x = some (PySem.W.instObj C dx) ∧ R (.ok (.ret Value.notImplemented)) s) :=
  .of_wp fun prog w A R s h => by
    obtain ⟨hp, g, d, tk, os⟩ := s
    obtain ⟨hl, h⟩ := h
    unfold PySem.W.instObj at hl
    wp_walk using wpAny_loadPart' hl
    exact ⟨_, rfl, h⟩
theorem int_times {n : Int} {t : Tok} {Q : Value → Shared → Prop} {dx g : Addr} (X : K.In s.heap) (I : PySem.W.InstAt s.heap x (PySem.W.instObj C dx) C od) (bi : BiI K C f "mul") (br : BiR K C g "mul")
    (h : wpAny (model prog w) A (call (.ref g) [.ref x, .int n t]) (PySem.W.CmpBack Q) E s) : wpAny (model prog w) A (binaryOp .Mult (.int n t) (.ref x)) Q E s := by
  obtain ⟨hc, hs, hf⟩ := bi
  obtain ⟨hr, hg, hsub⟩ := br
  obtain ⟨cd, rest, hcd, hm⟩ := PySem.W.ksp_first hc
  have one := PySem.W.ksp_try X I hr hg h
  have k1 : PySem.W.Looks (model prog w) s.heap (typeOf (.ref x)) (.ref C) := I.type
  have k3 : PySem.W.Looks (model prog w) s.heap (fillsNumberSlot (.ref C) "mul") true := PySem.W.fills_K X hcd hm hs
  have k5 : PySem.W.Looks (model prog w) s.heap (isSubtype (.ref C) (.type "int")) false := PySem.W.looks_subIn X hsub
  have dec : wpAny (model prog w) A (call (.builtin "int.__mul__") [.int n t, .ref x]) (fun v s' => v = .notImplemented ∧ s' = s) E s := call_meets PySem.F.slot_int_mul (typeIs_int s n t) PySem.F.entry_int_mul (PySem.F.args_int_mul_2 _ _) (int_mul_inst n t x C dx) ⟨I.at_, rfl, rfl⟩
  have ne : (Value.type "int" == Value.ref C) = false := Bool.eq_false_iff.mpr fun q => by cases beq_iff_eq.mp q
  unfold binaryOp
  refine wpAny_holding (wpAny_bind ?_)
  unfold binaryOp1
  refine wpAny_bind (wpAny_pure (wpAny_bind (k1.here ?_)))
  refine wpAny_bind (wpAny_of_eq PySem.F.fills_int_mul ?_)
  simp only [ne, Bool.false_eq_true, if_false]
  refine wpAny_bind (k3.here ?_)
  simp only [Bool.and_true, if_true]
  refine wpAny_bind (k5.here ?_)
  simp only [Bool.false_eq_true, if_false]
  refine wpAny_bind (wpAny_pure ?_)
  simp only [Bool.and_true, Bool.not_false, if_true, Bool.false_eq_true, if_false]
  refine wpAny_bind (m := tryMethod (.int n t) _ _) (wpAny_tryMethod_declines (T := "int") (typeIs_int s n t) PySem.F.slot_int_mul (wpAny_mono dec (fun v s' z => ⟨z.1, ?_⟩) fun _ _ z => z))
  obtain ⟨rfl, rfl⟩ := z
  dsimp only
  refine wpAny_bind (wpAny_mono one (fun r s' hr' => ?_) fun _ _ e => e)
  obtain ⟨v, rfl, hq⟩ := hr'
  dsimp only
  exact wpAny_bind (wpAny_rule (wpAny_pure (wpAny_pure hq)))
end
/-- what may stand at the right of an own object -/
def biOk (C : Addr) : D → Bool
  | .int _ => true
  | .tup _ => true
  | .ins C2 _ => decide (C2 = C)
  | _ => false
def binM (C : Addr) (GL GR : Option Fn) (x y : D) : M RV := match x with
  | .ins C1 fs => (match GL with
    | some G => if C1 = C ∧ biOk C y = true then callM [false, false] G [.sh (.ins C1 fs), .sh y] else M.bad
    | none => M.bad)
  | .int n => (match GR with
    | some G => (match y with
      | .ins C2 gs => if C2 = C then callM [false, false] G [.sh (.ins C2 gs), .sh (.int n)] else M.bad
      | _ => M.bad)
    | none => M.bad)
  | _ => M.bad
def eBinI (C : Addr) (GL GR : Option Fn) (f g : M RV) : M RV := M.bind (M.bind f M.esc) fun x => M.bind (M.bind g M.esc) fun y => binM C GL GR x y
/-- the right operand -/
def YOk (C : Addr) (H : Hp) (y : V) : Prop := (∃ i, y = .int i) ∨ (∃ b vs, y = .ref b ∧ H b = some (.tup vs)) ∨ ∃ b dx fs, y = .ref b ∧ H b = some (.ins C dx fs)
def rBin (W : Wx) (K : Fg) (C : Addr) (GL GR : Option Fn) (σ : St) : R2 := fun x y H Q =>
  (∃ G a dx fs, GL = some G ∧ x = .ref a ∧ H a = some (.ins C dx fs) ∧ YOk C H y ∧ spD K [false, false] G [x, y] H Q (WE W σ)) ∨
  (∃ G n b dx fs, GR = some G ∧ x = .int n ∧ y = .ref b ∧ H b = some (.ins C dx fs) ∧ spD K [false, false] G [y, x] H Q (WE W σ))
section
variable {W : Wx} {K : Fg} {C : Addr} {GL GR : Option Fn} {f g : M RV} {σ : St} {H : Hp} {Q : VK}
theorem yok_of {B : Ad} {y : V} {d : D} (r : Rp K B H y d) (h : biOk C d = true) : YOk C H y := by
  cases r with
  | int i => exact .inl ⟨i, rfl⟩
  | tup t _ => exact .inr (.inl ⟨_, _, rfl, t.2⟩)
  | ins nb hh r => exact .inr (.inr ⟨_, _, _, rfl, by
      have e := of_decide_eq_true h
      rw [← e]
      exact hh⟩)
  | _ => cases h
theorem bin_of (h : tE W K (eBinI C GL GR f g) σ H Q) : tE W K f σ H fun x H1 => tE W K g σ H1 fun y H2 => rBin W K C GL GR σ x y H2 Q := by
  obtain ⟨F, e, R, h⟩ := h
  refine ⟨F, e, R, esc_of R (k := fun d F1 e1 H1 => Rel K F1 σ H1 e1 ∧ (∀ a, H1 a = none → H a = none) ∧ Aft W K F1 σ H1 e1 (fun r F' e' H' => ∀ v, Held K F' σ H H' e' v r → Q v H') ((M.bind (M.bind g M.esc) fun y => binM C GL GR d y) e1)) (fun d F1 e1 H1 v ⟨R1, bk, h1⟩ rp => ?_) (h.bind.imp fun r F1 e1 H1 p1 h1 => ⟨p1.rel, p1.stp.back, h1⟩)⟩
  refine ⟨F1, e1, R1, esc_of R1 (k := fun d2 F2 e2 H2 => Post K F1 σ H1 e1 F2 σ H2 e2 ∧ Aft W K F2 σ H2 e2 (fun r F' e' H' => ∀ v, Held K F' σ H H' e' v r → Q v H') (binM C GL GR d d2 e2)) (fun d2 F2 e2 H2 v2 ⟨p2, h2⟩ rp2 => ?_) (h1.bind.imp fun r F1 e1 H1 p1 h1 => ⟨p1, h1⟩)⟩
  have rp' := rp.post p2
  have bk2 : ∀ a, H2 a = none → H a = none := fun a z => bk a (p2.stp.back a z)
  cases d with
  | ins C1 fs =>
    cases GL with
    | some G =>
      unfold binM at h2
      simp only at h2
      by_cases hC : C1 = C ∧ biOk C d2 = true
      · rw [if_pos hC] at h2
        obtain ⟨rfl, hy⟩ := hC
        obtain ⟨a, dx, fs', rfl, ha, rf⟩ := RpB.ins (.inl rp')
        refine .inl ⟨G, a, dx, fs', rfl, rfl, ha, yok_of rp2 hy, ?_⟩
        exact callM_of p2.rel bk2 (vs := [.ref a, v2]) (show HeldL K F2 σ H H2 e2 [.ref a, v2] [.sh (.ins C1 fs), .sh d2] from ⟨rp', rp2, trivial⟩) h2
      · rw [if_neg hC] at h2; exact h2.elim
    | none => exact h2.elim
  | int n =>
    cases GR with
    | some G =>
      cases d2 with
      | ins C2 gs =>
        unfold binM at h2
        simp only at h2
        by_cases hC : C2 = C
        · rw [if_pos hC] at h2
          subst hC
          obtain ⟨b, dx, fs', rfl, hb, rf⟩ := RpB.ins (.inl rp2)
          cases rp'
          refine .inr ⟨G, n, b, dx, fs', rfl, rfl, rfl, hb, ?_⟩
          exact callM_of p2.rel bk2 (vs := [.ref b, .int n]) (show HeldL K F2 σ H H2 e2 [.ref b, .int n] [.sh (.ins C2 gs), .sh (.int n)] from ⟨rp2, .int n, trivial⟩) h2
        · rw [if_neg hC] at h2; exact h2.elim
      | _ => exact h2.elim
    | none => exact h2.elim
  | _ => exact h2.elim
end
theorem relV_back {v : V} {u : Value} {Q : Value → Shared → Prop} {s : Shared} (r : RelV v u) (q : Q u s) : PySem.W.CmpBack Q u s := by
  cases v with
  | non => cases r; exact q
  | bl b => cases r; exact q
  | int i => obtain ⟨t, rfl⟩ := r; exact q
  | str i => obtain ⟨t, rfl⟩ := r; exact q
  | byt i => obtain ⟨t, rfl⟩ := r; exact q
  | flt i => obtain ⟨t, rfl⟩ := r; exact q
  | ref a => cases r; exact q
  | ty n => cases r; exact q
section
variable {X : Cx} {W : Wx} {a b : Expr} {f g : M RV} {pos : Pos} {C fa ga : Addr} {fd gd : FuncData} {ps qs : List Str} {k k2 : Nat} {G G2 : Fn} {CX : CXT}
theorem pe_binG {op : Operator} {r : St → R2} {ta tb : TE} (ho : ∀ (pins : List (Addr × Obj)) (s : Shared) (σ : St) (H : Hp) (x y : V) (v u : Value) (Q : VK), Inv X pins σ H s → RelV x v → RelV y u → r σ x y H Q → wpAny (model X.prog X.w) X.A (binaryOp op v u) (EP X pins σ Q) X.xe s)
    (ha : PE X a ta) (hb : PE X b tb) : PE X (.BinOp a op b pos) (fun σ H Q => ta σ H fun x H1 => tb σ H1 fun y H2 => r σ x y H2 Q) :=
  ⟨fun pins s σ H Q I h => wpAny_BinOp (binT ha hb I h fun v u s2 x y H2 I2 rx ry q => ho pins s2 σ H2 x y v u Q I2 rx ry q)⟩
/-- an own object at the left -/
theorem left_run {op : Operator} {σ : St} {x y : V} {v u : Value} {H : Hp} {s : Shared} {pins : List (Addr × Obj)} {Q : VK} (bi : BiI X.K C fa op.info.2) (b1 : BiT X.K C op.info.2 "int") (b2 : BiT X.K C op.info.2 "tuple")
    (F : FnG X.prog X.w X.K X.mg X.base CX k fa fd ps (spD X.K [false, false] G)) (hb : Binds X.K fd ps []) (hr : Room k X.A) (hgd : X.A.guards = some []) (hx : ∀ σ, PassesAt CX X σ (WE W σ))
    (I : Inv X pins σ H s) (rx : RelV x v) (ry : RelV y u) {a dx : Addr} {fs : List (Str × V)} (ex : x = .ref a) (ha : H a = some (.ins C dx fs)) (hy : YOk C H y) (h : spD X.K [false, false] G [x, y] H Q (WE W σ)) :
    wpAny (model X.prog X.w) X.A (binaryOp op v u) (EP X pins σ Q) X.xe s := by
  subst ex
  cases rx
  obtain ⟨mA, J, _⟩ := ins_get I.hok ha
  obtain ⟨od, J, _⟩ := J.look
  have go : wpAny (model X.prog X.w) X.A (call (.ref fa) [.ref a, u]) (PySem.W.CmpBack (EP X pins σ Q)) X.xe s :=
    wpAny_mono (runG (us := [.ref a, u]) (vs := [.ref a, y]) (xs := []) (ws := []) F hr hgd hb .nil (hx σ) I (.cons rfl (.cons ry .nil)) h) (fun r s' z => by
      obtain ⟨v, H', I', rv, q⟩ := z
      exact relV_back rv ⟨v, H', I', rv, q⟩) fun _ _ z => z
  rcases hy with ⟨i, rfl⟩ | ⟨b, vs, rfl, hb'⟩ | ⟨b, dx2, fs2, rfl, hb'⟩
  · obtain ⟨t, rfl⟩ := ry
    exact binT_looks (T := "int") I.kIn J (PySem.W.Looks.of_pure rfl) bi b1 go
  · cases ry
    obtain ⟨_, its, _, o, ho, hc, _⟩ := I.hok _ _ hb'
    exact binT_looks (T := "tuple") I.kIn J (hc ▸ (PySem.W.Looks.ld ho).andThen .now) bi b2 go
  · cases ry
    obtain ⟨mB, J', _⟩ := ins_get I.hok hb'
    obtain ⟨od', J', _⟩ := J'.look
    obtain ⟨m, hF⟩ := I.fr
    exact PySem.W.binop_K hF I.ok.mod.kin J J'.type bi.hc bi.hs bi.hf go
/-- an own object at the left, the same or an int or a tuple at the right -/
theorem pd_binL {op : Operator} (bi : BiI X.K C fa op.info.2) (b1 : BiT X.K C op.info.2 "int") (b2 : BiT X.K C op.info.2 "tuple")
    (F : FnG X.prog X.w X.K X.mg X.base CX k fa fd ps (spD X.K [false, false] G)) (hr : Room k X.A) (hgd : X.A.guards = some []) (hb : Binds X.K fd ps []) (hx : ∀ σ, PassesAt CX X σ (WE W σ)) (ha : PD X W a f) (hg : PD X W b g) :
    PD X W (.BinOp a op b pos) (eBinI C (some G) none f g) :=
  pe_imp (pe_binG (r := rBin W X.K C (some G) none) (fun pins s σ H x y v u Q I rx ry q => by
    rcases q with ⟨G', a, dx, fs, e, ex, h1, hy, h⟩ | ⟨G', n, b, dx, fs, e, _⟩
    · cases e
      exact left_run bi b1 b2 F hb hr hgd hx I rx ry ex h1 hy h
    · cases e) ha hg) fun _ _ _ => bin_of
/-- x * n and n * x -/
theorem pd_binM (bi : BiI X.K C fa "mul") (b1 : BiT X.K C "mul" "int") (b2 : BiT X.K C "mul" "tuple") (br : BiR X.K C ga "mul")
    (F : FnG X.prog X.w X.K X.mg X.base CX k fa fd ps (spD X.K [false, false] G)) (hr : Room k X.A) (hgd : X.A.guards = some []) (hb : Binds X.K fd ps [])
    (F2 : FnG X.prog X.w X.K X.mg X.base CX k2 ga gd qs (spD X.K [false, false] G2)) (hr2 : Room k2 X.A) (hb2 : Binds X.K gd qs []) (hx : ∀ σ, PassesAt CX X σ (WE W σ)) (ha : PD X W a f) (hg : PD X W b g) :
    PD X W (.BinOp a .Mult b pos) (eBinI C (some G) (some G2) f g) :=
  pe_imp (pe_binG (r := rBin W X.K C (some G) (some G2)) (fun pins s σ H x y v u Q I rx ry q => by
    rcases q with ⟨G', a, dx, fs, e, ex, h1, hy, h⟩ | ⟨G', n, b, dx, fs, e, rfl, rfl, h1, h⟩
    · cases e
      exact left_run (op := .Mult) bi b1 b2 F hb hr hgd hx I rx ry ex h1 hy h
    · cases e
      obtain ⟨t, rfl⟩ := rx
      cases ry
      obtain ⟨mA, J, _⟩ := ins_get I.hok h1
      obtain ⟨od, J, _⟩ := J.look
      exact int_times I.kIn J bi br (wpAny_mono (runG (us := [.ref b, .int n t]) (vs := [.ref b, .int n]) (xs := []) (ws := []) F2 hr2 hgd hb2 .nil (hx σ) I (.cons rfl (.cons ⟨t, rfl⟩ .nil)) h) (fun r s' z => by
        obtain ⟨v, H', I', rv, q⟩ := z
        exact relV_back rv ⟨v, H', I', rv, q⟩) fun _ _ z => z)) ha hg) fun _ _ _ => bin_of
end
end Cw

namespace Cw
open PySem L2
/-- _law_bag: 0 _law_script, 1 _law_cell -/
noncomputable def v_law_bag_0 (a : Nat → Addr) : M RV :=
    (eCallB dAbs (aCons (eVar 1) aNil))
noncomputable def g_law_bag (a : Nat → Addr) : S :=
    (sRet (eLst (lCons (eC (.int 0)) (lCons (eC (.int 987654321)) (lCons (eC (.int 0)) (lCons (eLc [1] (iSeq (eSl (eVar 0) oNone (oSome (eC (.int 63))))) (gN 1) eYes (v_law_bag_0 a)) aNil))))))
noncomputable def m_law_bag (a : Nat → Addr) : Fn := fnOf 2 [false] (g_law_bag a)
/-- _law_take: 0 _law_bag_here, 1 _law_many, 2 _law_cell, 3 _law_mix, 4 _law_value, 5 _law_first, 6 _law_second -/
noncomputable def g_law_take (a : Nat → Addr) : S :=
    (sSeq (sIf (eBool (eOp2 (dEq false) (eOp2 dIxD (eVar 0) (eC (.int 0))) (eC (.int 0)))) (sSeq (sSet 2 (eC (.int 0)))
    (sSeq (sIf (eBool (eOp2 (dCmp fun i j => decide (i < j)) (eOp2 dIxD (eVar 0) (eC (.int 2))) (eCallB dLen (aCons (eOp2 dIxD (eVar 0) (eC (.int 3))) aNil)))) (sSet 2 (eOp2 dIxD (eOp2 dIxD (eVar 0) (eC (.int 3))) (eOp2 dIxD (eVar 0) (eC (.int 2))))) sNil)
    (sSeq (sAugIx 0 (eC (.int 2)) (eC (.int 1)))
    (sSeq (sIf (eBool (eOp2 (dCmp fun i j => decide (j ≤ i)) (eVar 2) (eC (.int 1000000000000000000)))) (sSetIx 0 (eC (.int 0)) (eVar 2)) sNil)
    (sSeq (sSet 3 (eOp2 dAdd (eOp2 dMul (eOp2 dIxD (eVar 0) (eC (.int 1))) (eC (.int 48271))) (eOp2 dMod (eCallB dInt (aCons (eVar 2) aNil)) (eC (.int 2147483647)))))
    (sSetIx 0 (eC (.int 1)) (eOp2 dMod (eCallB dInt (aCons (eOp2 dAdd (eVar 3) (eOp2 dMul (eC (.int 7919)) (eOp2 dIxD (eVar 0) (eC (.int 2))))) aNil)) (eC (.int 2147483647))))))))) sNil)
    (sSeq (sIf (eBool (eOp2 (dCmp fun i j => decide (j < i)) (eOp2 dIxD (eVar 0) (eC (.int 0))) (eC (.int 0)))) (sSeq (sSet 4 (eOp2 dMod (eCallB dInt (aCons (eOp2 dIxD (eVar 0) (eC (.int 0))) aNil)) (eVar 1)))
    (sSeq (sSetIx 0 (eC (.int 0)) (eOp2 dDiv (eOp2 dIxD (eVar 0) (eC (.int 0))) (eVar 1)))
    (sRet (eVar 4)))) sNil)
    (sSeq (sSet 5 (eOp2 dMod (eCallB dInt (aCons (eOp2 dMul (eOp2 dAdd (eOp2 dIxD (eVar 0) (eC (.int 1))) (eC (.int 1))) (eC (.int 39373))) aNil)) (eC (.int 1000000007))))
    (sSeq (sSet 6 (eOp2 dMod (eCallB dInt (aCons (eOp2 dMul (eVar 5) (eVar 5)) aNil)) (eC (.int 998244353))))
    (sRet (eOp2 dMod (eCallB dInt (aCons (eOp2 dDiv (eOp2 dMod (eCallB dInt (aCons (eOp2 dMul (eVar 6) (eC (.int 30011))) aNil)) (eC (.int 998244353))) (eC (.int 7))) aNil)) (eVar 1)))))))
noncomputable def m_law_take (a : Nat → Addr) : Fn := fnOf 7 [true, false] (g_law_take a)
/-- _law_one: 0 _law_bag_here, 1 _law_things -/
noncomputable def g_law_one_tt (a : Nat → Addr) : S :=
    (sRet (eOp2 dIxD (eVar 1) (eCall [true, false] (m_law_take a) (kCons (eVar 0) (sCons (eCallB dLen (aCons (eVar 1) aNil)) aNil)))))
noncomputable def m_law_one_tt (a : Nat → Addr) : Fn := fnOf 2 [true, true] (g_law_one_tt a)
/-- _law_some: 0 _law_bag_here, 1 _law_things, 2 _law_one_here -/
noncomputable def t_law_some_0 (a : Nat → Addr) : M Bool :=
    (eBool (eOp2 (dEq false) (eCall [true, false] (m_law_take a) (kCons (eVar 0) (sCons (eC (.int 2)) aNil))) (eC (.int 1))))
noncomputable def g_law_some (a : Nat → Addr) : S :=
    (sRet (eLc [2] (iSeq (eVar 1)) (gN 2) (t_law_some_0 a) (eVar 2)))
noncomputable def m_law_some (a : Nat → Addr) : Fn := fnOf 3 [true, false] (g_law_some a)
/-- _law_job: 0 _law_bag_here, 1 _law_size, 2 _law_way, 3 _law_job_here -/
noncomputable def g_law_job (a : Nat → Addr) : S :=
    (sSeq (sSet 2 (eCall [true, false] (m_law_take a) (kCons (eVar 0) (sCons (eC (.int 6)) aNil))))
    (sSeq (sIf (eBool (eOp2 (dEq false) (eVar 2) (eC (.int 0)))) (sRet (eTRg (rg1 (eVar 1)))) sNil)
    (sSeq (sSet 3 (eCall [true, false] (m_law_some a) (kCons (eVar 0) (sCons (eLRg (rg1 (eVar 1))) aNil))))
    (sSeq (sIf (eBool (eOp2 (dCmp fun i j => decide (i < j)) (eVar 2) (eC (.int 3)))) (sSet 3 (eCall [true, false] (m_law_some a) (kCons (eVar 0) (sCons (eVar 3) aNil)))) sNil)
    (sRet (eCallB dTuple (aCons (eVar 3) aNil)))))))
noncomputable def m_law_job (a : Nat → Addr) : Fn := fnOf 4 [true, false] (g_law_job a)
/-- _law_jobs: 0 _law_bag_here, 1 _law_size, 2 _law_most, 3 _law_jobs_here, 4 _law_k -/
noncomputable def b_law_jobs_0 (a : Nat → Addr) : S :=
    (sFrz [1] (sFgt [2, 4] (sIf (eAnd (eBool (eOp2 (dEq true) (eVar 3) (eLst aNil))) (eBool (eOp2 (dEq false) (eCall [true, false] (m_law_take a) (kCons (eVar 0) (sCons (eC (.int 5)) aNil))) (eC (.int 0))))) (sExpr (eMut 3 dApp (lCons (eCall [true, true] (m_law_one_tt a) (kCons (eVar 0) (kCons (eVar 3) aNil))) aNil))) (sExpr (eMut 3 dApp (lCons (eCall [true, false] (m_law_job a) (kCons (eVar 0) (sCons (eVar 1) aNil))) aNil))))))
noncomputable def g_law_jobs (a : Nat → Addr) : S :=
    (sSeq (sSet 3 (eLst aNil))
    (sSeq (sFor (iPre [2, 4] [1] (iRng1D (aCons (eCall [true, false] (m_law_take a) (kCons (eVar 0) (sCons (eOp2 dAdd (eVar 2) (eC (.int 1))) aNil))) aNil))) (gN 4) (b_law_jobs_0 a))
    (sRet (eVar 3))))
noncomputable def m_law_jobs (a : Nat → Addr) : Fn := fnOf 5 [true, false, false] (g_law_jobs a)
/-- is_integer: 0 thing -/
noncomputable def g_is_integer (a : Nat → Addr) : S :=
    (sRet (eAndV (eCallB (dIsi (Cs a)) (aCons (eVar 0) (aCons (eC (.raw (.ty "int"))) aNil))) (eNotV (eCallB (dIsi (Cs a)) (aCons (eVar 0) (aCons (eC (.raw (.ty "bool"))) aNil))))))
noncomputable def m_is_integer (a : Nat → Addr) : Fn := fnOf 1 [false] (g_is_integer a)
/-- is_between: 0 thing, 1 least, 2 most -/
noncomputable def g_is_between (a : Nat → Addr) : S :=
    (sRet (eAndV (eCall [false] (m_is_integer a) (sCons (eVar 0) aNil)) (eChain (dCmp fun i j => decide (i ≤ j)) (dCmp fun i j => decide (i ≤ j)) (eVar 1) (eVar 0) (eVar 2))))
noncomputable def m_is_between (a : Nat → Addr) : Fn := fnOf 3 [false, false, false] (g_is_between a)
/-- is_listed: 0 thing, 1 most -/
noncomputable def g_is_listed (a : Nat → Addr) : S :=
    (sRet (eAndV (eOp1 (dIsi2 (Cs a) "list" "tuple") (eVar 0)) (eOp2 (dCmp fun i j => decide (i ≤ j)) (eCallB dLen (aCons (eVar 0) aNil)) (eVar 1))))
noncomputable def m_is_listed (a : Nat → Addr) : Fn := fnOf 2 [false, false] (g_is_listed a)
/-- is_group: 0 size, 1 thing, 2 person, 3 at -/
noncomputable def v_is_group_0 (a : Nat → Addr) : M RV :=
    (eCall [false, false, false] (m_is_between a) (sCons (eVar 2) (sCons (eC (.int 0)) (sCons (eOp2 dSub (eVar 0) (eC (.int 1))) aNil))))
noncomputable def v_is_group_1 (a : Nat → Addr) : M RV :=
    (eOp2 (dCmp fun i j => decide (i < j)) (eOp2 dIxD (eVar 1) (eVar 3)) (eOp2 dIxD (eVar 1) (eOp2 dAdd (eVar 3) (eC (.int 1)))))
noncomputable def g_is_group (a : Nat → Addr) : S :=
    (sSeq (sIf (eOr (eNot (eBool (eCallB (dIsi (Cs a)) (aCons (eVar 1) (aCons (eC (.raw (.ty "tuple"))) aNil))))) (eNot (eBool (eCallB dAll (aCons (eLc [2] (iSeq (eVar 1)) (gN 2) eYes (v_is_group_0 a)) aNil))))) (sRet (eC (.bl false))) sNil)
    (sRet (eCallB dAll (aCons (eLc [3] (iRng1D (aCons (eOp2 dSub (eCallB dLen (aCons (eVar 1) aNil)) (eC (.int 1))) aNil)) (gN 3) eYes (v_is_group_1 a)) aNil))))
noncomputable def m_is_group (a : Nat → Addr) : Fn := fnOf 4 [false, false] (g_is_group a)
/-- Jobs.__init__: 0 self, 1 size, 2 jobs, 3 at, 4 job -/
noncomputable def b_Jobs_UinitU_0 (a : Nat → Addr) : S :=
    (sFrz [1, 2] (sFgt [3, 4] (sIf (eNot (eBool (eCall [false, false] (m_is_group a) (sCons (eVar 1) (sCons (eVar 4) aNil))))) (sRaise (a 24) ["at"] (lCons (eVar 3) aNil)) sNil)))
noncomputable def g_Jobs_UinitU (a : Nat → Addr) : S :=
    (sSeq (sIf (eNot (eBool (eCall [false, false, false] (m_is_between a) (sCons (eVar 1) (sCons (eC (.int 0)) (sCons (eC (.int 7)) aNil)))))) (sRaise (a 21) ["place"] (lCons (eC (.int 0)) aNil)) sNil)
    (sSeq (sIf (eNot (eBool (eCall [false, false] (m_is_listed a) (sCons (eVar 2) (sCons (eC (.int 7)) aNil))))) (sRaise (a 21) ["place"] (lCons (eC (.int 1)) aNil)) sNil)
    (sSeq (sFor (iPre [3, 4] [1, 2] (iEnum (eVar 2))) (gT 2 (gsCons (gN 3) (gsCons (gN 4) gsNil))) (b_Jobs_UinitU_0 a))
    (sSeq (sFldS (a 0) 0 "size" (eVar 1))
    (sFldS (a 0) 0 "jobs" (eCallB dTuple (aCons (eVar 2) aNil)))))))
noncomputable def m_Jobs_UinitU (a : Nat → Addr) : Fn := fnOf 5 [true, false, false] (g_Jobs_UinitU a)
/-- _law_alike: 0 _law_found, 1 _law_due -/
noncomputable def g_law_alike (a : Nat → Addr) : S :=
    (sRet (eAndV (eOp2 (dEq false) (eVar 0) (eVar 1)) (eOp2 (dEq false) (eCallB dRepr (aCons (eVar 0) aNil)) (eCallB dRepr (aCons (eVar 1) aNil)))))
noncomputable def m_law_alike (a : Nat → Addr) : Fn := fnOf 2 [false, false] (g_law_alike a)
/-- open_indexes: 0 jobs, 1 group, 2 at, 3 job, 4 person -/
noncomputable def v_open_indexes_0 (a : Nat → Addr) : M RV :=
    (eOp2 (dInD false) (eVar 4) (eVar 3))
noncomputable def t_open_indexes_1 (a : Nat → Addr) : M Bool :=
    (eBool (eCallB dAny (aCons (eLc [4] (iSeq (eVar 1)) (gN 4) eYes (v_open_indexes_0 a)) aNil)))
noncomputable def g_open_indexes (a : Nat → Addr) : S :=
    (sRet (eCallB dTuple (aCons (eLc [2, 3] (iEnum (eVar 0)) (gT 2 (gsCons (gN 2) (gsCons (gN 3) gsNil))) (t_open_indexes_1 a) (eVar 2)) aNil)))
noncomputable def m_open_indexes (a : Nat → Addr) : Fn := fnOf 5 [false, false] (g_open_indexes a)
/-- _law_one: 0 _law_bag_here, 1 _law_things -/
noncomputable def g_law_one (a : Nat → Addr) : S :=
    (sRet (eOp2 dIxD (eVar 1) (eCall [true, false] (m_law_take a) (kCons (eVar 0) (sCons (eCallB dLen (aCons (eVar 1) aNil)) aNil)))))
noncomputable def m_law_one (a : Nat → Addr) : Fn := fnOf 2 [true, false] (g_law_one a)
/-- _law_groups: 0 _law_size, 1 _law_found, 2 _law_start, 3 _law_k, 4 _law_end, 5 _law_at, 6 _law_one_here, 7 _law_p -/
noncomputable def t_law_groups_0 (a : Nat → Addr) : M Bool :=
    (eOr (eBool (eOp2 (dEq false) (eVar 6) (eTup aNil))) (eBool (eOp2 (dCmp fun i j => decide (j < i)) (eVar 7) (eOp2 dIxD (eVar 6) (eC (.int (-1)))))))
noncomputable def v_law_groups_1 (a : Nat → Addr) : M RV :=
    (eOp2 dAdd (eVar 6) (eTup (lCons (eVar 7) aNil)))
noncomputable def b_law_groups_2 (a : Nat → Addr) : S :=
    (sFrz [0, 4] (sFgt [2, 3, 5, 6] (sSeq (sSet 6 (eOp2 dIxD (eVar 1) (eVar 5)))
    (sExpr (eMutG 1 dExt (lCons (eLc [7] (iRng1D (aCons (eVar 0) aNil)) (gN 7) (t_law_groups_0 a) (v_law_groups_1 a)) aNil))))))
noncomputable def b_law_groups_3 (a : Nat → Addr) : S :=
    (sFrz [0, 2] (sFgt [3, 4, 5, 6] (sSeq (sSet 4 (eCallB dLen (aCons (eVar 1) aNil)))
    (sSeq (sFor (iPre [2, 3, 5, 6] [0, 4] (iRng2D (aCons (eVar 2) (aCons (eVar 4) aNil)))) (gN 5) (b_law_groups_2 a))
    (sSet 2 (eVar 4))))))
noncomputable def g_law_groups (a : Nat → Addr) : S :=
    (sSeq (sPar2 1 2 (eLst (lCons (eTup aNil) aNil)) (eC (.int 0)))
    (sSeq (sFor (iPre [3, 4, 5, 6] [0, 2] (iRng1D (aCons (eVar 0) aNil))) (gN 3) (b_law_groups_3 a))
    (sRet (eVar 1))))
noncomputable def m_law_groups (a : Nat → Addr) : Fn := fnOf 8 [false] (g_law_groups a)
/-- _law_ranks: 0 _law_size, 1 _law_can_here, 2 _law_ranks_here, 3 _law_group, 4 _law_k -/
noncomputable def v_law_ranks_0 (a : Nat → Addr) : M RV :=
    (eOp2 dIxD (eVar 2) (eOp2 dAdd (eSl (eVar 3) oNone (oSome (eVar 4))) (eSl (eVar 3) (oSome (eOp2 dAdd (eVar 4) (eC (.int 1)))) oNone)))
noncomputable def b_law_ranks_1 (a : Nat → Addr) : S :=
    (sFrz [1] (sFgt [0, 3] (sIf (eBool (eOp2 dIxD (eVar 1) (eVar 3))) (sSetIx 2 (eVar 3) (eCallB dLen (aCons (eVar 3) aNil))) (sSetIx 2 (eVar 3) (eCallB dMax (aCons (eLc [4] (iRng1D (aCons (eCallB dLen (aCons (eVar 3) aNil)) aNil)) (gN 4) eYes (v_law_ranks_0 a)) aNil))))))
noncomputable def g_law_ranks (a : Nat → Addr) : S :=
    (sSeq (sSet 2 (eDnew true))
    (sSeq (sFor (iPre [0, 3] [1] (iSeq (eCall [false] (m_law_groups a) (sCons (eVar 0) aNil)))) (gN 3) (b_law_ranks_1 a))
    (sRet (eVar 2))))
noncomputable def m_law_ranks (a : Nat → Addr) : Fn := fnOf 5 [false, false] (g_law_ranks a)
/-- _law_can: 0 _law_size, 1 _law_jobs_here, 2 _law_lots, 3 _law_can_here, 4 _law_group, 5 _law_job_here, 6 _law_more, 7 _law_fewer, 8 _law_k, 9 _law_one_here -/
noncomputable def b_law_can_0 (a : Nat → Addr) : S :=
    (sFrz [1, 2] (sFgt [0, 4, 5, 6, 7] (sSetIx 3 (eVar 4) (eOp2 (dEq false) (eVar 4) (eTup aNil)))))
noncomputable def t_law_can_1 (a : Nat → Addr) : M Bool :=
    (eBool (eOp2 (dInD false) (eOp2 dIxD (eVar 4) (eVar 8)) (eVar 5)))
noncomputable def v_law_can_2 (a : Nat → Addr) : M RV :=
    (eOp2 dAdd (eSl (eVar 4) oNone (oSome (eVar 8))) (eSl (eVar 4) (oSome (eOp2 dAdd (eVar 8) (eC (.int 1)))) oNone))
noncomputable def v_law_can_3 (a : Nat → Addr) : M RV :=
    (eOp2 dIxD (eVar 3) (eVar 9))
noncomputable def b_law_can_4 (a : Nat → Addr) : S :=
    (sFrz [2, 3, 5] (sFgt [0, 1, 4, 7] (sSeq (sSet 7 (eLc [8] (iRng1D (aCons (eCallB dLen (aCons (eVar 4) aNil)) aNil)) (gN 8) (t_law_can_1 a) (v_law_can_2 a)))
    (sSetIx 6 (eVar 4) (eOrV (eOp2 dIxD (eVar 3) (eVar 4)) (eCallB dAny (aCons (eLc [9] (iSeq (eVar 7)) (gN 9) eYes (v_law_can_3 a)) aNil)))))))
noncomputable def b_law_can_5 (a : Nat → Addr) : S :=
    (sFrz [2, 3] (sFgt [0, 1, 4, 5, 6, 7] (sSeq (sSet 6 (eDnew true))
    (sSeq (sFor (iPre [0, 1, 4, 7] [2, 3, 5] (iSeq (eVar 2))) (gN 4) (b_law_can_4 a))
    (sSet 3 (eVar 6))))))
noncomputable def g_law_can (a : Nat → Addr) : S :=
    (sSeq (sPar2 2 3 (eCall [false] (m_law_groups a) (sCons (eVar 0) aNil)) (eDnew true))
    (sSeq (sFor (iPre [0, 4, 5, 6, 7] [1, 2] (iSeq (eVar 2))) (gN 4) (b_law_can_0 a))
    (sSeq (sFor (iPre [0, 1, 4, 5, 6, 7] [2, 3] (iSeq (eVar 1))) (gN 5) (b_law_can_5 a))
    (sRet (eVar 3)))))
noncomputable def m_law_can (a : Nat → Addr) : Fn := fnOf 10 [false, false] (g_law_can a)
/-- _law_parts: 0 _law_group, 1 _law_spots, 2 _law_k -/
noncomputable def v_law_parts_0 (a : Nat → Addr) : M RV :=
    (eOp2 dIxD (eVar 0) (eVar 2))
noncomputable def v_law_parts_1 (a : Nat → Addr) : M RV :=
    (eCallB dTuple (aCons (eLc [2] (iSeq (eVar 1)) (gN 2) eYes (v_law_parts_0 a)) aNil))
noncomputable def g_law_parts (a : Nat → Addr) : S :=
    (sRet (eLc [1] (iSeq (eCall [false] (m_law_groups a) (sCons (eCallB dLen (aCons (eVar 0) aNil)) aNil))) (gN 1) eYes (v_law_parts_1 a)))
noncomputable def m_law_parts (a : Nat → Addr) : Fn := fnOf 3 [false] (g_law_parts a)
/-- _law_shortage: 0 _law_jobs_here, 1 _law_group, 2 _law_job_here, 3 _law_p -/
noncomputable def t_law_shortage_0 (a : Nat → Addr) : M Bool :=
    (eBool (eOp2 (dInD false) (eVar 3) (eVar 2)))
noncomputable def t_law_shortage_1 (a : Nat → Addr) : M Bool :=
    (eBool (eOp2 (dEq true) (eLc [3] (iSeq (eVar 1)) (gN 3) (t_law_shortage_0 a) (eVar 3)) (eLst aNil)))
noncomputable def g_law_shortage (a : Nat → Addr) : S :=
    (sRet (eOp2 dSub (eCallB dLen (aCons (eVar 1) aNil)) (eCallB dLen (aCons (eLc [2] (iSeq (eVar 0)) (gN 2) (t_law_shortage_1 a) (eVar 2)) aNil))))
noncomputable def m_law_shortage (a : Nat → Addr) : Fn := fnOf 4 [false, false] (g_law_shortage a)
/-- _law_short: 0 _law_jobs_here, 1 _law_group, 2 _law_pieces, 3 _law_most, 4 _law_some_here, 5 _law_piece, 6 _law_p -/
noncomputable def v_law_short_0 (a : Nat → Addr) : M RV :=
    (eCall [false, false] (m_law_shortage a) (sCons (eVar 0) (sCons (eVar 5) aNil)))
noncomputable def t_law_short_1 (a : Nat → Addr) : M Bool :=
    (eBool (eOp2 (dEq false) (eCall [false, false] (m_law_shortage a) (sCons (eVar 0) (sCons (eVar 5) aNil))) (eVar 3)))
noncomputable def v_law_short_2 (a : Nat → Addr) : M RV :=
    (eOp2 (dInD false) (eVar 6) (eVar 5))
noncomputable def t_law_short_3 (a : Nat → Addr) : M Bool :=
    (eBool (eCallB dAll (aCons (eLc [5] (iSeq (eVar 4)) (gN 5) eYes (v_law_short_2 a)) aNil)))
noncomputable def g_law_short (a : Nat → Addr) : S :=
    (sSeq (sSet 2 (eCall [false] (m_law_parts a) (sCons (eVar 1) aNil)))
    (sSeq (sSet 3 (eCallB dMax (aCons (eLc [5] (iSeq (eVar 2)) (gN 5) eYes (v_law_short_0 a)) aNil)))
    (sSeq (sSet 4 (eLc [5] (iSeq (eVar 2)) (gN 5) (t_law_short_1 a) (eVar 5)))
    (sRet (eCallB dTuple (aCons (eLc [6] (iSeq (eVar 1)) (gN 6) (t_law_short_3 a) (eVar 6)) aNil))))))
noncomputable def m_law_short (a : Nat → Addr) : Fn := fnOf 7 [false, false] (g_law_short a)
/-- groups: 0 size, 1 found, 2 level, 3 length, 4 group, 5 person -/
noncomputable def b_groups_0 (a : Nat → Addr) : S :=
    (sFrz [0, 2] (sFgt [3] (sSeq (sSet 2 (eLc2 [4, 5] [5] (iSeq (eVar 2)) (gN 4) eYes (iRng1D (aCons (eVar 0) aNil)) (gN 5) (eOr (eBool (eOp2 (dEq false) (eVar 4) (eTup aNil))) (eBool (eOp2 (dCmp fun i j => decide (j < i)) (eVar 5) (eOp2 dIxD (eVar 4) (eC (.int (-1))))))) (eOp2 dAdd (eVar 4) (eTup (lCons (eVar 5) aNil)))))
    (sExpr (eMutG 1 dExt (lCons (eVar 2) aNil))))))
noncomputable def g_groups (a : Nat → Addr) : S :=
    (sSeq (sSet 1 (eLst (lCons (eTup aNil) aNil)))
    (sSeq (sSet 2 (eLst (lCons (eTup aNil) aNil)))
    (sSeq (sFor (iPre [3] [0, 2] (iRng1D (aCons (eVar 0) aNil))) (gN 3) (b_groups_0 a))
    (sRet (eVar 1)))))
noncomputable def m_groups (a : Nat → Addr) : Fn := fnOf 6 [false] (g_groups a)
/-- parts: 0 group, 1 places, 2 at -/
noncomputable def v_parts_0 (a : Nat → Addr) : M RV :=
    (eOp2 dIxD (eVar 0) (eVar 2))
noncomputable def v_parts_1 (a : Nat → Addr) : M RV :=
    (eCallB dTuple (aCons (eLc [2] (iSeq (eVar 1)) (gN 2) eYes (v_parts_0 a)) aNil))
noncomputable def g_parts (a : Nat → Addr) : S :=
    (sRet (eLc [1] (iSeq (eCall [false] (m_groups a) (sCons (eCallB dLen (aCons (eVar 0) aNil)) aNil))) (gN 1) eYes (v_parts_1 a)))
noncomputable def m_parts (a : Nat → Addr) : Fn := fnOf 3 [false] (g_parts a)
/-- shortage: 0 jobs, 1 group -/
noncomputable def g_shortage (a : Nat → Addr) : S :=
    (sRet (eOp2 dSub (eCallB dLen (aCons (eVar 1) aNil)) (eCallB dLen (aCons (eCall [false, false] (m_open_indexes a) (sCons (eVar 0) (sCons (eVar 1) aNil))) aNil))))
noncomputable def m_shortage (a : Nat → Addr) : Fn := fnOf 2 [false, false] (g_shortage a)
/-- short_part: 0 jobs, 1 group, 2 found, 3 most, 4 part, 5 many -/
noncomputable def b_short_part_0 (a : Nat → Addr) : S :=
    (sFrz [0, 2, 3] (sFgt [1, 4, 5] (sSeq (sSet 5 (eCall [false, false] (m_shortage a) (sCons (eFld (a 0) "jobs" (eVar 0)) (sCons (eVar 4) aNil))))
    (sIf (eBool (eOp2 (dCmp fun i j => decide (j < i)) (eVar 5) (eVar 3))) (sPar2 2 3 (eVar 4) (eVar 5)) sNil))))
noncomputable def g_short_part (a : Nat → Addr) : S :=
    (sSeq (sAsg (eTup (lCons (eTup aNil) (lCons (eC (.int 0)) aNil))) (gT 2 (gsCons (gN 2) (gsCons (gN 3) gsNil))))
    (sSeq (sFor (iPre [1, 4, 5] [0, 2, 3] (iSeq (eCall [false] (m_parts a) (sCons (eVar 1) aNil)))) (gN 4) (b_short_part_0 a))
    (sRet (eVar 2))))
noncomputable def m_short_part (a : Nat → Addr) : Fn := fnOf 6 [false, false] (g_short_part a)
/-- strength: 0 jobs, 1 group -/
noncomputable def g_strength (a : Nat → Addr) : S :=
    (sRet (eOp2 dSub (eCallB dLen (aCons (eVar 1) aNil)) (eCall [false, false] (m_shortage a) (sCons (eFld (a 0) "jobs" (eVar 0)) (sCons (eCall [false, false] (m_short_part a) (sCons (eVar 0) (sCons (eVar 1) aNil))) aNil)))))
noncomputable def m_strength (a : Nat → Addr) : Fn := fnOf 2 [false, false] (g_strength a)
/-- _law_asked: 0 _law_bag_here, 1 _law_made, 2 _law_group, 3 _law_short_here, 4 _law_strong -/
noncomputable def g_law_asked (a : Nat → Addr) : S :=
    (sSeq (sIf (eBool (eOp2 (dEq false) (eCall [true, false] (m_law_take a) (kCons (eVar 0) (sCons (eC (.int 2)) aNil))) (eC (.int 0)))) (sSeq (sSet 3 (eCall [false, false] (m_short_part a) (sCons (eVar 1) (sCons (eVar 2) aNil))))
    (sRet (eTup (lCons (eVar 3) (lCons (eCall [false, false] (m_strength a) (sCons (eVar 1) (sCons (eVar 2) aNil))) aNil))))) sNil)
    (sSeq (sSet 4 (eCall [false, false] (m_strength a) (sCons (eVar 1) (sCons (eVar 2) aNil))))
    (sRet (eTup (lCons (eCall [false, false] (m_short_part a) (sCons (eVar 1) (sCons (eVar 2) aNil))) (lCons (eVar 4) aNil))))))
noncomputable def m_law_asked (a : Nat → Addr) : Fn := fnOf 5 [true, false, false] (g_law_asked a)
/-- law: 0 _law_script, 1 _law_bag_here, 2 _law_size, 3 _law_k, 4 _law_told, 5 _law_made, 6 _law_ranks_here, 7 _law_lots, 8 _law_turn, 9 _law_group, 10 _law_which, 11 _law_due, 12 _law_jobs_here, 13 _law_one_here -/
noncomputable def v_lawK21_0 (a : Nat → Addr) : M RV :=
    (eCall [true, false, false] (m_law_jobs a) (kCons (eVar 1) (sCons (eVar 2) (sCons (eC (.int 7)) aNil))))
noncomputable def v_lawK21_1 (a : Nat → Addr) : M RV :=
    (eMake (a 0) [false, false] (m_Jobs_UinitU a) (sCons (eVar 2) (sCons (eCallB dList (aCons (eVar 12) aNil)) aNil)))
noncomputable def v_lawK21_2 (a : Nat → Addr) : M RV :=
    (eCall [false, false] (m_law_ranks a) (sCons (eVar 2) (sCons (eCall [false, false] (m_law_can a) (sCons (eVar 2) (sCons (eVar 12) aNil))) aNil)))
noncomputable def b_lawK21_3 (a : Nat → Addr) : S :=
    (sFrz [2, 4, 5, 6] (sFgt [0, 3, 8, 9, 10, 11] (sExpr (eMut 7 dApp (lCons (eCallB dTuple (aCons (eCall [true, false] (m_law_some a) (kCons (eVar 1) (sCons (eLRg (rg1 (eVar 2))) aNil))) aNil)) aNil)))))
noncomputable def b_lawK21_4 (a : Nat → Addr) : S :=
    (sFrz [4, 5, 6, 7, 9] (sFgt [0, 2, 3, 8, 10, 11] (sSeq (sSet 11 (eTup (lCons (eCall [false, false] (m_law_short a) (sCons (eOp2 dIxD (eVar 4) (eVar 10)) (sCons (eVar 9) aNil))) (lCons (eOp2 dIxD (eOp2 dIxD (eVar 6) (eVar 10)) (eVar 9)) aNil))))
    (sIf (eNot (eBool (eCall [false, false] (m_law_alike a) (sCons (eCall [true, false, false] (m_law_asked a) (kCons (eVar 1) (sCons (eOp2 dIxD (eVar 5) (eVar 10)) (sCons (eVar 9) aNil)))) (sCons (eVar 11) aNil))))) (sRet (eC (.bl false))) sNil))))
noncomputable def b_lawK21_5 (a : Nat → Addr) : S :=
    (sFrz [4, 5, 6, 7] (sFgt [0, 2, 3, 8, 9, 10, 11] (sFor (iPre [0, 2, 3, 8, 10, 11] [4, 5, 6, 7, 9] (iRng1D (aCons (eC (.int 2)) aNil))) (gN 10) (b_lawK21_4 a))))
noncomputable def b_lawK21_6 (a : Nat → Addr) : S :=
    (sFrz [4, 5, 6, 7] (sFgt [0, 2, 3, 8, 9, 10, 11] (sFor (iPre [0, 2, 3, 8, 9, 10, 11] [4, 5, 6, 7] (iSeq (eVar 7))) (gN 9) (b_lawK21_5 a))))
noncomputable def v_lawK21_7 (a : Nat → Addr) : M RV :=
    (eFld (a 0) "jobs" (eVar 13))
noncomputable def v_lawK21_8 (a : Nat → Addr) : M RV :=
    (eCallB dTuple (aCons (eVar 12) aNil))
noncomputable def g_lawK21 (a : Nat → Addr) : S :=
    (sSeq (sSet 1 (eCall [false] (m_law_bag a) (sCons (eVar 0) aNil)))
    (sSeq (sSet 2 (eCall [true, false] (m_law_one a) (kCons (eVar 1) (sCons (eLst (lCons (eC (.int 5)) (lCons (eC (.int 4)) (lCons (eC (.int 3)) (lCons (eC (.int 6)) (lCons (eC (.int 7)) (lCons (eC (.int 2)) (lCons (eC (.int 5)) (lCons (eC (.int 1)) (lCons (eC (.int 0)) aNil)))))))))) aNil))))
    (sSeq (sSet 4 (eLc [3] (iRng1D (aCons (eC (.int 2)) aNil)) (gN 3) eYes (v_lawK21_0 a)))
    (sSeq (sSet 5 (eLc [12] (iSeq (eVar 4)) (gN 12) eYes (v_lawK21_1 a)))
    (sSeq (sSet 6 (eLc [12] (iSeq (eVar 4)) (gN 12) eYes (v_lawK21_2 a)))
    (sSeq (sSet 7 (eLst (lCons (eTRg (rg1 (eVar 2))) aNil)))
    (sSeq (sFor (iPre [0, 3, 8, 9, 10, 11] [2, 4, 5, 6] (iRng1D (aCons (eC (.int 4)) aNil))) (gN 3) (b_lawK21_3 a))
    (sSeq (sFor (iPre [0, 2, 3, 8, 9, 10, 11] [4, 5, 6, 7] (iRng1D (aCons (eC (.int 2)) aNil))) (gN 8) (b_lawK21_6 a))
    (sRet (eOp2 (dEq false) (eLc [13] (iSeq (eVar 5)) (gN 13) eYes (v_lawK21_7 a)) (eLc [12] (iSeq (eVar 4)) (gN 12) eYes (v_lawK21_8 a))))))))))))
noncomputable def m_lawK21 (a : Nat → Addr) : Fn := fnOf 14 [false] (g_lawK21 a)
/-- Jobs.__add__: 0 self, 1 other -/
noncomputable def g_Jobs_UaddU (a : Nat → Addr) : S :=
    (sSeq (sIf (eBool (eOp2 (dEq true) (eFld (a 0) "size" (eVar 0)) (eFld (a 0) "size" (eVar 1)))) (sRaise (a 23) [] aNil) sNil)
    (sSeq (sIf (eBool (eOp2 (dCmp fun i j => decide (j < i)) (eOp2 dAdd (eCallB dLen (aCons (eFld (a 0) "jobs" (eVar 0)) aNil)) (eCallB dLen (aCons (eFld (a 0) "jobs" (eVar 1)) aNil))) (eC (.int 7)))) (sRaise (a 22) ["limit"] (lCons (eC (.int 7)) aNil)) sNil)
    (sRet (eMake (a 0) [false, false] (m_Jobs_UinitU a) (sCons (eFld (a 0) "size" (eVar 0)) (sCons (eOp2 dAdd (eFld (a 0) "jobs" (eVar 0)) (eFld (a 0) "jobs" (eVar 1))) aNil))))))
noncomputable def m_Jobs_UaddU (a : Nat → Addr) : Fn := fnOf 2 [false, false] (g_Jobs_UaddU a)
/-- moved: 0 group, 1 by, 2 person -/
noncomputable def v_moved_0 (a : Nat → Addr) : M RV :=
    (eOp2 dAdd (eVar 2) (eVar 1))
noncomputable def g_moved (a : Nat → Addr) : S :=
    (sRet (eCallB dTuple (aCons (eLc [2] (iSeq (eVar 0)) (gN 2) eYes (v_moved_0 a)) aNil)))
noncomputable def m_moved (a : Nat → Addr) : Fn := fnOf 3 [false, false] (g_moved a)
/-- Jobs.__or__: 0 self, 1 other, 2 behind, 3 job -/
noncomputable def v_Jobs_UorU_0 (a : Nat → Addr) : M RV :=
    (eCall [false, false] (m_moved a) (sCons (eVar 3) (sCons (eFld (a 0) "size" (eVar 0)) aNil)))
noncomputable def g_Jobs_UorU (a : Nat → Addr) : S :=
    (sSeq (sIf (eOr (eBool (eOp2 (dCmp fun i j => decide (j < i)) (eOp2 dAdd (eFld (a 0) "size" (eVar 0)) (eFld (a 0) "size" (eVar 1))) (eC (.int 7)))) (eBool (eOp2 (dCmp fun i j => decide (j < i)) (eOp2 dAdd (eCallB dLen (aCons (eFld (a 0) "jobs" (eVar 0)) aNil)) (eCallB dLen (aCons (eFld (a 0) "jobs" (eVar 1)) aNil))) (eC (.int 7))))) (sRaise (a 22) ["limit"] (lCons (eC (.int 7)) aNil)) sNil)
    (sSeq (sSet 2 (eLc [3] (iSeq (eFld (a 0) "jobs" (eVar 1))) (gN 3) eYes (v_Jobs_UorU_0 a)))
    (sRet (eMake (a 0) [false, false] (m_Jobs_UinitU a) (sCons (eOp2 dAdd (eFld (a 0) "size" (eVar 0)) (eFld (a 0) "size" (eVar 1))) (sCons (eOp2 dAdd (eCallB dList (aCons (eFld (a 0) "jobs" (eVar 0)) aNil)) (eVar 2)) aNil))))))
noncomputable def m_Jobs_UorU (a : Nat → Addr) : Fn := fnOf 4 [false, false] (g_Jobs_UorU a)
/-- Jobs.__mul__: 0 self, 1 count -/
noncomputable def g_Jobs_UmulU (a : Nat → Addr) : S :=
    (sSeq (sIf (eBool (eOp2 (dCmp fun i j => decide (j < i)) (eOp2 dMul (eCallB dLen (aCons (eFld (a 0) "jobs" (eVar 0)) aNil)) (eVar 1)) (eC (.int 7)))) (sRaise (a 22) ["limit"] (lCons (eC (.int 7)) aNil)) sNil)
    (sRet (eMake (a 0) [false, false] (m_Jobs_UinitU a) (sCons (eFld (a 0) "size" (eVar 0)) (sCons (eOp2 dMul (eFld (a 0) "jobs" (eVar 0)) (eVar 1)) aNil)))))
noncomputable def m_Jobs_UmulU (a : Nat → Addr) : Fn := fnOf 2 [false, false] (g_Jobs_UmulU a)
/-- Jobs.__rmul__: 0 self, 1 count -/
noncomputable def g_Jobs_UrmulU (a : Nat → Addr) : S :=
    (sSeq (sIf (eBool (eOp2 (dCmp fun i j => decide (j < i)) (eOp2 dMul (eCallB dLen (aCons (eFld (a 0) "jobs" (eVar 0)) aNil)) (eVar 1)) (eC (.int 7)))) (sRaise (a 22) ["limit"] (lCons (eC (.int 7)) aNil)) sNil)
    (sRet (eMake (a 0) [false, false] (m_Jobs_UinitU a) (sCons (eFld (a 0) "size" (eVar 0)) (sCons (eOp2 dMul (eFld (a 0) "jobs" (eVar 0)) (eVar 1)) aNil)))))
noncomputable def m_Jobs_UrmulU (a : Nat → Addr) : Fn := fnOf 2 [false, false] (g_Jobs_UrmulU a)
/-- _law_told: 0 _law_way, 1 _law_one_here, 2 _law_other, 3 _law_jobs_here, 4 e, 5 _law_kinds -/
noncomputable def y_law_told_3_0 (a : Nat → Addr) : S :=
    (sIf (eBool (eOp2 (dEq false) (eVar 0) (eC (.int 0)))) (sSet 3 (eBinI (a 0) (some (m_Jobs_UaddU a)) none (eVar 1) (eVar 2))) (sIf (eBool (eOp2 (dEq false) (eVar 0) (eC (.int 1)))) (sSet 3 (eBinI (a 0) (some (m_Jobs_UorU a)) none (eVar 1) (eVar 2))) (sSet 3 (eBinI (a 0) (some (m_Jobs_UmulU a)) (some (m_Jobs_UrmulU a)) (eVar 1) (eVar 2)))))
noncomputable def u_law_told_3_1 (a : Nat → Addr) : S :=
    (sSeq (sSet 5 (eLst (lCons (eCallB (dIsX (Xs a) (a 20)) (aCons (eVar 4) (aCons (eC (.raw (.ref (a 23)))) aNil))) (lCons (eCallB (dIsX (Xs a) (a 20)) (aCons (eVar 4) (aCons (eC (.raw (.ref (a 22)))) aNil))) (lCons (eCallB (dIsX (Xs a) (a 20)) (aCons (eVar 4) (aCons (eC (.raw (.ref (a 21)))) aNil))) (lCons (eCallB (dIsX (Xs a) (a 20)) (aCons (eVar 4) (aCons (eC (.raw (.ref (a 24)))) aNil))) aNil))))))
    (sSeq (sIf (eBool (eOp2 (dEq true) (eOp1 (dCntB true) (eVar 5)) (eC (.int 1)))) (sRet (eTup (lCons (eC (.str "other")) (lCons (eC (.int 0)) aNil)))) sNil)
    (sSeq (sIf (eBool (eOp2 dIxD (eVar 5) (eC (.int 1)))) (sRet (eTup (lCons (eC (.str "many")) (lCons (eOp1 (dXf (Xs a) "limit") (eVar 4)) aNil)))) sNil)
    (sRet (eIf (eBool (eOp2 dIxD (eVar 5) (eC (.int 0)))) (eTup (lCons (eC (.str "unlike")) (lCons (eC (.int 0)) aNil))) (eTup (lCons (eC (.str "other")) (lCons (eC (.int 1)) aNil))))))))
noncomputable def g_law_told_3 (a : Nat → Addr) : S :=
    (sSeq (sTry (xT (Xs a) (a 20) (a 20)) 4 (y_law_told_3_0 a) (u_law_told_3_1 a))
    (sRet (eTup (lCons (eC (.str "made")) (lCons (eFld (a 0) "size" (eVar 3)) (lCons (eFld (a 0) "jobs" (eVar 3)) aNil))))))
noncomputable def m_law_told_3 (a : Nat → Addr) : Fn := fnOf 6 [false, false, false] (g_law_told_3 a)
/-- _law_sum: 0 _law_size, 1 _law_rows, 2 _law_wide, 3 _law_others -/
noncomputable def g_law_sum (a : Nat → Addr) : S :=
    (sSeq (sIf (eBool (eOp2 (dEq true) (eVar 0) (eVar 2))) (sRet (eTup (lCons (eC (.str "unlike")) (lCons (eC (.int 0)) aNil)))) sNil)
    (sSeq (sIf (eBool (eOp2 (dCmp fun i j => decide (j < i)) (eOp2 dAdd (eCallB dLen (aCons (eVar 1) aNil)) (eCallB dLen (aCons (eVar 3) aNil))) (eC (.int 7)))) (sRet (eTup (lCons (eC (.str "many")) (lCons (eC (.int 7)) aNil)))) sNil)
    (sRet (eTup (lCons (eC (.str "made")) (lCons (eVar 0) (lCons (eCallB dTuple (aCons (eOp2 dAdd (eVar 1) (eVar 3)) aNil)) aNil)))))))
noncomputable def m_law_sum (a : Nat → Addr) : Fn := fnOf 4 [false, false, false, false] (g_law_sum a)
/-- _law_beside: 0 _law_size, 1 _law_rows, 2 _law_wide, 3 _law_others, 4 _law_behind, 5 _law_job_here, 6 _law_p -/
noncomputable def v_law_beside_0 (a : Nat → Addr) : M RV :=
    (eOp2 dAdd (eVar 6) (eVar 0))
noncomputable def v_law_beside_1 (a : Nat → Addr) : M RV :=
    (eCallB dTuple (aCons (eLc [6] (iSeq (eVar 5)) (gN 6) eYes (v_law_beside_0 a)) aNil))
noncomputable def g_law_beside (a : Nat → Addr) : S :=
    (sSeq (sIf (eOr (eBool (eOp2 (dCmp fun i j => decide (j < i)) (eOp2 dAdd (eVar 0) (eVar 2)) (eC (.int 7)))) (eBool (eOp2 (dCmp fun i j => decide (j < i)) (eOp2 dAdd (eCallB dLen (aCons (eVar 1) aNil)) (eCallB dLen (aCons (eVar 3) aNil))) (eC (.int 7))))) (sRet (eTup (lCons (eC (.str "many")) (lCons (eC (.int 7)) aNil)))) sNil)
    (sSeq (sSet 4 (eLc [5] (iSeq (eVar 3)) (gN 5) eYes (v_law_beside_1 a)))
    (sRet (eTup (lCons (eC (.str "made")) (lCons (eOp2 dAdd (eVar 0) (eVar 2)) (lCons (eCallB dTuple (aCons (eOp2 dAdd (eVar 1) (eVar 4)) aNil)) aNil)))))))
noncomputable def m_law_beside (a : Nat → Addr) : Fn := fnOf 7 [false, false, false, false] (g_law_beside a)
/-- _law_repeated: 0 _law_size, 1 _law_rows, 2 _law_count -/
noncomputable def g_law_repeated (a : Nat → Addr) : S :=
    (sSeq (sIf (eBool (eOp2 (dCmp fun i j => decide (j < i)) (eOp2 dMul (eCallB dLen (aCons (eVar 1) aNil)) (eVar 2)) (eC (.int 7)))) (sRet (eTup (lCons (eC (.str "many")) (lCons (eC (.int 7)) aNil)))) sNil)
    (sRet (eTup (lCons (eC (.str "made")) (lCons (eVar 0) (lCons (eCallB dTuple (aCons (eOp2 dMul (eVar 1) (eCallB dMin2 (aCons (eVar 2) (aCons (eC (.int 7)) aNil)))) aNil)) aNil))))))
noncomputable def m_law_repeated (a : Nat → Addr) : Fn := fnOf 3 [false, false, false] (g_law_repeated a)
/-- law: 0 _law_script, 1 _law_bag_here, 2 _law_step, 3 _law_size, 4 _law_most, 5 _law_wide, 6 _law_rows, 7 _law_others, 8 _law_one_here, 9 _law_other, 10 _law_again, 11 _law_found, 12 _law_due, 13 _law_count -/
noncomputable def b_lawK17_0 (a : Nat → Addr) : S :=
    (sFrz [3, 5, 6, 7, 8, 9] (sFgt [0, 2, 4, 10, 11, 12, 13] (sSeq (sSet 11 (eLst (lCons (eCall [false, false, false] (m_law_told_3 a) (sCons (eC (.int 0)) (sCons (eVar 8) (sCons (eVar 9) aNil)))) (lCons (eCall [false, false, false] (m_law_told_3 a) (sCons (eC (.int 0)) (sCons (eVar 9) (sCons (eVar 8) aNil)))) aNil))))
    (sSeq (sSet 12 (eLst (lCons (eCall [false, false, false, false] (m_law_sum a) (sCons (eVar 3) (sCons (eVar 6) (sCons (eVar 5) (sCons (eVar 7) aNil))))) (lCons (eCall [false, false, false, false] (m_law_sum a) (sCons (eVar 5) (sCons (eVar 7) (sCons (eVar 3) (sCons (eVar 6) aNil))))) aNil))))
    (sSeq (sIf (eNot (eBool (eCall [false, false] (m_law_alike a) (sCons (eVar 11) (sCons (eVar 12) aNil))))) (sRet (eC (.bl false))) sNil)
    (sSeq (sSet 11 (eLst (lCons (eCall [false, false, false] (m_law_told_3 a) (sCons (eC (.int 1)) (sCons (eVar 8) (sCons (eVar 9) aNil)))) (lCons (eCall [false, false, false] (m_law_told_3 a) (sCons (eC (.int 1)) (sCons (eVar 9) (sCons (eVar 8) aNil)))) aNil))))
    (sSeq (sSet 12 (eLst (lCons (eCall [false, false, false, false] (m_law_beside a) (sCons (eVar 3) (sCons (eVar 6) (sCons (eVar 5) (sCons (eVar 7) aNil))))) (lCons (eCall [false, false, false, false] (m_law_beside a) (sCons (eVar 5) (sCons (eVar 7) (sCons (eVar 3) (sCons (eVar 6) aNil))))) aNil))))
    (sSeq (sIf (eNot (eBool (eCall [false, false] (m_law_alike a) (sCons (eVar 11) (sCons (eVar 12) aNil))))) (sRet (eC (.bl false))) sNil)
    (sSeq (sSet 13 (eCall [true, false] (m_law_one a) (kCons (eVar 1) (sCons (eLst (lCons (eC (.int 0)) (lCons (eC (.int 1)) (lCons (eC (.int 2)) (lCons (eC (.int 3)) (lCons (eC (.int 4)) (lCons (eC (.int 7)) (lCons (eC (.int 8)) (lCons (eC (.int 1000)) (lCons (eCall [true, false] (m_law_take a) (kCons (eVar 1) (sCons (eC (.int 1001)) aNil))) aNil)))))))))) aNil))))
    (sSeq (sSet 11 (eLst (lCons (eCall [false, false, false] (m_law_told_3 a) (sCons (eC (.int 2)) (sCons (eVar 8) (sCons (eVar 13) aNil)))) (lCons (eCall [false, false, false] (m_law_told_3 a) (sCons (eC (.int 2)) (sCons (eVar 13) (sCons (eVar 8) aNil)))) aNil))))
    (sSeq (sIf (eNot (eBool (eCall [false, false] (m_law_alike a) (sCons (eVar 11) (sCons (eOp2 dMul (eLst (lCons (eCall [false, false, false] (m_law_repeated a) (sCons (eVar 3) (sCons (eVar 6) (sCons (eVar 13) aNil)))) aNil)) (eC (.int 2))) aNil))))) (sRet (eC (.bl false))) sNil)
    (sSeq (sPar2 11 12 (eLst (lCons (eCall [false, false, false] (m_law_told_3 a) (sCons (eC (.int 0)) (sCons (eVar 8) (sCons (eVar 8) aNil)))) (lCons (eCall [false, false, false] (m_law_told_3 a) (sCons (eC (.int 1)) (sCons (eVar 8) (sCons (eVar 8) aNil)))) aNil))) (eLst (lCons (eCall [false, false, false, false] (m_law_sum a) (sCons (eVar 3) (sCons (eVar 6) (sCons (eVar 3) (sCons (eVar 6) aNil))))) aNil)))
    (sSeq (sIf (eNot (eBool (eCall [false, false] (m_law_alike a) (sCons (eVar 11) (sCons (eOp2 dAdd (eVar 12) (eLst (lCons (eCall [false, false, false, false] (m_law_beside a) (sCons (eVar 3) (sCons (eVar 6) (sCons (eVar 3) (sCons (eVar 6) aNil))))) aNil))) aNil))))) (sRet (eC (.bl false))) sNil)
    (sIf (eNot (eBool (eCall [false, false] (m_law_alike a) (sCons (eTup (lCons (eFld (a 0) "size" (eVar 8)) (lCons (eFld (a 0) "jobs" (eVar 8)) (lCons (eFld (a 0) "size" (eVar 9)) (lCons (eFld (a 0) "jobs" (eVar 9)) aNil))))) (sCons (eTup (lCons (eVar 3) (lCons (eCallB dTuple (aCons (eVar 6) aNil)) (lCons (eVar 5) (lCons (eCallB dTuple (aCons (eVar 7) aNil)) aNil))))) aNil))))) (sRet (eC (.bl false))) sNil))))))))))))))
noncomputable def b_lawK17_1 (a : Nat → Addr) : S :=
    (sFrz [] (sFgt [0, 2, 3, 4, 5, 6, 7, 8, 9, 10, 11, 12, 13] (sSeq (sPar2 3 4 (eCall [true, false] (m_law_take a) (kCons (eVar 1) (sCons (eC (.int 8)) aNil))) (eCall [true, false] (m_law_one a) (kCons (eVar 1) (sCons (eLst (lCons (eC (.int 2)) (lCons (eC (.int 3)) (lCons (eC (.int 4)) (lCons (eC (.int 5)) (lCons (eC (.int 7)) aNil)))))) aNil))))
    (sSeq (sSet 5 (eVar 3))
    (sSeq (sIf (eBool (eOp2 (dEq false) (eCall [true, false] (m_law_take a) (kCons (eVar 1) (sCons (eC (.int 2)) aNil))) (eC (.int 0)))) (sSet 5 (eCall [true, false] (m_law_take a) (kCons (eVar 1) (sCons (eC (.int 8)) aNil)))) sNil)
    (sSeq (sPar2 6 7 (eCall [true, false, false] (m_law_jobs a) (kCons (eVar 1) (sCons (eVar 3) (sCons (eVar 4) aNil)))) (eCall [true, false, false] (m_law_jobs a) (kCons (eVar 1) (sCons (eVar 5) (sCons (eCall [true, false] (m_law_one a) (kCons (eVar 1) (sCons (eLst (lCons (eC (.int 2)) (lCons (eC (.int 3)) (lCons (eC (.int 5)) (lCons (eC (.int 7)) aNil))))) aNil))) aNil)))))
    (sSeq (sPar2 8 9 (eMake (a 0) [false, false] (m_Jobs_UinitU a) (sCons (eVar 3) (sCons (eCallB dList (aCons (eVar 6) aNil)) aNil))) (eMake (a 0) [false, false] (m_Jobs_UinitU a) (sCons (eVar 5) (sCons (eCallB dList (aCons (eVar 7) aNil)) aNil))))
    (sFor (iPre [0, 2, 4, 10, 11, 12, 13] [3, 5, 6, 7, 8, 9] (iRng1D (aCons (eC (.int 2)) aNil))) (gN 10) (b_lawK17_0 a)))))))))
noncomputable def g_lawK17 (a : Nat → Addr) : S :=
    (sSeq (sSet 1 (eCall [false] (m_law_bag a) (sCons (eVar 0) aNil)))
    (sSeq (sFor (iPre [0, 2, 3, 4, 5, 6, 7, 8, 9, 10, 11, 12, 13] [] (iRng1D (aCons (eC (.int 8)) aNil))) (gN 2) (b_lawK17_1 a))
    (sRet (eC (.bl true)))))
noncomputable def m_lawK17 (a : Nat → Addr) : Fn := fnOf 14 [false] (g_lawK17 a)
end Cw

namespace K17
open PySem L2 Cw
/-! ### the text by places -/
def top (i : Nat) : Stmt := PySem.Challenge.pw_crewlists_k17_jobs_joined.main.body.getD i (.Pass ⟨0, 0, 0, 0⟩)
abbrev s0 : Stmt := top 37
abbrev s1 : Stmt := top 26
abbrev s2 : Stmt := top 27
abbrev s3 : Stmt := top 28
abbrev s4 : Stmt := top 32
abbrev s5 : Stmt := top 31
abbrev s6 : Stmt := top 30
abbrev s7 : Stmt := inClass (top 24) 0
abbrev s8 : Stmt := top 10
abbrev s9 : Stmt := top 9
abbrev s10 : Stmt := inClass (top 3) 0
abbrev s11 : Stmt := top 11
abbrev s12 : Stmt := top 12
abbrev s13 : Stmt := inClass (top 6) 0
abbrev s14 : Stmt := top 33
abbrev s15 : Stmt := inClass (top 24) 7
abbrev s16 : Stmt := inClass (top 5) 0
abbrev s17 : Stmt := inClass (top 4) 0
abbrev s18 : Stmt := inClass (top 24) 10
abbrev s19 : Stmt := top 16
abbrev s20 : Stmt := inClass (top 24) 8
abbrev s21 : Stmt := inClass (top 24) 9
abbrev s22 : Stmt := top 35
abbrev s23 : Stmt := top 29
abbrev s24 : Stmt := top 36
abbrev s25 : Stmt := top 34
structure Txt (K : Fg) (mg : Str → Option Value) (a b : Nat → Addr) (fd : Nat → FuncData) : Prop where
  F0 : Fun K "law" "law" s0 (b 0) (fd 0)
  b0 : Binds K (fd 0) ["_law_script"] []
  k0 : PySem.W.keepIn K (.ref (b 0)) = true
  m0 : mg "law" = some (.ref (b 0))
  F1 : Fun K "_law_bag" "_law_bag" s1 (b 1) (fd 1)
  b1 : Binds K (fd 1) ["_law_script"] []
  k1 : PySem.W.keepIn K (.ref (b 1)) = true
  m1 : mg "_law_bag" = some (.ref (b 1))
  F2 : Fun K "_law_take" "_law_take" s2 (b 2) (fd 2)
  b2 : Binds K (fd 2) ["_law_bag_here", "_law_many"] []
  k2 : PySem.W.keepIn K (.ref (b 2)) = true
  m2 : mg "_law_take" = some (.ref (b 2))
  F3 : Fun K "_law_one" "_law_one" s3 (b 3) (fd 3)
  b3 : Binds K (fd 3) ["_law_bag_here", "_law_things"] []
  k3 : PySem.W.keepIn K (.ref (b 3)) = true
  m3 : mg "_law_one" = some (.ref (b 3))
  F4 : Fun K "_law_jobs" "_law_jobs" s4 (b 4) (fd 4)
  b4 : Binds K (fd 4) ["_law_bag_here", "_law_size", "_law_most"] []
  k4 : PySem.W.keepIn K (.ref (b 4)) = true
  m4 : mg "_law_jobs" = some (.ref (b 4))
  F5 : Fun K "_law_job" "_law_job" s5 (b 5) (fd 5)
  b5 : Binds K (fd 5) ["_law_bag_here", "_law_size"] []
  k5 : PySem.W.keepIn K (.ref (b 5)) = true
  m5 : mg "_law_job" = some (.ref (b 5))
  F6 : Fun K "_law_some" "_law_some" s6 (b 6) (fd 6)
  b6 : Binds K (fd 6) ["_law_bag_here", "_law_things"] []
  k6 : PySem.W.keepIn K (.ref (b 6)) = true
  m6 : mg "_law_some" = some (.ref (b 6))
  F7 : Fun K "__init__" "Jobs.__init__" s7 (b 7) (fd 7)
  b7 : Binds K (fd 7) ["self", "size", "jobs"] []
  k7 : PySem.W.keepIn K (.ref (b 7)) = true
  F8 : Fun K "is_between" "is_between" s8 (b 8) (fd 8)
  b8 : Binds K (fd 8) ["thing", "least", "most"] []
  k8 : PySem.W.keepIn K (.ref (b 8)) = true
  m8 : mg "is_between" = some (.ref (b 8))
  F9 : Fun K "is_integer" "is_integer" s9 (b 9) (fd 9)
  b9 : Binds K (fd 9) ["thing"] []
  k9 : PySem.W.keepIn K (.ref (b 9)) = true
  m9 : mg "is_integer" = some (.ref (b 9))
  F10 : Fun K "__init__" "Wrong.__init__" s10 (b 10) (fd 10)
  b10 : Binds K (fd 10) ["self", "place"] []
  k10 : PySem.W.keepIn K (.ref (b 10)) = true
  xi21 : PySem.W.findIn K (.ref (a 21)) "__init__" = some (some (.ref (b 10)))
  xt21 : PySem.W.typeIn K (.ref (b 10)) = some (.type "function")
  F11 : Fun K "is_listed" "is_listed" s11 (b 11) (fd 11)
  b11 : Binds K (fd 11) ["thing", "most"] []
  k11 : PySem.W.keepIn K (.ref (b 11)) = true
  m11 : mg "is_listed" = some (.ref (b 11))
  F12 : Fun K "is_group" "is_group" s12 (b 12) (fd 12)
  b12 : Binds K (fd 12) ["size", "thing"] []
  k12 : PySem.W.keepIn K (.ref (b 12)) = true
  m12 : mg "is_group" = some (.ref (b 12))
  F13 : Fun K "__init__" "NoJob.__init__" s13 (b 13) (fd 13)
  b13 : Binds K (fd 13) ["self", "at"] []
  k13 : PySem.W.keepIn K (.ref (b 13)) = true
  xi24 : PySem.W.findIn K (.ref (a 24)) "__init__" = some (some (.ref (b 13)))
  xt24 : PySem.W.typeIn K (.ref (b 13)) = some (.type "function")
  F14 : Fun K "_law_told" "_law_told" s14 (b 14) (fd 14)
  b14 : Binds K (fd 14) ["_law_way", "_law_one_here", "_law_other"] []
  k14 : PySem.W.keepIn K (.ref (b 14)) = true
  m14 : mg "_law_told" = some (.ref (b 14))
  F15 : Fun K "__add__" "Jobs.__add__" s15 (b 15) (fd 15)
  b15 : Binds K (fd 15) ["self", "other"] []
  k15 : PySem.W.keepIn K (.ref (b 15)) = true
  t15 : Meth K (a 0) "__add__" (b 15)
  F16 : Fun K "__init__" "Unlike.__init__" s16 (b 16) (fd 16)
  b16 : Binds K (fd 16) ["self"] []
  k16 : PySem.W.keepIn K (.ref (b 16)) = true
  xi23 : PySem.W.findIn K (.ref (a 23)) "__init__" = some (some (.ref (b 16)))
  xt23 : PySem.W.typeIn K (.ref (b 16)) = some (.type "function")
  F17 : Fun K "__init__" "TooMany.__init__" s17 (b 17) (fd 17)
  b17 : Binds K (fd 17) ["self", "limit"] []
  k17 : PySem.W.keepIn K (.ref (b 17)) = true
  xi22 : PySem.W.findIn K (.ref (a 22)) "__init__" = some (some (.ref (b 17)))
  xt22 : PySem.W.typeIn K (.ref (b 17)) = some (.type "function")
  F18 : Fun K "__or__" "Jobs.__or__" s18 (b 18) (fd 18)
  b18 : Binds K (fd 18) ["self", "other"] []
  k18 : PySem.W.keepIn K (.ref (b 18)) = true
  t18 : Meth K (a 0) "__or__" (b 18)
  F19 : Fun K "moved" "moved" s19 (b 19) (fd 19)
  b19 : Binds K (fd 19) ["group", "by"] []
  k19 : PySem.W.keepIn K (.ref (b 19)) = true
  m19 : mg "moved" = some (.ref (b 19))
  F20 : Fun K "__mul__" "Jobs.__mul__" s20 (b 20) (fd 20)
  b20 : Binds K (fd 20) ["self", "count"] []
  k20 : PySem.W.keepIn K (.ref (b 20)) = true
  t20 : Meth K (a 0) "__mul__" (b 20)
  F21 : Fun K "__rmul__" "Jobs.__rmul__" s21 (b 21) (fd 21)
  b21 : Binds K (fd 21) ["self", "count"] []
  k21 : PySem.W.keepIn K (.ref (b 21)) = true
  t21 : Meth K (a 0) "__rmul__" (b 21)
  F22 : Fun K "_law_sum" "_law_sum" s22 (b 22) (fd 22)
  b22 : Binds K (fd 22) ["_law_size", "_law_rows", "_law_wide", "_law_others"] []
  k22 : PySem.W.keepIn K (.ref (b 22)) = true
  m22 : mg "_law_sum" = some (.ref (b 22))
  F23 : Fun K "_law_alike" "_law_alike" s23 (b 23) (fd 23)
  b23 : Binds K (fd 23) ["_law_found", "_law_due"] []
  k23 : PySem.W.keepIn K (.ref (b 23)) = true
  m23 : mg "_law_alike" = some (.ref (b 23))
  F24 : Fun K "_law_beside" "_law_beside" s24 (b 24) (fd 24)
  b24 : Binds K (fd 24) ["_law_size", "_law_rows", "_law_wide", "_law_others"] []
  k24 : PySem.W.keepIn K (.ref (b 24)) = true
  m24 : mg "_law_beside" = some (.ref (b 24))
  F25 : Fun K "_law_repeated" "_law_repeated" s25 (b 25) (fd 25)
  b25 : Binds K (fd 25) ["_law_size", "_law_rows", "_law_count"] []
  k25 : PySem.W.keepIn K (.ref (b 25)) = true
  m25 : mg "_law_repeated" = some (.ref (b 25))
  mgC0 : mg "Jobs" = some (.ref (a 0))
  cl0 : Cls K (a 0)
  mk0 : Mk K (a 0) (b 7)
  mgC20 : mg "CrewError" = some (.ref (a 20))
  mgC21 : mg "Wrong" = some (.ref (a 21))
  mgC22 : mg "TooMany" = some (.ref (a 22))
  mgC23 : mg "Unlike" = some (.ref (a 23))
  mgC24 : mg "NoJob" = some (.ref (a 24))
  bi0_add : BiI K (a 0) (b 15) "add"
  bt0_add_int : BiT K (a 0) "add" "int"
  bt0_add_tuple : BiT K (a 0) "add" "tuple"
  bi0_mul : BiI K (a 0) (b 20) "mul"
  bt0_mul_int : BiT K (a 0) "mul" "int"
  bt0_mul_tuple : BiT K (a 0) "mul" "tuple"
  br0_mul : BiR K (a 0) (b 21) "mul"
  bi0_or : BiI K (a 0) (b 18) "or"
  bt0_or_int : BiT K (a 0) "or" "int"
  bt0_or_tuple : BiT K (a 0) "or" "tuple"
  n0_jobs : NoAttr K (a 0) "jobs"
  n0_size : NoAttr K (a 0) "size"
  x24 : XcF K (a 24)
  xa24_at : PySem.W.findIn K (.ref (a 24)) "at" = some none
  x22 : XcF K (a 22)
  xa22_limit : PySem.W.findIn K (.ref (a 22)) "limit" = some none
  x23 : XcF K (a 23)
  x21 : XcF K (a 21)
  xa21_place : PySem.W.findIn K (.ref (a 21)) "place" = some none
  crd : ClX.CRead K (a 20) (.type "type")
  cri : PySem.W.findCls K (.ref (a 20)) (.type "type") "__init__" = some (.val (.builtin "ValueError.__init__"))
  xk : XK K (a 20) (Xs a)
  xn_limit : ∀ C, C ∈ Xs a → PySem.W.findIn K (.ref C) "limit" = some none
  ik : IsiK K (Cs a)
  z_abs : mg "abs" = none
  z_all : mg "all" = none
  z_bool : mg "bool" = none
  z_enumerate : mg "enumerate" = none
  z_int : mg "int" = none
  z_isinstance : mg "isinstance" = none
  z_len : mg "len" = none
  z_list : mg "list" = none
  z_min : mg "min" = none
  z_range : mg "range" = none
  z_repr : mg "repr" = none
  z_tuple : mg "tuple" = none
  gi_MOST_JOBS : ∃ u, mg "MOST_JOBS" = some u ∧ RelV (.int 7) u
  gi_MOST_SIZE : ∃ u, mg "MOST_SIZE" = some u ∧ RelV (.int 7) u
section
variable {P : Program} {w : World} {K : Fg} {mg : Str → Option Value} {base : Heap} {a b : Nat → Addr} {fd : Nat → FuncData}
theorem sc_ini_NoJob : FnScope ["self", "at"] ["self", "at"] (defScope s13) := ⟨rfl, rfl, rfl, by decide +kernel, rfl, by decide +kernel, by decide +kernel⟩
theorem ini_NoJob (T : Txt K mg a b fd) : FnOk P w K mg base CX0 1 (b 13) (fd 13) ["self", "at"] (spI K (a 24) ["at"]) :=
  init1 T.x24.oex T.xa24_at T.F13 sc_ini_NoJob fun cdv A outer s H E => (pss_cons (ps_expr (pe_crinit rfl T.mgC20 T.crd T.cri (pa_cons (pe_var (i := 0) rfl (.inl rfl)) (pa_cons pe_str pa_nil)))) (pss_one (ps_ost (pe_var (i := 0) rfl (.inl rfl)) (pe_var (i := 1) rfl (.inl rfl)))))
theorem sc_ini_TooMany : FnScope ["self", "limit"] ["self", "limit"] (defScope s17) := ⟨rfl, rfl, rfl, by decide +kernel, rfl, by decide +kernel, by decide +kernel⟩
theorem ini_TooMany (T : Txt K mg a b fd) : FnOk P w K mg base CX0 1 (b 17) (fd 17) ["self", "limit"] (spI K (a 22) ["limit"]) :=
  init1 T.x22.oex T.xa22_limit T.F17 sc_ini_TooMany fun cdv A outer s H E => (pss_cons (ps_expr (pe_crinit rfl T.mgC20 T.crd T.cri (pa_cons (pe_var (i := 0) rfl (.inl rfl)) (pa_cons pe_str pa_nil)))) (pss_one (ps_ost (pe_var (i := 0) rfl (.inl rfl)) (pe_var (i := 1) rfl (.inl rfl)))))
theorem sc_ini_Unlike : FnScope ["self"] ["self"] (defScope s16) := ⟨rfl, rfl, rfl, by decide +kernel, rfl, by decide +kernel, by decide +kernel⟩
theorem ini_Unlike (T : Txt K mg a b fd) : FnOk P w K mg base CX0 1 (b 16) (fd 16) ["self"] (spI K (a 23) []) :=
  init0 T.x23.oex  T.F16 sc_ini_Unlike fun cdv A outer s H E => pss_one (ps_expr (pe_crinit rfl T.mgC20 T.crd T.cri (pa_cons (pe_var (i := 0) rfl (.inl rfl)) (pa_cons pe_str pa_nil))))
theorem sc_ini_Wrong : FnScope ["self", "place"] ["self", "place"] (defScope s10) := ⟨rfl, rfl, rfl, by decide +kernel, rfl, by decide +kernel, by decide +kernel⟩
theorem ini_Wrong (T : Txt K mg a b fd) : FnOk P w K mg base CX0 1 (b 10) (fd 10) ["self", "place"] (spI K (a 21) ["place"]) :=
  init1 T.x21.oex T.xa21_place T.F10 sc_ini_Wrong fun cdv A outer s H E => (pss_cons (ps_expr (pe_crinit rfl T.mgC20 T.crd T.cri (pa_cons (pe_var (i := 0) rfl (.inl rfl)) (pa_cons pe_str pa_nil)))) (pss_one (ps_ost (pe_var (i := 0) rfl (.inl rfl)) (pe_var (i := 1) rfl (.inl rfl)))))
theorem sc_law_bag : FnScope ["_law_script", "_law_cell"] ["_law_script"] (defScope s1) := ⟨rfl, rfl, rfl, by decide +kernel, rfl, by decide +kernel, by decide +kernel⟩
theorem bk_law_bag_0 : BlkOk ["_law_script", "_law_cell"] { kind := .function, names := [("_law_script", .local)], isGenerator := false, isCoroutine := false, more := [("fast", .str "_law_script"), ("fast", .str "_law_cell")] : Scope } { kind := .function, names := [(".0", .local), ("_law_cell", .local), ("abs", .globalImplicit)], isGenerator := false, isCoroutine := false, more := [] : Scope } [("_law_cell", 1)] := ⟨rfl, by decide +kernel, by decide +kernel, by decide +kernel, by decide +kernel⟩
theorem ok_law_bag (T : Txt K mg a b fd) : FnG P w K mg base (L2.CX P w) 1 (b 1) (fd 1) ["_law_script"] (spD K [false] (m_law_bag a)) :=
  fn_ok T.F1 sc_law_bag [false] rfl fun cdv A outer s H E hr hgd tk hp => (show PDB _ _ (defBody s1) (g_law_bag a) from
    (pds_one (pds_ret (pd_lst (pdl_cons pd_int (pdl_cons pd_int (pdl_cons pd_int (pdl_cons (pd_lcV rfl sc_law_bag.nd (pdi_seq (pd_slice (pd_var (i := 0) rfl (.inl rfl)) pdo_none (pdo_some pd_int))) bk_law_bag_0 rfl (fun _ _ _ _ _ => (pdg_name (i := 1) sc_law_bag.nd rfl (.inl rfl) (.inr rfl))) (fun _ _ _ _ _ => pdts_nil) (fun _ _ _ _ _ => (pd_callB cd_abs rfl T.z_abs PyProof.Rows.boot_abs (pda_cons (pd_var (i := 1) rfl (.inl rfl)) pda_nil))) (by decide)) pdl_nil))))))))
theorem sc_law_take : FnScope ["_law_bag_here", "_law_many", "_law_cell", "_law_mix", "_law_value", "_law_first", "_law_second"] ["_law_bag_here", "_law_many"] (defScope s2) := ⟨rfl, rfl, rfl, by decide +kernel, rfl, by decide +kernel, by decide +kernel⟩
theorem ok_law_take (T : Txt K mg a b fd) : FnG P w K mg base (L2.CX P w) 1 (b 2) (fd 2) ["_law_bag_here", "_law_many"] (spD K [true, false] (m_law_take a)) :=
  fn_ok T.F2 sc_law_take [true, false] rfl fun cdv A outer s H E hr hgd tk hp => (show PDB _ _ (defBody s2) (g_law_take a) from
    (pds_cons (pds_if (pdt_cmp (od_eq hr.units) (pd_ix (id_ixD (hu1 hr)) (pd_var (i := 0) rfl (.inl rfl)) pd_int (fun _ _ => rfl)) pd_int (nomark _)) (pds_cons (pds_set (i := 2) sc_law_take.nd rfl (.inl rfl) pd_int)
    (pds_cons (pds_if (pdt_cmp od_lt (pd_ix (id_ixD (hu1 hr)) (pd_var (i := 0) rfl (.inl rfl)) pd_int (fun _ _ => rfl)) (pd_callB cd_len rfl T.z_len PySem.boot_len (pda_cons (pd_ix (id_ixD (hu1 hr)) (pd_var (i := 0) rfl (.inl rfl)) pd_int (fun _ _ => rfl)) pda_nil)) (nomark _)) (pds_one (pds_set (i := 2) sc_law_take.nd rfl (.inl rfl) (pd_ix (id_ixD (hu1 hr)) (pd_ix (id_ixD (hu1 hr)) (pd_var (i := 0) rfl (.inl rfl)) pd_int (fun _ _ => rfl)) (pd_ix (id_ixD (hu1 hr)) (pd_var (i := 0) rfl (.inl rfl)) pd_int (fun _ _ => rfl)) (fun _ _ => rfl)))) pds_nil)
    (pds_cons (pds_augIx (hu1 hr) (i := 0) rfl (.inl rfl) pd_int pd_int)
    (pds_cons (pds_if (pdt_cmp od_ge (pd_var (i := 2) rfl (.inl rfl)) pd_int (nomark _)) (pds_one (pds_setIx (i := 0) rfl (.inl rfl) pd_int (pd_var (i := 2) rfl (.inl rfl)) (hg := pg_sub (pe_var rfl (.inl rfl)) pd_int (set_ld (hu1 hr))))) pds_nil)
    (pds_cons (pds_set (i := 3) sc_law_take.nd rfl (.inl rfl) (pd_op od_add (pd_op od_mul (pd_ix (id_ixD (hu1 hr)) (pd_var (i := 0) rfl (.inl rfl)) pd_int (fun _ _ => rfl)) pd_int) (pd_op od_mod (pd_callTy cd_int rfl T.z_int PyProof.Rows.boot_int (pda_cons (pd_var (i := 2) rfl (.inl rfl)) pda_nil)) pd_int)))
    (pds_one (pds_setIx (i := 0) rfl (.inl rfl) pd_int (pd_op od_mod (pd_callTy cd_int rfl T.z_int PyProof.Rows.boot_int (pda_cons (pd_op od_add (pd_var (i := 3) rfl (.inl rfl)) (pd_op od_mul pd_int (pd_ix (id_ixD (hu1 hr)) (pd_var (i := 0) rfl (.inl rfl)) pd_int (fun _ _ => rfl)))) pda_nil)) pd_int) (hg := pg_sub (pe_var rfl (.inl rfl)) pd_int (set_ld (hu1 hr)))))))))) pds_nil)
    (pds_cons (pds_if (pdt_cmp od_gt (pd_ix (id_ixD (hu1 hr)) (pd_var (i := 0) rfl (.inl rfl)) pd_int (fun _ _ => rfl)) pd_int (nomark _)) (pds_cons (pds_set (i := 4) sc_law_take.nd rfl (.inl rfl) (pd_op od_mod (pd_callTy cd_int rfl T.z_int PyProof.Rows.boot_int (pda_cons (pd_ix (id_ixD (hu1 hr)) (pd_var (i := 0) rfl (.inl rfl)) pd_int (fun _ _ => rfl)) pda_nil)) (pd_var (i := 1) rfl (.inl rfl))))
    (pds_cons (pds_setIx (i := 0) rfl (.inl rfl) pd_int (pd_op od_div (pd_ix (id_ixD (hu1 hr)) (pd_var (i := 0) rfl (.inl rfl)) pd_int (fun _ _ => rfl)) (pd_var (i := 1) rfl (.inl rfl))) (hg := pg_sub (pe_var rfl (.inl rfl)) pd_int (set_ld (hu1 hr))))
    (pds_one (pds_ret (pd_var (i := 4) rfl (.inl rfl)))))) pds_nil)
    (pds_cons (pds_set (i := 5) sc_law_take.nd rfl (.inl rfl) (pd_op od_mod (pd_callTy cd_int rfl T.z_int PyProof.Rows.boot_int (pda_cons (pd_op od_mul (pd_op od_add (pd_ix (id_ixD (hu1 hr)) (pd_var (i := 0) rfl (.inl rfl)) pd_int (fun _ _ => rfl)) pd_int) pd_int) pda_nil)) pd_int))
    (pds_cons (pds_set (i := 6) sc_law_take.nd rfl (.inl rfl) (pd_op od_mod (pd_callTy cd_int rfl T.z_int PyProof.Rows.boot_int (pda_cons (pd_op od_mul (pd_var (i := 5) rfl (.inl rfl)) (pd_var (i := 5) rfl (.inl rfl))) pda_nil)) pd_int))
    (pds_one (pds_ret (pd_op od_mod (pd_callTy cd_int rfl T.z_int PyProof.Rows.boot_int (pda_cons (pd_op od_div (pd_op od_mod (pd_callTy cd_int rfl T.z_int PyProof.Rows.boot_int (pda_cons (pd_op od_mul (pd_var (i := 6) rfl (.inl rfl)) pd_int) pda_nil)) pd_int) pd_int) pda_nil)) (pd_var (i := 1) rfl (.inl rfl))))))))))
theorem sc_law_one : FnScope ["_law_bag_here", "_law_things"] ["_law_bag_here", "_law_things"] (defScope s3) := ⟨rfl, rfl, rfl, by decide +kernel, rfl, by decide +kernel, by decide +kernel⟩
theorem ok_law_one (T : Txt K mg a b fd) : FnG P w K mg base (L2.CX P w) 2 (b 3) (fd 3) ["_law_bag_here", "_law_things"] (spD K [true, false] (m_law_one a)) :=
  fn_ok T.F3 sc_law_one [true, false] rfl fun cdv A outer s H E hr hgd tk hp => (show PDB _ _ (defBody s3) (g_law_one a) from
    (pds_one (pds_ret (pd_ix (id_ixD (hu1 hr)) (pd_var (i := 1) rfl (.inl rfl)) (pd_call (ok_law_take T) (hr.mono (by decide)) hgd rfl T.m2 T.k2 T.b2 (passAt tk) (pda_keep (pd_var (i := 0) rfl (.inl rfl)) (pda_esc (pd_callB cd_len rfl T.z_len PySem.boot_len (pda_cons (pd_var (i := 1) rfl (.inl rfl)) pda_nil)) pda_nil))) (fun _ _ => rfl)))))
theorem sc_law_one_tt : FnScope ["_law_bag_here", "_law_things"] ["_law_bag_here", "_law_things"] (defScope s3) := ⟨rfl, rfl, rfl, by decide +kernel, rfl, by decide +kernel, by decide +kernel⟩
theorem ok_law_one_tt (T : Txt K mg a b fd) : FnG P w K mg base (L2.CX P w) 2 (b 3) (fd 3) ["_law_bag_here", "_law_things"] (spD K [true, true] (m_law_one_tt a)) :=
  fn_ok T.F3 sc_law_one_tt [true, true] rfl fun cdv A outer s H E hr hgd tk hp => (show PDB _ _ (defBody s3) (g_law_one_tt a) from
    (pds_one (pds_ret (pd_ix (id_ixD (hu1 hr)) (pd_var (i := 1) rfl (.inl rfl)) (pd_call (ok_law_take T) (hr.mono (by decide)) hgd rfl T.m2 T.k2 T.b2 (passAt tk) (pda_keep (pd_var (i := 0) rfl (.inl rfl)) (pda_esc (pd_callB cd_len rfl T.z_len PySem.boot_len (pda_cons (pd_var (i := 1) rfl (.inl rfl)) pda_nil)) pda_nil))) (fun _ _ => rfl)))))
theorem sc_law_some : FnScope ["_law_bag_here", "_law_things", "_law_one_here"] ["_law_bag_here", "_law_things"] (defScope s6) := ⟨rfl, rfl, rfl, by decide +kernel, rfl, by decide +kernel, by decide +kernel⟩
theorem bk_law_some_0 : BlkOk ["_law_bag_here", "_law_things", "_law_one_here"] { kind := .function, names := [("_law_bag_here", .cell), ("_law_things", .local)], isGenerator := false, isCoroutine := false, more := [("fast", .str "_law_bag_here"), ("fast", .str "_law_things"), ("fast", .str "_law_one_here")] : Scope } { kind := .function, names := [(".0", .local), ("_law_one_here", .local), ("_law_take", .globalImplicit), ("_law_bag_here", .free)], isGenerator := false, isCoroutine := false, more := [] : Scope } [("_law_one_here", 2)] := ⟨rfl, by decide +kernel, by decide +kernel, by decide +kernel, by decide +kernel⟩
theorem ok_law_some (T : Txt K mg a b fd) : FnG P w K mg base (L2.CX P w) 2 (b 6) (fd 6) ["_law_bag_here", "_law_things"] (spD K [true, false] (m_law_some a)) :=
  fn_ok T.F6 sc_law_some [true, false] rfl fun cdv A outer s H E hr hgd tk hp => (show PDB _ _ (defBody s6) (g_law_some a) from
    (pds_one (pds_ret (pd_lcV rfl sc_law_some.nd (pdi_seq (pd_var (i := 1) rfl (.inl rfl))) bk_law_some_0 rfl (fun _ _ _ _ _ => (pdg_name (i := 2) sc_law_some.nd rfl (.inl rfl) (.inr rfl))) (fun _ _ _ _ _ => (pdts_one (pdt_cmp (od_eq hr.units) (pd_call (ok_law_take T) (hr.mono (by decide)) hgd rfl T.m2 T.k2 T.b2 passN (pda_keep (pd_var (i := 0) rfl (.inr (.inl rfl))) (pda_esc pd_int pda_nil))) pd_int (nomark _)))) (fun _ _ _ _ _ => (pd_var (i := 2) rfl (.inl rfl))) (by decide)))))
theorem sc_law_job : FnScope ["_law_bag_here", "_law_size", "_law_way", "_law_job_here"] ["_law_bag_here", "_law_size"] (defScope s5) := ⟨rfl, rfl, rfl, by decide +kernel, rfl, by decide +kernel, by decide +kernel⟩
theorem ok_law_job (T : Txt K mg a b fd) : FnG P w K mg base (L2.CX P w) 3 (b 5) (fd 5) ["_law_bag_here", "_law_size"] (spD K [true, false] (m_law_job a)) :=
  fn_ok T.F5 sc_law_job [true, false] rfl fun cdv A outer s H E hr hgd tk hp => (show PDB _ _ (defBody s5) (g_law_job a) from
    (pds_cons (pds_set (i := 2) sc_law_job.nd rfl (.inl rfl) (pd_call (ok_law_take T) (hr.mono (by decide)) hgd rfl T.m2 T.k2 T.b2 (passAt tk) (pda_keep (pd_var (i := 0) rfl (.inl rfl)) (pda_esc pd_int pda_nil))))
    (pds_cons (pds_if (pdt_cmp (od_eq hr.units) (pd_var (i := 2) rfl (.inl rfl)) pd_int (nomark _)) (pds_one (pds_ret (pd_tupRg rfl rfl T.z_tuple (pdr_1 rfl T.z_range (pd_var (i := 1) rfl (.inl rfl)))))) pds_nil)
    (pds_cons (pds_set (i := 3) sc_law_job.nd rfl (.inl rfl) (pd_call (ok_law_some T) (hr.mono (by decide)) hgd rfl T.m6 T.k6 T.b6 (passAt tk) (pda_keep (pd_var (i := 0) rfl (.inl rfl)) (pda_esc (pd_listRg rfl rfl T.z_list (pdr_1 rfl T.z_range (pd_var (i := 1) rfl (.inl rfl)))) pda_nil))))
    (pds_cons (pds_if (pdt_cmp od_lt (pd_var (i := 2) rfl (.inl rfl)) pd_int (nomark _)) (pds_one (pds_set (i := 3) sc_law_job.nd rfl (.inl rfl) (pd_call (ok_law_some T) (hr.mono (by decide)) hgd rfl T.m6 T.k6 T.b6 (passAt tk) (pda_keep (pd_var (i := 0) rfl (.inl rfl)) (pda_esc (pd_var (i := 3) rfl (.inl rfl)) pda_nil))))) pds_nil)
    (pds_one (pds_ret (pd_callTy cd_tuple rfl T.z_tuple PyProof.Rows.boot_tuple (pda_cons (pd_var (i := 3) rfl (.inl rfl)) pda_nil)))))))))
theorem sc_law_jobs : FnScope ["_law_bag_here", "_law_size", "_law_most", "_law_jobs_here", "_law_k"] ["_law_bag_here", "_law_size", "_law_most"] (defScope s4) := ⟨rfl, rfl, rfl, by decide +kernel, rfl, by decide +kernel, by decide +kernel⟩
theorem ok_law_jobs (T : Txt K mg a b fd) : FnG P w K mg base (L2.CX P w) 4 (b 4) (fd 4) ["_law_bag_here", "_law_size", "_law_most"] (spD K [true, false, false] (m_law_jobs a)) :=
  fn_ok T.F4 sc_law_jobs [true, false, false] rfl fun cdv A outer s H E hr hgd tk hp => (show PDB _ _ (defBody s4) (g_law_jobs a) from
    (pds_cons (pds_set (i := 3) sc_law_jobs.nd rfl (.inl rfl) (pd_lst pdl_nil))
    (pds_cons (pds_for hp rfl (pdi_pre (pdi_range1 rfl T.z_range (pda_cons (pd_call (ok_law_take T) (hr.mono (by decide)) hgd rfl T.m2 T.k2 T.b2 (passAt tk) (pda_keep (pd_var (i := 0) rfl (.inl rfl)) (pda_esc (pd_op od_add (pd_var (i := 2) rfl (.inl rfl)) pd_int) pda_nil))) pda_nil))) (pdg_name (i := 4) sc_law_jobs.nd rfl (.inl rfl) (.inr rfl)) (pdb_frz (pdb_fgt (pds_one (pds_if (pdt_w (pdw_and (pdt_cmp (od_ne hr.units) (pd_var (i := 3) rfl (.inl rfl)) (pd_lst pdl_nil) (nomark _)) (pdw_and1 (pdt_cmp (od_eq hr.units) (pd_call (ok_law_take T) (hr.mono (by decide)) hgd rfl T.m2 T.k2 T.b2 (passAt tk) (pda_keep (pd_var (i := 0) rfl (.inl rfl)) (pda_esc pd_int pda_nil))) pd_int (nomark _))))) (pds_one (pds_expr (pd_append (i := 3) rfl (.inl rfl) (pdl_cons (pd_call (ok_law_one_tt T) (hr.mono (by decide)) hgd rfl T.m3 T.k3 T.b3 (passAt tk) (pda_keep (pd_var (i := 0) rfl (.inl rfl)) (pda_keep (pd_var (i := 3) rfl (.inl rfl)) pda_nil))) pdl_nil)))) (pds_one (pds_expr (pd_append (i := 3) rfl (.inl rfl) (pdl_cons (pd_call (ok_law_job T) (hr.mono (by decide)) hgd rfl T.m5 T.k5 T.b5 (passAt tk) (pda_keep (pd_var (i := 0) rfl (.inl rfl)) (pda_esc (pd_var (i := 1) rfl (.inl rfl)) pda_nil))) pdl_nil)))))))))
    (pds_one (pds_ret (pd_var (i := 3) rfl (.inl rfl)))))))
theorem sc_is_integer : FnScope ["thing"] ["thing"] (defScope s9) := ⟨rfl, rfl, rfl, by decide +kernel, rfl, by decide +kernel, by decide +kernel⟩
theorem ok_is_integer (T : Txt K mg a b fd) : FnG P w K mg base (L2.CX P w) 1 (b 9) (fd 9) ["thing"] (spD K [false] (m_is_integer a)) :=
  fn_ok T.F9 sc_is_integer [false] rfl fun cdv A outer s H E hr hgd tk hp => (show PDB _ _ (defBody s9) (g_is_integer a) from
    (pds_one (pds_ret (pd_and (pd_callB (cd_isi T.ik) rfl T.z_isinstance PyProof.Rows.boot_isinstance (pda_cons (pd_var (i := 0) rfl (.inl rfl)) (pda_cons (pd_bltn (v := .ty "int") rfl T.z_int PyProof.Rows.boot_int rfl) pda_nil))) (pd_one (pd_not (pd_callB (cd_isi T.ik) rfl T.z_isinstance PyProof.Rows.boot_isinstance (pda_cons (pd_var (i := 0) rfl (.inl rfl)) (pda_cons (pd_bltn (v := .ty "bool") rfl T.z_bool PyProof.Rows.boot_bool rfl) pda_nil)))))))))
theorem sc_is_between : FnScope ["thing", "least", "most"] ["thing", "least", "most"] (defScope s8) := ⟨rfl, rfl, rfl, by decide +kernel, rfl, by decide +kernel, by decide +kernel⟩
theorem ok_is_between (T : Txt K mg a b fd) : FnG P w K mg base (L2.CX P w) 2 (b 8) (fd 8) ["thing", "least", "most"] (spD K [false, false, false] (m_is_between a)) :=
  fn_ok T.F8 sc_is_between [false, false, false] rfl fun cdv A outer s H E hr hgd tk hp => (show PDB _ _ (defBody s8) (g_is_between a) from
    (pds_one (pds_ret (pd_and (pd_call (ok_is_integer T) (hr.mono (by decide)) hgd rfl T.m9 T.k9 T.b9 (passAt tk) (pda_esc (pd_var (i := 0) rfl (.inl rfl)) pda_nil)) (pd_one (pd_chain od_le od_le (pd_var (i := 1) rfl (.inl rfl)) (pd_var (i := 0) rfl (.inl rfl)) (pd_var (i := 2) rfl (.inl rfl))))))))
theorem sc_is_listed : FnScope ["thing", "most"] ["thing", "most"] (defScope s11) := ⟨rfl, rfl, rfl, by decide +kernel, rfl, by decide +kernel, by decide +kernel⟩
theorem ok_is_listed (T : Txt K mg a b fd) : FnG P w K mg base (L2.CX P w) 1 (b 11) (fd 11) ["thing", "most"] (spD K [false, false] (m_is_listed a)) :=
  fn_ok T.F11 sc_is_listed [false, false] rfl fun cdv A outer s H E hr hgd tk hp => (show PDB _ _ (defBody s11) (g_is_listed a) from
    (pds_one (pds_ret (pd_and (pd_isi2 T.ik (pd_var (i := 0) rfl (.inl rfl)) rfl T.z_isinstance rfl T.z_list PyProof.Rows.boot_list rfl T.z_tuple PyProof.Rows.boot_tuple) (pd_one (pd_cmp od_le (pd_callB cd_len rfl T.z_len PySem.boot_len (pda_cons (pd_var (i := 0) rfl (.inl rfl)) pda_nil)) (pd_var (i := 1) rfl (.inl rfl)) (nomark _)))))))
theorem sc_is_group : FnScope ["size", "thing", "person", "at"] ["size", "thing"] (defScope s12) := ⟨rfl, rfl, rfl, by decide +kernel, rfl, by decide +kernel, by decide +kernel⟩
theorem bk_is_group_0 : BlkOk ["size", "thing", "person", "at"] { kind := .function, names := [("size", .cell), ("thing", .cell), ("isinstance", .globalImplicit), ("tuple", .globalImplicit), ("all", .globalImplicit), ("range", .globalImplicit), ("len", .globalImplicit)], isGenerator := false, isCoroutine := false, more := [("fast", .str "size"), ("fast", .str "thing"), ("fast", .str "person"), ("fast", .str "at")] : Scope } { kind := .function, names := [(".0", .local), ("person", .local), ("is_between", .globalImplicit), ("size", .free)], isGenerator := false, isCoroutine := false, more := [] : Scope } [("person", 2)] := ⟨rfl, by decide +kernel, by decide +kernel, by decide +kernel, by decide +kernel⟩
theorem bk_is_group_1 : BlkOk ["size", "thing", "person", "at"] { kind := .function, names := [("size", .cell), ("thing", .cell), ("isinstance", .globalImplicit), ("tuple", .globalImplicit), ("all", .globalImplicit), ("range", .globalImplicit), ("len", .globalImplicit)], isGenerator := false, isCoroutine := false, more := [("fast", .str "size"), ("fast", .str "thing"), ("fast", .str "person"), ("fast", .str "at")] : Scope } { kind := .function, names := [(".0", .local), ("at", .local), ("thing", .free)], isGenerator := false, isCoroutine := false, more := [] : Scope } [("at", 3)] := ⟨rfl, by decide +kernel, by decide +kernel, by decide +kernel, by decide +kernel⟩
theorem ok_is_group (T : Txt K mg a b fd) : FnG P w K mg base (L2.CX P w) 3 (b 12) (fd 12) ["size", "thing"] (spD K [false, false] (m_is_group a)) :=
  fn_ok T.F12 sc_is_group [false, false] rfl fun cdv A outer s H E hr hgd tk hp => (show PDB _ _ (defBody s12) (g_is_group a) from
    (pds_cons (pds_if (pdt_w (pdw_or (pdt_not (pdt_val (pd_callB (cd_isi T.ik) rfl T.z_isinstance PyProof.Rows.boot_isinstance (pda_cons (pd_var (i := 1) rfl (.inr (.inl rfl))) (pda_cons (pd_bltn (v := .ty "tuple") rfl T.z_tuple PyProof.Rows.boot_tuple rfl) pda_nil))))) (pdw_or1 (pdt_not (pdt_val (pd_callB (cd_all rfl) rfl T.z_all PyProof.Rows.boot_all (pda_cons (pd_lcV rfl sc_is_group.nd (pdi_seq (pd_var (i := 1) rfl (.inr (.inl rfl)))) bk_is_group_0 rfl (fun _ _ _ _ _ => (pdg_name (i := 2) sc_is_group.nd rfl (.inl rfl) (.inr rfl))) (fun _ _ _ _ _ => pdts_nil) (fun _ _ _ _ _ => (pd_call (ok_is_between T) (hr.mono (by decide)) hgd rfl T.m8 T.k8 T.b8 passN (pda_esc (pd_var (i := 2) rfl (.inl rfl)) (pda_esc pd_int (pda_esc (pd_op od_sub (pd_var (i := 0) rfl (.inr (.inl rfl))) pd_int) pda_nil))))) (by decide)) pda_nil))))))) (pds_one (pds_ret pd_bl)) pds_nil)
    (pds_one (pds_ret (pd_callB (cd_all rfl) rfl T.z_all PyProof.Rows.boot_all (pda_cons (pd_lcV rfl sc_is_group.nd (pdi_range1 rfl T.z_range (pda_cons (pd_op od_sub (pd_callB cd_len rfl T.z_len PySem.boot_len (pda_cons (pd_var (i := 1) rfl (.inr (.inl rfl))) pda_nil)) pd_int) pda_nil)) bk_is_group_1 rfl (fun _ _ _ _ _ => (pdg_name (i := 3) sc_is_group.nd rfl (.inl rfl) (.inr rfl))) (fun _ _ _ _ _ => pdts_nil) (fun _ _ _ _ _ => (pd_cmp od_lt (pd_ix (id_ixD (hu1 hr)) (pd_var (i := 1) rfl (.inr (.inl rfl))) (pd_var (i := 3) rfl (.inl rfl)) (fun _ _ => rfl)) (pd_ix (id_ixD (hu1 hr)) (pd_var (i := 1) rfl (.inr (.inl rfl))) (pd_op od_add (pd_var (i := 3) rfl (.inl rfl)) pd_int) (fun _ _ => rfl)) (nomark _))) (by decide)) pda_nil))))))
theorem sc_Jobs_UinitU : FnScope ["self", "size", "jobs", "at", "job"] ["self", "size", "jobs"] (defScope s7) := ⟨rfl, rfl, rfl, by decide +kernel, rfl, by decide +kernel, by decide +kernel⟩
theorem ok_Jobs_UinitU (T : Txt K mg a b fd) : FnG P w K mg base (L2.CX P w) 4 (b 7) (fd 7) ["self", "size", "jobs"] (spD K [true, false, false] (m_Jobs_UinitU a)) :=
  fn_ok T.F7 sc_Jobs_UinitU [true, false, false] rfl fun cdv A outer s H E hr hgd tk hp => (show PDB _ _ (defBody s7) (g_Jobs_UinitU a) from
    (pds_cons (pds_if (pdt_not (pdt_val (pd_call (ok_is_between T) (hr.mono (by decide)) hgd rfl T.m8 T.k8 T.b8 (passAt tk) (pda_esc (pd_var (i := 1) rfl (.inl rfl)) (pda_esc pd_int (pda_esc (pd_globI rfl T.gi_MOST_SIZE.choose_spec.1 T.gi_MOST_SIZE.choose_spec.2) pda_nil)))))) (pds_one (pds_raise (by decide) rfl tk T.x21.oex T.xi21 T.xt21 (ini_Wrong T) (hr.mono (by decide)) T.b10 rfl T.mgC21 (pdl_cons pd_int pdl_nil))) pds_nil)
    (pds_cons (pds_if (pdt_not (pdt_val (pd_call (ok_is_listed T) (hr.mono (by decide)) hgd rfl T.m11 T.k11 T.b11 (passAt tk) (pda_esc (pd_var (i := 2) rfl (.inl rfl)) (pda_esc (pd_globI rfl T.gi_MOST_JOBS.choose_spec.1 T.gi_MOST_JOBS.choose_spec.2) pda_nil))))) (pds_one (pds_raise (by decide) rfl tk T.x21.oex T.xi21 T.xt21 (ini_Wrong T) (hr.mono (by decide)) T.b10 rfl T.mgC21 (pdl_cons pd_int pdl_nil))) pds_nil)
    (pds_cons (pds_for hp rfl (pdi_pre (pdi_enum rfl T.z_enumerate (pd_var (i := 2) rfl (.inl rfl)))) (pdg_tup rfl (pdgs_cons (pdg_name (i := 3) sc_Jobs_UinitU.nd rfl (.inl rfl) (.inr rfl)) (pdgs_cons (pdg_name (i := 4) sc_Jobs_UinitU.nd rfl (.inl rfl) (.inr rfl)) pdgs_nil))) (pdb_frz (pdb_fgt (pds_one (pds_if (pdt_not (pdt_val (pd_call (ok_is_group T) (hr.mono (by decide)) hgd rfl T.m12 T.k12 T.b12 (passAt tk) (pda_esc (pd_var (i := 1) rfl (.inl rfl)) (pda_esc (pd_var (i := 4) rfl (.inl rfl)) pda_nil))))) (pds_one (pds_raise (by decide) rfl tk T.x24.oex T.xi24 T.xt24 (ini_NoJob T) (hr.mono (by decide)) T.b13 rfl T.mgC24 (pdl_cons (pd_var (i := 3) rfl (.inl rfl)) pdl_nil))) pds_nil)))))
    (pds_cons (pds_fldS (i := 0) rfl (.inl rfl) T.cl0 T.n0_size (pd_var (i := 1) rfl (.inl rfl)))
    (pds_one (pds_fldS (i := 0) rfl (.inl rfl) T.cl0 T.n0_jobs (pd_callTy cd_tuple rfl T.z_tuple PyProof.Rows.boot_tuple (pda_cons (pd_var (i := 2) rfl (.inl rfl)) pda_nil)))))))))
theorem sc_Jobs_UaddU : FnScope ["self", "other"] ["self", "other"] (defScope s15) := ⟨rfl, rfl, rfl, by decide +kernel, rfl, by decide +kernel, by decide +kernel⟩
theorem ok_Jobs_UaddU (T : Txt K mg a b fd) : FnG P w K mg base (L2.CX P w) 6 (b 15) (fd 15) ["self", "other"] (spD K [false, false] (m_Jobs_UaddU a)) :=
  fn_ok T.F15 sc_Jobs_UaddU [false, false] rfl fun cdv A outer s H E hr hgd tk hp => (show PDB _ _ (defBody s15) (g_Jobs_UaddU a) from
    (pds_cons (pds_if (pdt_cmp (od_ne hr.units) (pd_fld (pd_var (i := 0) rfl (.inl rfl)) T.cl0 T.n0_size) (pd_fld (pd_var (i := 1) rfl (.inl rfl)) T.cl0 T.n0_size) (nomark _)) (pds_one (pds_raise0 rfl tk T.x23.oex T.xi23 T.xt23 (ini_Unlike T) (hr.mono (by decide)) T.b16 rfl T.mgC23)) pds_nil)
    (pds_cons (pds_if (pdt_cmp od_gt (pd_op od_add (pd_callB cd_len rfl T.z_len PySem.boot_len (pda_cons (pd_fld (pd_var (i := 0) rfl (.inl rfl)) T.cl0 T.n0_jobs) pda_nil)) (pd_callB cd_len rfl T.z_len PySem.boot_len (pda_cons (pd_fld (pd_var (i := 1) rfl (.inl rfl)) T.cl0 T.n0_jobs) pda_nil))) (pd_globI rfl T.gi_MOST_JOBS.choose_spec.1 T.gi_MOST_JOBS.choose_spec.2) (nomark _)) (pds_one (pds_raise (by decide) rfl tk T.x22.oex T.xi22 T.xt22 (ini_TooMany T) (hr.mono (by decide)) T.b17 rfl T.mgC22 (pdl_cons (pd_globI rfl T.gi_MOST_JOBS.choose_spec.1 T.gi_MOST_JOBS.choose_spec.2) pdl_nil))) pds_nil)
    (pds_one (pds_ret (pd_make T.mk0 (ok_Jobs_UinitU T) (hr.mono (by decide)) hgd rfl T.mgC0 T.b7 (passAt tk) (pda_esc (pd_fld (pd_var (i := 0) rfl (.inl rfl)) T.cl0 T.n0_size) (pda_esc (pd_op od_add (pd_fld (pd_var (i := 0) rfl (.inl rfl)) T.cl0 T.n0_jobs) (pd_fld (pd_var (i := 1) rfl (.inl rfl)) T.cl0 T.n0_jobs)) pda_nil))))))))
theorem sc_moved : FnScope ["group", "by", "person"] ["group", "by"] (defScope s19) := ⟨rfl, rfl, rfl, by decide +kernel, rfl, by decide +kernel, by decide +kernel⟩
theorem bk_moved_0 : BlkOk ["group", "by", "person"] { kind := .function, names := [("group", .local), ("by", .cell), ("tuple", .globalImplicit)], isGenerator := false, isCoroutine := false, more := [("fast", .str "group"), ("fast", .str "by"), ("fast", .str "person")] : Scope } { kind := .function, names := [(".0", .local), ("person", .local), ("by", .free)], isGenerator := false, isCoroutine := false, more := [] : Scope } [("person", 2)] := ⟨rfl, by decide +kernel, by decide +kernel, by decide +kernel, by decide +kernel⟩
theorem ok_moved (T : Txt K mg a b fd) : FnG P w K mg base (L2.CX P w) 1 (b 19) (fd 19) ["group", "by"] (spD K [false, false] (m_moved a)) :=
  fn_ok T.F19 sc_moved [false, false] rfl fun cdv A outer s H E hr hgd tk hp => (show PDB _ _ (defBody s19) (g_moved a) from
    (pds_one (pds_ret (pd_callTy cd_tuple rfl T.z_tuple PyProof.Rows.boot_tuple (pda_cons (pd_lcV rfl sc_moved.nd (pdi_seq (pd_var (i := 0) rfl (.inl rfl))) bk_moved_0 rfl (fun _ _ _ _ _ => (pdg_name (i := 2) sc_moved.nd rfl (.inl rfl) (.inr rfl))) (fun _ _ _ _ _ => pdts_nil) (fun _ _ _ _ _ => (pd_op od_add (pd_var (i := 2) rfl (.inl rfl)) (pd_var (i := 1) rfl (.inr (.inl rfl))))) (by decide)) pda_nil)))))
theorem sc_Jobs_UorU : FnScope ["self", "other", "behind", "job"] ["self", "other"] (defScope s18) := ⟨rfl, rfl, rfl, by decide +kernel, rfl, by decide +kernel, by decide +kernel⟩
theorem bk_Jobs_UorU_0 : BlkOk ["self", "other", "behind", "job"] { kind := .function, names := [("self", .cell), ("other", .local), ("behind", .local), ("MOST_SIZE", .globalImplicit), ("len", .globalImplicit), ("MOST_JOBS", .globalImplicit), ("TooMany", .globalImplicit), ("Jobs", .globalImplicit), ("list", .globalImplicit)], isGenerator := false, isCoroutine := false, more := [("fast", .str "self"), ("fast", .str "other"), ("fast", .str "job"), ("fast", .str "behind")] : Scope } { kind := .function, names := [(".0", .local), ("job", .local), ("moved", .globalImplicit), ("self", .free)], isGenerator := false, isCoroutine := false, more := [] : Scope } [("job", 3)] := ⟨rfl, by decide +kernel, by decide +kernel, by decide +kernel, by decide +kernel⟩
theorem ok_Jobs_UorU (T : Txt K mg a b fd) : FnG P w K mg base (L2.CX P w) 6 (b 18) (fd 18) ["self", "other"] (spD K [false, false] (m_Jobs_UorU a)) :=
  fn_ok T.F18 sc_Jobs_UorU [false, false] rfl fun cdv A outer s H E hr hgd tk hp => (show PDB _ _ (defBody s18) (g_Jobs_UorU a) from
    (pds_cons (pds_if (pdt_w (pdw_or (pdt_cmp od_gt (pd_op od_add (pd_fld (pd_var (i := 0) rfl (.inr (.inl rfl))) T.cl0 T.n0_size) (pd_fld (pd_var (i := 1) rfl (.inl rfl)) T.cl0 T.n0_size)) (pd_globI rfl T.gi_MOST_SIZE.choose_spec.1 T.gi_MOST_SIZE.choose_spec.2) (nomark _)) (pdw_or1 (pdt_cmp od_gt (pd_op od_add (pd_callB cd_len rfl T.z_len PySem.boot_len (pda_cons (pd_fld (pd_var (i := 0) rfl (.inr (.inl rfl))) T.cl0 T.n0_jobs) pda_nil)) (pd_callB cd_len rfl T.z_len PySem.boot_len (pda_cons (pd_fld (pd_var (i := 1) rfl (.inl rfl)) T.cl0 T.n0_jobs) pda_nil))) (pd_globI rfl T.gi_MOST_JOBS.choose_spec.1 T.gi_MOST_JOBS.choose_spec.2) (nomark _))))) (pds_one (pds_raise (by decide) rfl tk T.x22.oex T.xi22 T.xt22 (ini_TooMany T) (hr.mono (by decide)) T.b17 rfl T.mgC22 (pdl_cons (pd_globI rfl T.gi_MOST_JOBS.choose_spec.1 T.gi_MOST_JOBS.choose_spec.2) pdl_nil))) pds_nil)
    (pds_cons (pds_setLcV (i := 2) rfl sc_Jobs_UorU.nd rfl rfl rfl (pdi_seq (pd_fld (pd_var (i := 1) rfl (.inl rfl)) T.cl0 T.n0_jobs)) bk_Jobs_UorU_0 rfl (fun _ _ _ _ _ => (pdg_name (i := 3) sc_Jobs_UorU.nd rfl (.inl rfl) (.inr rfl))) (fun _ _ _ _ _ => pdts_nil) (fun _ _ _ _ _ => (pd_call (ok_moved T) (hr.mono (by decide)) hgd rfl T.m19 T.k19 T.b19 passN (pda_esc (pd_var (i := 3) rfl (.inl rfl)) (pda_esc (pd_fld (pd_var (i := 0) rfl (.inr (.inl rfl))) T.cl0 T.n0_size) pda_nil)))) (by decide))
    (pds_one (pds_ret (pd_make T.mk0 (ok_Jobs_UinitU T) (hr.mono (by decide)) hgd rfl T.mgC0 T.b7 (passAt tk) (pda_esc (pd_op od_add (pd_fld (pd_var (i := 0) rfl (.inr (.inl rfl))) T.cl0 T.n0_size) (pd_fld (pd_var (i := 1) rfl (.inl rfl)) T.cl0 T.n0_size)) (pda_esc (pd_op od_add (pd_callTy cd_list rfl T.z_list PyProof.Rows.boot_list (pda_cons (pd_fld (pd_var (i := 0) rfl (.inr (.inl rfl))) T.cl0 T.n0_jobs) pda_nil)) (pd_var (i := 2) rfl (.inl rfl))) pda_nil))))))))
theorem sc_Jobs_UmulU : FnScope ["self", "count"] ["self", "count"] (defScope s20) := ⟨rfl, rfl, rfl, by decide +kernel, rfl, by decide +kernel, by decide +kernel⟩
theorem ok_Jobs_UmulU (T : Txt K mg a b fd) : FnG P w K mg base (L2.CX P w) 6 (b 20) (fd 20) ["self", "count"] (spD K [false, false] (m_Jobs_UmulU a)) :=
  fn_ok T.F20 sc_Jobs_UmulU [false, false] rfl fun cdv A outer s H E hr hgd tk hp => (show PDB _ _ (defBody s20) (g_Jobs_UmulU a) from
    (pds_cons (pds_if (pdt_cmp od_gt (pd_op od_mul (pd_callB cd_len rfl T.z_len PySem.boot_len (pda_cons (pd_fld (pd_var (i := 0) rfl (.inl rfl)) T.cl0 T.n0_jobs) pda_nil)) (pd_var (i := 1) rfl (.inl rfl))) (pd_globI rfl T.gi_MOST_JOBS.choose_spec.1 T.gi_MOST_JOBS.choose_spec.2) (nomark _)) (pds_one (pds_raise (by decide) rfl tk T.x22.oex T.xi22 T.xt22 (ini_TooMany T) (hr.mono (by decide)) T.b17 rfl T.mgC22 (pdl_cons (pd_globI rfl T.gi_MOST_JOBS.choose_spec.1 T.gi_MOST_JOBS.choose_spec.2) pdl_nil))) pds_nil)
    (pds_one (pds_ret (pd_make T.mk0 (ok_Jobs_UinitU T) (hr.mono (by decide)) hgd rfl T.mgC0 T.b7 (passAt tk) (pda_esc (pd_fld (pd_var (i := 0) rfl (.inl rfl)) T.cl0 T.n0_size) (pda_esc (pd_op od_mul (pd_fld (pd_var (i := 0) rfl (.inl rfl)) T.cl0 T.n0_jobs) (pd_var (i := 1) rfl (.inl rfl))) pda_nil)))))))
theorem sc_Jobs_UrmulU : FnScope ["self", "count"] ["self", "count"] (defScope s21) := ⟨rfl, rfl, rfl, by decide +kernel, rfl, by decide +kernel, by decide +kernel⟩
theorem ok_Jobs_UrmulU (T : Txt K mg a b fd) : FnG P w K mg base (L2.CX P w) 6 (b 21) (fd 21) ["self", "count"] (spD K [false, false] (m_Jobs_UrmulU a)) :=
  fn_ok T.F21 sc_Jobs_UrmulU [false, false] rfl fun cdv A outer s H E hr hgd tk hp => (show PDB _ _ (defBody s21) (g_Jobs_UrmulU a) from
    (pds_cons (pds_if (pdt_cmp od_gt (pd_op od_mul (pd_callB cd_len rfl T.z_len PySem.boot_len (pda_cons (pd_fld (pd_var (i := 0) rfl (.inl rfl)) T.cl0 T.n0_jobs) pda_nil)) (pd_var (i := 1) rfl (.inl rfl))) (pd_globI rfl T.gi_MOST_JOBS.choose_spec.1 T.gi_MOST_JOBS.choose_spec.2) (nomark _)) (pds_one (pds_raise (by decide) rfl tk T.x22.oex T.xi22 T.xt22 (ini_TooMany T) (hr.mono (by decide)) T.b17 rfl T.mgC22 (pdl_cons (pd_globI rfl T.gi_MOST_JOBS.choose_spec.1 T.gi_MOST_JOBS.choose_spec.2) pdl_nil))) pds_nil)
    (pds_one (pds_ret (pd_make T.mk0 (ok_Jobs_UinitU T) (hr.mono (by decide)) hgd rfl T.mgC0 T.b7 (passAt tk) (pda_esc (pd_fld (pd_var (i := 0) rfl (.inl rfl)) T.cl0 T.n0_size) (pda_esc (pd_op od_mul (pd_fld (pd_var (i := 0) rfl (.inl rfl)) T.cl0 T.n0_jobs) (pd_var (i := 1) rfl (.inl rfl))) pda_nil)))))))
theorem sc_law_told_3 : FnScope ["_law_way", "_law_one_here", "_law_other", "_law_jobs_here", "e", "_law_kinds"] ["_law_way", "_law_one_here", "_law_other"] (defScope s14) := ⟨rfl, rfl, rfl, by decide +kernel, rfl, by decide +kernel, by decide +kernel⟩
theorem ok_law_told_3 (T : Txt K mg a b fd) : FnG P w K mg base (L2.CX P w) 7 (b 14) (fd 14) ["_law_way", "_law_one_here", "_law_other"] (spD K [false, false, false] (m_law_told_3 a)) :=
  fn_ok T.F14 sc_law_told_3 [false, false, false] rfl fun cdv A outer s H E hr hgd tk hp => (show PDB _ _ (defBody s14) (g_law_told_3 a) from
    (pds_cons (pds_try rfl rfl rfl sc_law_told_3.nd rfl rfl ⟨rfl, by decide, .inl T.mgC20⟩ tk (xT_ok T.xk) (fun W pn xe tk hp => (pds_one (pds_if (pdt_cmp (od_eq hr.units) (pd_var (i := 0) rfl (.inl rfl)) pd_int (nomark _)) (pds_one (pds_set (i := 3) sc_law_told_3.nd rfl (.inl rfl) (pd_binL (op := .Add) T.bi0_add T.bt0_add_int T.bt0_add_tuple (ok_Jobs_UaddU T) (hr.mono (by decide)) hgd T.b15 (passAt tk) (pd_var (i := 1) rfl (.inl rfl)) (pd_var (i := 2) rfl (.inl rfl))))) (pds_one (pds_if (pdt_cmp (od_eq hr.units) (pd_var (i := 0) rfl (.inl rfl)) pd_int (nomark _)) (pds_one (pds_set (i := 3) sc_law_told_3.nd rfl (.inl rfl) (pd_binL (op := .BitOr) T.bi0_or T.bt0_or_int T.bt0_or_tuple (ok_Jobs_UorU T) (hr.mono (by decide)) hgd T.b18 (passAt tk) (pd_var (i := 1) rfl (.inl rfl)) (pd_var (i := 2) rfl (.inl rfl))))) (pds_one (pds_set (i := 3) sc_law_told_3.nd rfl (.inl rfl) (pd_binM T.bi0_mul T.bt0_mul_int T.bt0_mul_tuple T.br0_mul (ok_Jobs_UmulU T) (hr.mono (by decide)) hgd T.b20 (ok_Jobs_UrmulU T) (hr.mono (by decide)) T.b21 (passAt tk) (pd_var (i := 1) rfl (.inl rfl)) (pd_var (i := 2) rfl (.inl rfl)))))))))) (fun _ _ => (pds_cons (pds_set (i := 5) sc_law_told_3.nd rfl (.inl rfl) (pd_lst (pdl_cons (pd_callB (cd_isX T.xk) rfl T.z_isinstance PyProof.Rows.boot_isinstance (pda_cons (pd_var (i := 4) rfl (.inl rfl)) (pda_cons (pd_globR rfl T.mgC23 rfl) pda_nil))) (pdl_cons (pd_callB (cd_isX T.xk) rfl T.z_isinstance PyProof.Rows.boot_isinstance (pda_cons (pd_var (i := 4) rfl (.inl rfl)) (pda_cons (pd_globR rfl T.mgC22 rfl) pda_nil))) (pdl_cons (pd_callB (cd_isX T.xk) rfl T.z_isinstance PyProof.Rows.boot_isinstance (pda_cons (pd_var (i := 4) rfl (.inl rfl)) (pda_cons (pd_globR rfl T.mgC21 rfl) pda_nil))) (pdl_cons (pd_callB (cd_isX T.xk) rfl T.z_isinstance PyProof.Rows.boot_isinstance (pda_cons (pd_var (i := 4) rfl (.inl rfl)) (pda_cons (pd_globR rfl T.mgC24 rfl) pda_nil))) pdl_nil))))))
    (pds_cons (pds_if (pdt_cmp (od_ne hr.units) (pd_countB (pd_var (i := 5) rfl (.inl rfl))) pd_int (nomark _)) (pds_one (pds_ret (pd_tup (pdl_cons pd_str (pdl_cons pd_int pdl_nil))))) pds_nil)
    (pds_cons (pds_if (pdt_val (pd_ix (id_ixD (by have h := hu1 hr; exact h)) (pd_var (i := 5) rfl (.inl rfl)) pd_int (fun _ _ => rfl))) (pds_one (pds_ret (pd_tup (pdl_cons pd_str (pdl_cons (pd_xf T.xk T.xn_limit (pd_var (i := 4) rfl (.inl rfl))) pdl_nil))))) pds_nil)
    (pds_one (pds_ret (pd_if (pdt_val (pd_ix (id_ixD (by have h := hu1 hr; exact h)) (pd_var (i := 5) rfl (.inl rfl)) pd_int (fun _ _ => rfl))) (pd_tup (pdl_cons pd_str (pdl_cons pd_int pdl_nil))) (pd_tup (pdl_cons pd_str (pdl_cons pd_int pdl_nil)))))))))))
    (pds_one (pds_ret (pd_tup (pdl_cons pd_str (pdl_cons (pd_fld (pd_var (i := 3) rfl (.inl rfl)) T.cl0 T.n0_size) (pdl_cons (pd_fld (pd_var (i := 3) rfl (.inl rfl)) T.cl0 T.n0_jobs) pdl_nil))))))))
theorem sc_law_sum : FnScope ["_law_size", "_law_rows", "_law_wide", "_law_others"] ["_law_size", "_law_rows", "_law_wide", "_law_others"] (defScope s22) := ⟨rfl, rfl, rfl, by decide +kernel, rfl, by decide +kernel, by decide +kernel⟩
theorem ok_law_sum (T : Txt K mg a b fd) : FnG P w K mg base (L2.CX P w) 1 (b 22) (fd 22) ["_law_size", "_law_rows", "_law_wide", "_law_others"] (spD K [false, false, false, false] (m_law_sum a)) :=
  fn_ok T.F22 sc_law_sum [false, false, false, false] rfl fun cdv A outer s H E hr hgd tk hp => (show PDB _ _ (defBody s22) (g_law_sum a) from
    (pds_cons (pds_if (pdt_cmp (od_ne hr.units) (pd_var (i := 0) rfl (.inl rfl)) (pd_var (i := 2) rfl (.inl rfl)) (nomark _)) (pds_one (pds_ret (pd_tup (pdl_cons pd_str (pdl_cons pd_int pdl_nil))))) pds_nil)
    (pds_cons (pds_if (pdt_cmp od_gt (pd_op od_add (pd_callB cd_len rfl T.z_len PySem.boot_len (pda_cons (pd_var (i := 1) rfl (.inl rfl)) pda_nil)) (pd_callB cd_len rfl T.z_len PySem.boot_len (pda_cons (pd_var (i := 3) rfl (.inl rfl)) pda_nil))) pd_int (nomark _)) (pds_one (pds_ret (pd_tup (pdl_cons pd_str (pdl_cons pd_int pdl_nil))))) pds_nil)
    (pds_one (pds_ret (pd_tup (pdl_cons pd_str (pdl_cons (pd_var (i := 0) rfl (.inl rfl)) (pdl_cons (pd_callTy cd_tuple rfl T.z_tuple PyProof.Rows.boot_tuple (pda_cons (pd_op od_add (pd_var (i := 1) rfl (.inl rfl)) (pd_var (i := 3) rfl (.inl rfl))) pda_nil)) pdl_nil)))))))))
theorem sc_law_alike : FnScope ["_law_found", "_law_due"] ["_law_found", "_law_due"] (defScope s23) := ⟨rfl, rfl, rfl, by decide +kernel, rfl, by decide +kernel, by decide +kernel⟩
theorem ok_law_alike (T : Txt K mg a b fd) : FnG P w K mg base (L2.CX P w) 1 (b 23) (fd 23) ["_law_found", "_law_due"] (spD K [false, false] (m_law_alike a)) :=
  fn_ok T.F23 sc_law_alike [false, false] rfl fun cdv A outer s H E hr hgd tk hp => (show PDB _ _ (defBody s23) (g_law_alike a) from
    (pds_one (pds_ret (pd_and (pd_cmp (od_eq hr.units) (pd_var (i := 0) rfl (.inl rfl)) (pd_var (i := 1) rfl (.inl rfl)) (nomark _)) (pd_one (pd_cmp (od_eq hr.units) (pd_callB (cd_repr hgd (units66 hr)) rfl T.z_repr PyProof.Rows.boot_repr (pda_cons (pd_var (i := 0) rfl (.inl rfl)) pda_nil)) (pd_callB (cd_repr hgd (units66 hr)) rfl T.z_repr PyProof.Rows.boot_repr (pda_cons (pd_var (i := 1) rfl (.inl rfl)) pda_nil)) (nomark _)))))))
theorem sc_law_beside : FnScope ["_law_size", "_law_rows", "_law_wide", "_law_others", "_law_behind", "_law_job_here", "_law_p"] ["_law_size", "_law_rows", "_law_wide", "_law_others"] (defScope s24) := ⟨rfl, rfl, rfl, by decide +kernel, rfl, by decide +kernel, by decide +kernel⟩
theorem bk_law_beside_0 : BlkOk ["_law_size", "_law_rows", "_law_wide", "_law_others", "_law_behind", "_law_job_here", "_law_p"] { kind := .function, names := [("_law_size", .cell), ("_law_rows", .local), ("_law_wide", .local), ("_law_others", .local), ("_law_behind", .local), ("len", .globalImplicit), ("tuple", .globalImplicit)], isGenerator := false, isCoroutine := false, more := [("fast", .str "_law_size"), ("fast", .str "_law_rows"), ("fast", .str "_law_wide"), ("fast", .str "_law_others"), ("fast", .str "_law_job_here"), ("fast", .str "_law_p"), ("fast", .str "_law_behind")] : Scope } { kind := .function, names := [(".0", .local), ("_law_job_here", .local), ("tuple", .globalImplicit), ("_law_size", .free)], isGenerator := false, isCoroutine := false, more := [] : Scope } [("_law_job_here", 5)] := ⟨rfl, by decide +kernel, by decide +kernel, by decide +kernel, by decide +kernel⟩
theorem bk_law_beside_1 : BlkOk ["_law_size", "_law_rows", "_law_wide", "_law_others", "_law_behind", "_law_job_here", "_law_p"] { kind := .function, names := [(".0", .local), ("_law_job_here", .local), ("tuple", .globalImplicit), ("_law_size", .cell)], isGenerator := false, isCoroutine := false, more := [] : Scope } { kind := .function, names := [(".0", .local), ("_law_p", .local), ("_law_size", .free)], isGenerator := false, isCoroutine := false, more := [] : Scope } [("_law_p", 6)] := ⟨rfl, by decide +kernel, by decide +kernel, by decide +kernel, by decide +kernel⟩
theorem ok_law_beside (T : Txt K mg a b fd) : FnG P w K mg base (L2.CX P w) 1 (b 24) (fd 24) ["_law_size", "_law_rows", "_law_wide", "_law_others"] (spD K [false, false, false, false] (m_law_beside a)) :=
  fn_ok T.F24 sc_law_beside [false, false, false, false] rfl fun cdv A outer s H E hr hgd tk hp => (show PDB _ _ (defBody s24) (g_law_beside a) from
    (pds_cons (pds_if (pdt_w (pdw_or (pdt_cmp od_gt (pd_op od_add (pd_var (i := 0) rfl (.inr (.inl rfl))) (pd_var (i := 2) rfl (.inl rfl))) pd_int (nomark _)) (pdw_or1 (pdt_cmp od_gt (pd_op od_add (pd_callB cd_len rfl T.z_len PySem.boot_len (pda_cons (pd_var (i := 1) rfl (.inl rfl)) pda_nil)) (pd_callB cd_len rfl T.z_len PySem.boot_len (pda_cons (pd_var (i := 3) rfl (.inl rfl)) pda_nil))) pd_int (nomark _))))) (pds_one (pds_ret (pd_tup (pdl_cons pd_str (pdl_cons pd_int pdl_nil))))) pds_nil)
    (pds_cons (pds_setLcV (i := 4) rfl sc_law_beside.nd rfl rfl rfl (pdi_seq (pd_var (i := 3) rfl (.inl rfl))) bk_law_beside_0 rfl (fun _ _ _ _ _ => (pdg_name (i := 5) sc_law_beside.nd rfl (.inl rfl) (.inr rfl))) (fun _ _ _ _ _ => pdts_nil) (fun _ _ _ _ _ => (pd_callTy cd_tuple rfl T.z_tuple PyProof.Rows.boot_tuple (pda_cons (pd_lcV rfl sc_law_beside.nd (pdi_seq (pd_var (i := 5) rfl (.inl rfl))) bk_law_beside_1 rfl (fun _ _ _ _ _ => (pdg_name (i := 6) sc_law_beside.nd rfl (.inl rfl) (.inr rfl))) (fun _ _ _ _ _ => pdts_nil) (fun _ _ _ _ _ => (pd_op od_add (pd_var (i := 6) rfl (.inl rfl)) (pd_var (i := 0) rfl (.inr (.inl rfl))))) (by decide)) pda_nil))) (by decide))
    (pds_one (pds_ret (pd_tup (pdl_cons pd_str (pdl_cons (pd_op od_add (pd_var (i := 0) rfl (.inr (.inl rfl))) (pd_var (i := 2) rfl (.inl rfl))) (pdl_cons (pd_callTy cd_tuple rfl T.z_tuple PyProof.Rows.boot_tuple (pda_cons (pd_op od_add (pd_var (i := 1) rfl (.inl rfl)) (pd_var (i := 4) rfl (.inl rfl))) pda_nil)) pdl_nil)))))))))
theorem sc_law_repeated : FnScope ["_law_size", "_law_rows", "_law_count"] ["_law_size", "_law_rows", "_law_count"] (defScope s25) := ⟨rfl, rfl, rfl, by decide +kernel, rfl, by decide +kernel, by decide +kernel⟩
theorem ok_law_repeated (T : Txt K mg a b fd) : FnG P w K mg base (L2.CX P w) 1 (b 25) (fd 25) ["_law_size", "_law_rows", "_law_count"] (spD K [false, false, false] (m_law_repeated a)) :=
  fn_ok T.F25 sc_law_repeated [false, false, false] rfl fun cdv A outer s H E hr hgd tk hp => (show PDB _ _ (defBody s25) (g_law_repeated a) from
    (pds_cons (pds_if (pdt_cmp od_gt (pd_op od_mul (pd_callB cd_len rfl T.z_len PySem.boot_len (pda_cons (pd_var (i := 1) rfl (.inl rfl)) pda_nil)) (pd_var (i := 2) rfl (.inl rfl))) pd_int (nomark _)) (pds_one (pds_ret (pd_tup (pdl_cons pd_str (pdl_cons pd_int pdl_nil))))) pds_nil)
    (pds_one (pds_ret (pd_tup (pdl_cons pd_str (pdl_cons (pd_var (i := 0) rfl (.inl rfl)) (pdl_cons (pd_callTy cd_tuple rfl T.z_tuple PyProof.Rows.boot_tuple (pda_cons (pd_op od_mul (pd_var (i := 1) rfl (.inl rfl)) (pd_callB (cd_min2 rfl) rfl T.z_min PyProof.Rows.boot_min (pda_cons (pd_var (i := 2) rfl (.inl rfl)) (pda_cons pd_int pda_nil)))) pda_nil)) pdl_nil))))))))
theorem sc_lawK17 : FnScope ["_law_script", "_law_bag_here", "_law_step", "_law_size", "_law_most", "_law_wide", "_law_rows", "_law_others", "_law_one_here", "_law_other", "_law_again", "_law_found", "_law_due", "_law_count"] ["_law_script"] (defScope s0) := ⟨rfl, rfl, rfl, by decide +kernel, rfl, by decide +kernel, by decide +kernel⟩
theorem ok_lawK17 (T : Txt K mg a b fd) : FnG P w K mg base (L2.CX P w) 8 (b 0) (fd 0) ["_law_script"] (spD K [false] (m_lawK17 a)) :=
  fn_ok T.F0 sc_lawK17 [false] rfl fun cdv A outer s H E hr hgd tk hp => (show PDB _ _ (defBody s0) (g_lawK17 a) from
    (pds_cons (pds_set (i := 1) sc_lawK17.nd rfl (.inl rfl) (pd_call (ok_law_bag T) (hr.mono (by decide)) hgd rfl T.m1 T.k1 T.b1 (passAt tk) (pda_esc (pd_var (i := 0) rfl (.inl rfl)) pda_nil)))
    (pds_cons (pds_for hp rfl (pdi_pre (pdi_range1 rfl T.z_range (pda_cons pd_int pda_nil))) (pdg_name (i := 2) sc_lawK17.nd rfl (.inl rfl) (.inr rfl)) (pdb_frz (pdb_fgt (pds_cons (pds_par2 (i := 3) (j := 4) rfl sc_lawK17.nd rfl rfl (by decide) rfl rfl (pd_call (ok_law_take T) (hr.mono (by decide)) hgd rfl T.m2 T.k2 T.b2 (passAt tk) (pda_keep (pd_var (i := 1) rfl (.inl rfl)) (pda_esc pd_int pda_nil))) (pd_call (ok_law_one T) (hr.mono (by decide)) hgd rfl T.m3 T.k3 T.b3 (passAt tk) (pda_keep (pd_var (i := 1) rfl (.inl rfl)) (pda_esc (pd_lst (pdl_cons pd_int (pdl_cons pd_int (pdl_cons pd_int (pdl_cons pd_int (pdl_cons pd_int pdl_nil)))))) pda_nil))) rfl)
    (pds_cons (pds_set (i := 5) sc_lawK17.nd rfl (.inl rfl) (pd_var (i := 3) rfl (.inl rfl)))
    (pds_cons (pds_if (pdt_cmp (od_eq hr.units) (pd_call (ok_law_take T) (hr.mono (by decide)) hgd rfl T.m2 T.k2 T.b2 (passAt tk) (pda_keep (pd_var (i := 1) rfl (.inl rfl)) (pda_esc pd_int pda_nil))) pd_int (nomark _)) (pds_one (pds_set (i := 5) sc_lawK17.nd rfl (.inl rfl) (pd_call (ok_law_take T) (hr.mono (by decide)) hgd rfl T.m2 T.k2 T.b2 (passAt tk) (pda_keep (pd_var (i := 1) rfl (.inl rfl)) (pda_esc pd_int pda_nil))))) pds_nil)
    (pds_cons (pds_par2 (i := 6) (j := 7) rfl sc_lawK17.nd rfl rfl (by decide) rfl rfl (pd_call (ok_law_jobs T) (hr.mono (by decide)) hgd rfl T.m4 T.k4 T.b4 (passAt tk) (pda_keep (pd_var (i := 1) rfl (.inl rfl)) (pda_esc (pd_var (i := 3) rfl (.inl rfl)) (pda_esc (pd_var (i := 4) rfl (.inl rfl)) pda_nil)))) (pd_call (ok_law_jobs T) (hr.mono (by decide)) hgd rfl T.m4 T.k4 T.b4 (passAt tk) (pda_keep (pd_var (i := 1) rfl (.inl rfl)) (pda_esc (pd_var (i := 5) rfl (.inl rfl)) (pda_esc (pd_call (ok_law_one T) (hr.mono (by decide)) hgd rfl T.m3 T.k3 T.b3 (passAt tk) (pda_keep (pd_var (i := 1) rfl (.inl rfl)) (pda_esc (pd_lst (pdl_cons pd_int (pdl_cons pd_int (pdl_cons pd_int (pdl_cons pd_int pdl_nil))))) pda_nil))) pda_nil)))) rfl)
    (pds_cons (pds_par2 (i := 8) (j := 9) rfl sc_lawK17.nd rfl rfl (by decide) rfl rfl (pd_make T.mk0 (ok_Jobs_UinitU T) (hr.mono (by decide)) hgd rfl T.mgC0 T.b7 (passAt tk) (pda_esc (pd_var (i := 3) rfl (.inl rfl)) (pda_esc (pd_callTy cd_list rfl T.z_list PyProof.Rows.boot_list (pda_cons (pd_var (i := 6) rfl (.inl rfl)) pda_nil)) pda_nil))) (pd_make T.mk0 (ok_Jobs_UinitU T) (hr.mono (by decide)) hgd rfl T.mgC0 T.b7 (passAt tk) (pda_esc (pd_var (i := 5) rfl (.inl rfl)) (pda_esc (pd_callTy cd_list rfl T.z_list PyProof.Rows.boot_list (pda_cons (pd_var (i := 7) rfl (.inl rfl)) pda_nil)) pda_nil))) rfl)
    (pds_one (pds_for hp rfl (pdi_pre (pdi_range1 rfl T.z_range (pda_cons pd_int pda_nil))) (pdg_name (i := 10) sc_lawK17.nd rfl (.inl rfl) (.inr rfl)) (pdb_frz (pdb_fgt (pds_cons (pds_set (i := 11) sc_lawK17.nd rfl (.inl rfl) (pd_lst (pdl_cons (pd_call (ok_law_told_3 T) (hr.mono (by decide)) hgd rfl T.m14 T.k14 T.b14 (passAt tk) (pda_esc pd_int (pda_esc (pd_var (i := 8) rfl (.inl rfl)) (pda_esc (pd_var (i := 9) rfl (.inl rfl)) pda_nil)))) (pdl_cons (pd_call (ok_law_told_3 T) (hr.mono (by decide)) hgd rfl T.m14 T.k14 T.b14 (passAt tk) (pda_esc pd_int (pda_esc (pd_var (i := 9) rfl (.inl rfl)) (pda_esc (pd_var (i := 8) rfl (.inl rfl)) pda_nil)))) pdl_nil))))
    (pds_cons (pds_set (i := 12) sc_lawK17.nd rfl (.inl rfl) (pd_lst (pdl_cons (pd_call (ok_law_sum T) (hr.mono (by decide)) hgd rfl T.m22 T.k22 T.b22 (passAt tk) (pda_esc (pd_var (i := 3) rfl (.inl rfl)) (pda_esc (pd_var (i := 6) rfl (.inl rfl)) (pda_esc (pd_var (i := 5) rfl (.inl rfl)) (pda_esc (pd_var (i := 7) rfl (.inl rfl)) pda_nil))))) (pdl_cons (pd_call (ok_law_sum T) (hr.mono (by decide)) hgd rfl T.m22 T.k22 T.b22 (passAt tk) (pda_esc (pd_var (i := 5) rfl (.inl rfl)) (pda_esc (pd_var (i := 7) rfl (.inl rfl)) (pda_esc (pd_var (i := 3) rfl (.inl rfl)) (pda_esc (pd_var (i := 6) rfl (.inl rfl)) pda_nil))))) pdl_nil))))
    (pds_cons (pds_if (pdt_not (pdt_val (pd_call (ok_law_alike T) (hr.mono (by decide)) hgd rfl T.m23 T.k23 T.b23 (passAt tk) (pda_esc (pd_var (i := 11) rfl (.inl rfl)) (pda_esc (pd_var (i := 12) rfl (.inl rfl)) pda_nil))))) (pds_one (pds_ret pd_bl)) pds_nil)
    (pds_cons (pds_set (i := 11) sc_lawK17.nd rfl (.inl rfl) (pd_lst (pdl_cons (pd_call (ok_law_told_3 T) (hr.mono (by decide)) hgd rfl T.m14 T.k14 T.b14 (passAt tk) (pda_esc pd_int (pda_esc (pd_var (i := 8) rfl (.inl rfl)) (pda_esc (pd_var (i := 9) rfl (.inl rfl)) pda_nil)))) (pdl_cons (pd_call (ok_law_told_3 T) (hr.mono (by decide)) hgd rfl T.m14 T.k14 T.b14 (passAt tk) (pda_esc pd_int (pda_esc (pd_var (i := 9) rfl (.inl rfl)) (pda_esc (pd_var (i := 8) rfl (.inl rfl)) pda_nil)))) pdl_nil))))
    (pds_cons (pds_set (i := 12) sc_lawK17.nd rfl (.inl rfl) (pd_lst (pdl_cons (pd_call (ok_law_beside T) (hr.mono (by decide)) hgd rfl T.m24 T.k24 T.b24 (passAt tk) (pda_esc (pd_var (i := 3) rfl (.inl rfl)) (pda_esc (pd_var (i := 6) rfl (.inl rfl)) (pda_esc (pd_var (i := 5) rfl (.inl rfl)) (pda_esc (pd_var (i := 7) rfl (.inl rfl)) pda_nil))))) (pdl_cons (pd_call (ok_law_beside T) (hr.mono (by decide)) hgd rfl T.m24 T.k24 T.b24 (passAt tk) (pda_esc (pd_var (i := 5) rfl (.inl rfl)) (pda_esc (pd_var (i := 7) rfl (.inl rfl)) (pda_esc (pd_var (i := 3) rfl (.inl rfl)) (pda_esc (pd_var (i := 6) rfl (.inl rfl)) pda_nil))))) pdl_nil))))
    (pds_cons (pds_if (pdt_not (pdt_val (pd_call (ok_law_alike T) (hr.mono (by decide)) hgd rfl T.m23 T.k23 T.b23 (passAt tk) (pda_esc (pd_var (i := 11) rfl (.inl rfl)) (pda_esc (pd_var (i := 12) rfl (.inl rfl)) pda_nil))))) (pds_one (pds_ret pd_bl)) pds_nil)
    (pds_cons (pds_set (i := 13) sc_lawK17.nd rfl (.inl rfl) (pd_call (ok_law_one T) (hr.mono (by decide)) hgd rfl T.m3 T.k3 T.b3 (passAt tk) (pda_keep (pd_var (i := 1) rfl (.inl rfl)) (pda_esc (pd_lst (pdl_cons pd_int (pdl_cons pd_int (pdl_cons pd_int (pdl_cons pd_int (pdl_cons pd_int (pdl_cons pd_int (pdl_cons pd_int (pdl_cons pd_int (pdl_cons (pd_call (ok_law_take T) (hr.mono (by decide)) hgd rfl T.m2 T.k2 T.b2 (passAt tk) (pda_keep (pd_var (i := 1) rfl (.inl rfl)) (pda_esc pd_int pda_nil))) pdl_nil)))))))))) pda_nil))))
    (pds_cons (pds_set (i := 11) sc_lawK17.nd rfl (.inl rfl) (pd_lst (pdl_cons (pd_call (ok_law_told_3 T) (hr.mono (by decide)) hgd rfl T.m14 T.k14 T.b14 (passAt tk) (pda_esc pd_int (pda_esc (pd_var (i := 8) rfl (.inl rfl)) (pda_esc (pd_var (i := 13) rfl (.inl rfl)) pda_nil)))) (pdl_cons (pd_call (ok_law_told_3 T) (hr.mono (by decide)) hgd rfl T.m14 T.k14 T.b14 (passAt tk) (pda_esc pd_int (pda_esc (pd_var (i := 13) rfl (.inl rfl)) (pda_esc (pd_var (i := 8) rfl (.inl rfl)) pda_nil)))) pdl_nil))))
    (pds_cons (pds_if (pdt_not (pdt_val (pd_call (ok_law_alike T) (hr.mono (by decide)) hgd rfl T.m23 T.k23 T.b23 (passAt tk) (pda_esc (pd_var (i := 11) rfl (.inl rfl)) (pda_esc (pd_op od_mul (pd_lst (pdl_cons (pd_call (ok_law_repeated T) (hr.mono (by decide)) hgd rfl T.m25 T.k25 T.b25 (passAt tk) (pda_esc (pd_var (i := 3) rfl (.inl rfl)) (pda_esc (pd_var (i := 6) rfl (.inl rfl)) (pda_esc (pd_var (i := 13) rfl (.inl rfl)) pda_nil)))) pdl_nil)) pd_int) pda_nil))))) (pds_one (pds_ret pd_bl)) pds_nil)
    (pds_cons (pds_par2 (i := 11) (j := 12) rfl sc_lawK17.nd rfl rfl (by decide) rfl rfl (pd_lst (pdl_cons (pd_call (ok_law_told_3 T) (hr.mono (by decide)) hgd rfl T.m14 T.k14 T.b14 (passAt tk) (pda_esc pd_int (pda_esc (pd_var (i := 8) rfl (.inl rfl)) (pda_esc (pd_var (i := 8) rfl (.inl rfl)) pda_nil)))) (pdl_cons (pd_call (ok_law_told_3 T) (hr.mono (by decide)) hgd rfl T.m14 T.k14 T.b14 (passAt tk) (pda_esc pd_int (pda_esc (pd_var (i := 8) rfl (.inl rfl)) (pda_esc (pd_var (i := 8) rfl (.inl rfl)) pda_nil)))) pdl_nil))) (pd_lst (pdl_cons (pd_call (ok_law_sum T) (hr.mono (by decide)) hgd rfl T.m22 T.k22 T.b22 (passAt tk) (pda_esc (pd_var (i := 3) rfl (.inl rfl)) (pda_esc (pd_var (i := 6) rfl (.inl rfl)) (pda_esc (pd_var (i := 3) rfl (.inl rfl)) (pda_esc (pd_var (i := 6) rfl (.inl rfl)) pda_nil))))) pdl_nil)) rfl)
    (pds_cons (pds_if (pdt_not (pdt_val (pd_call (ok_law_alike T) (hr.mono (by decide)) hgd rfl T.m23 T.k23 T.b23 (passAt tk) (pda_esc (pd_var (i := 11) rfl (.inl rfl)) (pda_esc (pd_op od_add (pd_var (i := 12) rfl (.inl rfl)) (pd_lst (pdl_cons (pd_call (ok_law_beside T) (hr.mono (by decide)) hgd rfl T.m24 T.k24 T.b24 (passAt tk) (pda_esc (pd_var (i := 3) rfl (.inl rfl)) (pda_esc (pd_var (i := 6) rfl (.inl rfl)) (pda_esc (pd_var (i := 3) rfl (.inl rfl)) (pda_esc (pd_var (i := 6) rfl (.inl rfl)) pda_nil))))) pdl_nil))) pda_nil))))) (pds_one (pds_ret pd_bl)) pds_nil)
    (pds_one (pds_if (pdt_not (pdt_val (pd_call (ok_law_alike T) (hr.mono (by decide)) hgd rfl T.m23 T.k23 T.b23 (passAt tk) (pda_esc (pd_tup (pdl_cons (pd_fld (pd_var (i := 8) rfl (.inl rfl)) T.cl0 T.n0_size) (pdl_cons (pd_fld (pd_var (i := 8) rfl (.inl rfl)) T.cl0 T.n0_jobs) (pdl_cons (pd_fld (pd_var (i := 9) rfl (.inl rfl)) T.cl0 T.n0_size) (pdl_cons (pd_fld (pd_var (i := 9) rfl (.inl rfl)) T.cl0 T.n0_jobs) pdl_nil))))) (pda_esc (pd_tup (pdl_cons (pd_var (i := 3) rfl (.inl rfl)) (pdl_cons (pd_callTy cd_tuple rfl T.z_tuple PyProof.Rows.boot_tuple (pda_cons (pd_var (i := 6) rfl (.inl rfl)) pda_nil)) (pdl_cons (pd_var (i := 5) rfl (.inl rfl)) (pdl_cons (pd_callTy cd_tuple rfl T.z_tuple PyProof.Rows.boot_tuple (pda_cons (pd_var (i := 7) rfl (.inl rfl)) pda_nil)) pdl_nil))))) pda_nil))))) (pds_one (pds_ret pd_bl)) pds_nil)))))))))))))))))))))))))
    (pds_one (pds_ret pd_bl)))))
end
end K17

namespace Cw
open PySem L2
theorem dIxD_lst (xs : List D) (y : D) : dIxD (.lst xs) y = dIx (.lst xs) y := rfl
theorem dIxD_tup (xs : List D) (y : D) : dIxD (.tup xs) y = dIx (.tup xs) y := rfl
theorem dInD_lst (n : Bool) (x : D) (xs : List D) : dInD n x (.lst xs) = dIn n x (.lst xs) := rfl
theorem dInD_tup (n : Bool) (x : D) (xs : List D) : dInD n x (.tup xs) = dIn n x (.tup xs) := rfl
theorem iZipD_eq (fs : M (List D)) (e : En) : iZipD fs e = match fs e with
    | .ok ds e1 => (match ds with
      | [.lst xs, .lst ys] => M.ret (zipD xs ys)
      | [.tup xs, .tup ys] => M.ret (zipD xs ys)
      | _ => M.bad) e1
    | .exc x e1 => .exc x e1
    | .bad => .bad := by
  unfold iZipD
  rw [bind_eq]
  cases fs e <;> rfl
theorem eLc2_eq (e : En) (vs vs1 : List Nat) (f : M (List D)) (a : G) (tt : M Bool) (f1 : M (List D)) (a1 : G) (tt1 : M Bool) (te : M RV) : eLc2 vs vs1 f a tt f1 a1 tt1 te e = match f e with
    | .ok ds e1 => (match M.wipe vs e1 with
      | .ok _ e2 => (match lc2L vs vs1 a tt f1 a1 tt1 te ds e2 with
        | .ok ys e3 => if ys.length ≤ sizeLine then .ok (.fr (.lst ys)) e3 else .bad
        | .exc x e3 => .exc x e3
        | .bad => .bad)
      | .exc x e2 => .exc x e2
      | .bad => .bad)
    | .exc x e1 => .exc x e1
    | .bad => .bad := by
  unfold eLc2 M.bind
  cases f e with
  | ok ds e1 =>
    simp only
    cases M.wipe vs e1 with
    | ok u e2 =>
      simp only
      cases lc2L vs vs1 a tt f1 a1 tt1 te ds e2 with
      | ok ys e3 =>
        simp only
        split <;> rfl
      | _ => rfl
    | _ => rfl
  | _ => rfl
theorem eMutG_eq (e : En) (i : Nat) (dop : List D → List D → Option (D × List D)) (fs : M (List D)) : eMutG i dop fs e = match (M.bind (eVar i) M.get) e with
    | .ok (.lst _) e0 => (match fs e0 with
      | .ok ds e1 => (match getE e1 i with
        | some (.sh, _) => .bad
        | some (f, .lst xs) => (match dop xs ds with
          | some (r, ys) => .ok (.sh r) (e1.set i (some (f, .lst ys)))
          | none => .bad)
        | _ => .bad)
      | .exc x e1 => .exc x e1
      | .bad => .bad)
    | .ok _ _ => .bad
    | .exc x e1 => .exc x e1
    | .bad => .bad := by
  unfold eMutG eVar
  rw [bind_eq, bind_eq]
  cases getE e i with
  | none => rfl
  | some v =>
    simp only
    rw [bind_eq]
    cases M.get (.sl i) e with
    | ok d e1 =>
      cases d with
      | lst ds =>
        simp only
        rw [bind_eq]
        cases fs e1 <;> rfl
      | _ => rfl
    | _ => rfl
variable (a : Nat → Addr)
theorem is_integer_int (i : Int) : m_is_integer a [.int i] = .ok (false, .bl true) [] := by
  simp only [m_is_integer, g_is_integer, ↓fnOf, initE, List.replicate, List.length_cons, List.length_nil, List.cons_append, List.nil_append, Nat.sub_self, Nat.reduceSub, Nat.reduceAdd, ↓sSeq, ↓sIf_eq, ↓sSet, ↓sRet, ↓sRetN, ↓sExpr, ↓sNil, ↓sNever, ↓sFor, ↓sAsg, ↓sFldS, ↓sAugIx, ↓sSetIx, ↓putIx, ↓sPar2, ↓sPar3, ↓M.then, ↓bind_eq, ↓M.ret, ↓M.bad, ↓M.get, ↓M.esc, ↓M.arg, ↓M.nrm, ↓M.res, ↓M.wipe, look, getE, ↓put, isMu_eq, muB_none, muB_sh, muB_ow, muB_mu, ↓eVar, ↓eC, ↓eOp1, ↓eOp2, ↓eBool_eq, ↓eAnd_eq, ↓eOr_eq, ↓eNot, ↓eAndV_eq, ↓eOrV_eq, ↓eNotV_eq, ↓eIf_eq, ↓eChain, ↓aNil, ↓aCons, ↓lCons, ↓kCons, ↓sCons, ↓eTup_eq, ↓eLst_eq, ↓eLc_eq, ↓eLc2_eq, ↓iSeq_eq, ↓Cw.iEnum, ↓iZipD_eq, ↓iRng1D_eq, ↓iRng2D, ↓eLRg, ↓eTRg, ↓rg1_eq, ↓rg2, ↓eSl, ↓oNone, ↓oSome_eq, ↓eCallB, ↓getAll, ↓eCall, ↓callM, gather, scatter, muI, toRV, ↓eMake, ↓makeM, ↓eMeth_eq, ↓eFld_eq, ↓eMut_eq, ↓eMutG_eq, ↓eDnew, finR, muOf, List.set, ↓gN, ↓fstep, ↓gT, ↓gsCons, ↓gsNil, noMu, wipeE, ↓sPre_eq, ↓iPre_eq, ↓sFgt, ↓sFrz, fgt_nx, fgt_ct, fgt_rt, fgt_bk, fgt_exc, fgt_bad, frz_nx, frz_ct, frz_rt, frz_bk, frz_exc, frz_bad, frzE_nil, frzE_cons, ↓sRaise, ↓sTry, fixT, List.all_cons, List.all_nil, Bool.and_true, Bool.true_and, Bool.not_false, Bool.not_true, if_true, if_false, ite_true, ite_false, Bool.false_eq_true, reduceIte, reduceCtorEq, List.nodup_cons, List.nodup_nil, List.not_mem_nil, not_false_eq_true, and_self, and_true, true_and, List.mem_cons, List.mem_singleton, or_false, decide_true, decide_false, List.getElem?_cons_zero, List.getElem?_cons_succ, dEq_int, dNe_int, dEq_str, dCmp_int, dAdd_int, dSub_int, dInt_int, dAbs_int, dLen_lst, dLen_tup, dList_lst, dList_tup, dTuple_lst, dTuple_tup, dIxD_lst, dIxD_tup, dInD_lst, dInD_tup, isi_ii, isi_ib]
theorem is_between_int (i lo hi : Int) : m_is_between a [.int i, .int lo, .int hi] = .ok (false, .bl (decide (lo ≤ i ∧ i ≤ hi))) [] := by
  simp only [m_is_between, g_is_between, ↓fnOf, initE, List.replicate, List.length_cons, List.length_nil, List.cons_append, List.nil_append, Nat.sub_self, Nat.reduceSub, Nat.reduceAdd, ↓sSeq, ↓sIf_eq, ↓sSet, ↓sRet, ↓sRetN, ↓sExpr, ↓sNil, ↓sNever, ↓sFor, ↓sAsg, ↓sFldS, ↓sAugIx, ↓sSetIx, ↓putIx, ↓sPar2, ↓sPar3, ↓M.then, ↓bind_eq, ↓M.ret, ↓M.bad, ↓M.get, ↓M.esc, ↓M.arg, ↓M.nrm, ↓M.res, ↓M.wipe, look, getE, ↓put, isMu_eq, muB_none, muB_sh, muB_ow, muB_mu, ↓eVar, ↓eC, ↓eOp1, ↓eOp2, ↓eBool_eq, ↓eAnd_eq, ↓eOr_eq, ↓eNot, ↓eAndV_eq, ↓eOrV_eq, ↓eNotV_eq, ↓eIf_eq, ↓eChain, ↓aNil, ↓aCons, ↓lCons, ↓kCons, ↓sCons, ↓eTup_eq, ↓eLst_eq, ↓eLc_eq, ↓eLc2_eq, ↓iSeq_eq, ↓Cw.iEnum, ↓iZipD_eq, ↓iRng1D_eq, ↓iRng2D, ↓eLRg, ↓eTRg, ↓rg1_eq, ↓rg2, ↓eSl, ↓oNone, ↓oSome_eq, ↓eCallB, ↓getAll, ↓eCall, ↓callM, gather, scatter, muI, toRV, ↓eMake, ↓makeM, ↓eMeth_eq, ↓eFld_eq, ↓eMut_eq, ↓eMutG_eq, ↓eDnew, finR, muOf, List.set, ↓gN, ↓fstep, ↓gT, ↓gsCons, ↓gsNil, noMu, wipeE, ↓sPre_eq, ↓iPre_eq, ↓sFgt, ↓sFrz, fgt_nx, fgt_ct, fgt_rt, fgt_bk, fgt_exc, fgt_bad, frz_nx, frz_ct, frz_rt, frz_bk, frz_exc, frz_bad, frzE_nil, frzE_cons, ↓sRaise, ↓sTry, fixT, List.all_cons, List.all_nil, Bool.and_true, Bool.true_and, Bool.not_false, Bool.not_true, if_true, if_false, ite_true, ite_false, Bool.false_eq_true, reduceIte, reduceCtorEq, List.nodup_cons, List.nodup_nil, List.not_mem_nil, not_false_eq_true, and_self, and_true, true_and, List.mem_cons, List.mem_singleton, or_false, decide_true, decide_false, List.getElem?_cons_zero, List.getElem?_cons_succ, dEq_int, dNe_int, dEq_str, dCmp_int, dAdd_int, dSub_int, dInt_int, dAbs_int, dLen_lst, dLen_tup, dList_lst, dList_tup, dTuple_lst, dTuple_tup, dIxD_lst, dIxD_tup, dInD_lst, dInD_tup, is_integer_int]
  by_cases h : lo ≤ i <;> simp only [h, ↓fnOf, initE, List.replicate, List.length_cons, List.length_nil, List.cons_append, List.nil_append, Nat.sub_self, Nat.reduceSub, Nat.reduceAdd, ↓sSeq, ↓sIf_eq, ↓sSet, ↓sRet, ↓sRetN, ↓sExpr, ↓sNil, ↓sNever, ↓sFor, ↓sAsg, ↓sFldS, ↓sAugIx, ↓sSetIx, ↓putIx, ↓sPar2, ↓sPar3, ↓M.then, ↓bind_eq, ↓M.ret, ↓M.bad, ↓M.get, ↓M.esc, ↓M.arg, ↓M.nrm, ↓M.res, ↓M.wipe, look, getE, ↓put, isMu_eq, muB_none, muB_sh, muB_ow, muB_mu, ↓eVar, ↓eC, ↓eOp1, ↓eOp2, ↓eBool_eq, ↓eAnd_eq, ↓eOr_eq, ↓eNot, ↓eAndV_eq, ↓eOrV_eq, ↓eNotV_eq, ↓eIf_eq, ↓eChain, ↓aNil, ↓aCons, ↓lCons, ↓kCons, ↓sCons, ↓eTup_eq, ↓eLst_eq, ↓eLc_eq, ↓eLc2_eq, ↓iSeq_eq, ↓Cw.iEnum, ↓iZipD_eq, ↓iRng1D_eq, ↓iRng2D, ↓eLRg, ↓eTRg, ↓rg1_eq, ↓rg2, ↓eSl, ↓oNone, ↓oSome_eq, ↓eCallB, ↓getAll, ↓eCall, ↓callM, gather, scatter, muI, toRV, ↓eMake, ↓makeM, ↓eMeth_eq, ↓eFld_eq, ↓eMut_eq, ↓eMutG_eq, ↓eDnew, finR, muOf, List.set, ↓gN, ↓fstep, ↓gT, ↓gsCons, ↓gsNil, noMu, wipeE, ↓sPre_eq, ↓iPre_eq, ↓sFgt, ↓sFrz, fgt_nx, fgt_ct, fgt_rt, fgt_bk, fgt_exc, fgt_bad, frz_nx, frz_ct, frz_rt, frz_bk, frz_exc, frz_bad, frzE_nil, frzE_cons, ↓sRaise, ↓sTry, fixT, List.all_cons, List.all_nil, Bool.and_true, Bool.true_and, Bool.not_false, Bool.not_true, if_true, if_false, ite_true, ite_false, Bool.false_eq_true, reduceIte, reduceCtorEq, List.nodup_cons, List.nodup_nil, List.not_mem_nil, not_false_eq_true, and_self, and_true, true_and, List.mem_cons, List.mem_singleton, or_false, decide_true, decide_false, List.getElem?_cons_zero, List.getElem?_cons_succ, dEq_int, dNe_int, dEq_str, dCmp_int, dAdd_int, dSub_int, dInt_int, dAbs_int, dLen_lst, dLen_tup, dList_lst, dList_tup, dTuple_lst, dTuple_tup, dIxD_lst, dIxD_tup, dInD_lst, dInD_tup, true_and, false_and]
theorem is_listed_lst (xs : List D) (n : Int) : m_is_listed a [.lst xs, .int n] = .ok (false, .bl (decide ((xs.length : Int) ≤ n))) [] := by
  simp only [m_is_listed, g_is_listed, ↓fnOf, initE, List.replicate, List.length_cons, List.length_nil, List.cons_append, List.nil_append, Nat.sub_self, Nat.reduceSub, Nat.reduceAdd, ↓sSeq, ↓sIf_eq, ↓sSet, ↓sRet, ↓sRetN, ↓sExpr, ↓sNil, ↓sNever, ↓sFor, ↓sAsg, ↓sFldS, ↓sAugIx, ↓sSetIx, ↓putIx, ↓sPar2, ↓sPar3, ↓M.then, ↓bind_eq, ↓M.ret, ↓M.bad, ↓M.get, ↓M.esc, ↓M.arg, ↓M.nrm, ↓M.res, ↓M.wipe, look, getE, ↓put, isMu_eq, muB_none, muB_sh, muB_ow, muB_mu, ↓eVar, ↓eC, ↓eOp1, ↓eOp2, ↓eBool_eq, ↓eAnd_eq, ↓eOr_eq, ↓eNot, ↓eAndV_eq, ↓eOrV_eq, ↓eNotV_eq, ↓eIf_eq, ↓eChain, ↓aNil, ↓aCons, ↓lCons, ↓kCons, ↓sCons, ↓eTup_eq, ↓eLst_eq, ↓eLc_eq, ↓eLc2_eq, ↓iSeq_eq, ↓Cw.iEnum, ↓iZipD_eq, ↓iRng1D_eq, ↓iRng2D, ↓eLRg, ↓eTRg, ↓rg1_eq, ↓rg2, ↓eSl, ↓oNone, ↓oSome_eq, ↓eCallB, ↓getAll, ↓eCall, ↓callM, gather, scatter, muI, toRV, ↓eMake, ↓makeM, ↓eMeth_eq, ↓eFld_eq, ↓eMut_eq, ↓eMutG_eq, ↓eDnew, finR, muOf, List.set, ↓gN, ↓fstep, ↓gT, ↓gsCons, ↓gsNil, noMu, wipeE, ↓sPre_eq, ↓iPre_eq, ↓sFgt, ↓sFrz, fgt_nx, fgt_ct, fgt_rt, fgt_bk, fgt_exc, fgt_bad, frz_nx, frz_ct, frz_rt, frz_bk, frz_exc, frz_bad, frzE_nil, frzE_cons, ↓sRaise, ↓sTry, fixT, List.all_cons, List.all_nil, Bool.and_true, Bool.true_and, Bool.not_false, Bool.not_true, if_true, if_false, ite_true, ite_false, Bool.false_eq_true, reduceIte, reduceCtorEq, List.nodup_cons, List.nodup_nil, List.not_mem_nil, not_false_eq_true, and_self, and_true, true_and, List.mem_cons, List.mem_singleton, or_false, decide_true, decide_false, List.getElem?_cons_zero, List.getElem?_cons_succ, dEq_int, dNe_int, dEq_str, dCmp_int, dAdd_int, dSub_int, dInt_int, dAbs_int, dLen_lst, dLen_tup, dList_lst, dList_tup, dTuple_lst, dTuple_tup, dIxD_lst, dIxD_tup, dInD_lst, dInD_tup, isi2_l]
theorem is_listed_tup (xs : List D) (n : Int) : m_is_listed a [.tup xs, .int n] = .ok (false, .bl (decide ((xs.length : Int) ≤ n))) [] := by
  simp only [m_is_listed, g_is_listed, ↓fnOf, initE, List.replicate, List.length_cons, List.length_nil, List.cons_append, List.nil_append, Nat.sub_self, Nat.reduceSub, Nat.reduceAdd, ↓sSeq, ↓sIf_eq, ↓sSet, ↓sRet, ↓sRetN, ↓sExpr, ↓sNil, ↓sNever, ↓sFor, ↓sAsg, ↓sFldS, ↓sAugIx, ↓sSetIx, ↓putIx, ↓sPar2, ↓sPar3, ↓M.then, ↓bind_eq, ↓M.ret, ↓M.bad, ↓M.get, ↓M.esc, ↓M.arg, ↓M.nrm, ↓M.res, ↓M.wipe, look, getE, ↓put, isMu_eq, muB_none, muB_sh, muB_ow, muB_mu, ↓eVar, ↓eC, ↓eOp1, ↓eOp2, ↓eBool_eq, ↓eAnd_eq, ↓eOr_eq, ↓eNot, ↓eAndV_eq, ↓eOrV_eq, ↓eNotV_eq, ↓eIf_eq, ↓eChain, ↓aNil, ↓aCons, ↓lCons, ↓kCons, ↓sCons, ↓eTup_eq, ↓eLst_eq, ↓eLc_eq, ↓eLc2_eq, ↓iSeq_eq, ↓Cw.iEnum, ↓iZipD_eq, ↓iRng1D_eq, ↓iRng2D, ↓eLRg, ↓eTRg, ↓rg1_eq, ↓rg2, ↓eSl, ↓oNone, ↓oSome_eq, ↓eCallB, ↓getAll, ↓eCall, ↓callM, gather, scatter, muI, toRV, ↓eMake, ↓makeM, ↓eMeth_eq, ↓eFld_eq, ↓eMut_eq, ↓eMutG_eq, ↓eDnew, finR, muOf, List.set, ↓gN, ↓fstep, ↓gT, ↓gsCons, ↓gsNil, noMu, wipeE, ↓sPre_eq, ↓iPre_eq, ↓sFgt, ↓sFrz, fgt_nx, fgt_ct, fgt_rt, fgt_bk, fgt_exc, fgt_bad, frz_nx, frz_ct, frz_rt, frz_bk, frz_exc, frz_bad, frzE_nil, frzE_cons, ↓sRaise, ↓sTry, fixT, List.all_cons, List.all_nil, Bool.and_true, Bool.true_and, Bool.not_false, Bool.not_true, if_true, if_false, ite_true, ite_false, Bool.false_eq_true, reduceIte, reduceCtorEq, List.nodup_cons, List.nodup_nil, List.not_mem_nil, not_false_eq_true, and_self, and_true, true_and, List.mem_cons, List.mem_singleton, or_false, decide_true, decide_false, List.getElem?_cons_zero, List.getElem?_cons_succ, dEq_int, dNe_int, dEq_str, dCmp_int, dAdd_int, dSub_int, dInt_int, dAbs_int, dLen_lst, dLen_tup, dList_lst, dList_tup, dTuple_lst, dTuple_tup, dIxD_lst, dIxD_tup, dInD_lst, dInD_tup, isi2_t]
theorem alike_same {k n : Nat} {d : D} (h : Nice k n d) (hk : k ≤ 64) (hn : n ≤ 2 ^ 20) : m_law_alike a [d, d] = .ok (false, .bl true) [] := by
  obtain ⟨t, ht⟩ := h.repr hk hn
  have he := h.eq hk
  simp only [m_law_alike, g_law_alike, ↓fnOf, initE, List.replicate, List.length_cons, List.length_nil, List.cons_append, List.nil_append, Nat.sub_self, Nat.reduceSub, Nat.reduceAdd, ↓sSeq, ↓sIf_eq, ↓sSet, ↓sRet, ↓sRetN, ↓sExpr, ↓sNil, ↓sNever, ↓sFor, ↓sAsg, ↓sFldS, ↓sAugIx, ↓sSetIx, ↓putIx, ↓sPar2, ↓sPar3, ↓M.then, ↓bind_eq, ↓M.ret, ↓M.bad, ↓M.get, ↓M.esc, ↓M.arg, ↓M.nrm, ↓M.res, ↓M.wipe, look, getE, ↓put, isMu_eq, muB_none, muB_sh, muB_ow, muB_mu, ↓eVar, ↓eC, ↓eOp1, ↓eOp2, ↓eBool_eq, ↓eAnd_eq, ↓eOr_eq, ↓eNot, ↓eAndV_eq, ↓eOrV_eq, ↓eNotV_eq, ↓eIf_eq, ↓eChain, ↓aNil, ↓aCons, ↓lCons, ↓kCons, ↓sCons, ↓eTup_eq, ↓eLst_eq, ↓eLc_eq, ↓eLc2_eq, ↓iSeq_eq, ↓Cw.iEnum, ↓iZipD_eq, ↓iRng1D_eq, ↓iRng2D, ↓eLRg, ↓eTRg, ↓rg1_eq, ↓rg2, ↓eSl, ↓oNone, ↓oSome_eq, ↓eCallB, ↓getAll, ↓eCall, ↓callM, gather, scatter, muI, toRV, ↓eMake, ↓makeM, ↓eMeth_eq, ↓eFld_eq, ↓eMut_eq, ↓eMutG_eq, ↓eDnew, finR, muOf, List.set, ↓gN, ↓fstep, ↓gT, ↓gsCons, ↓gsNil, noMu, wipeE, ↓sPre_eq, ↓iPre_eq, ↓sFgt, ↓sFrz, fgt_nx, fgt_ct, fgt_rt, fgt_bk, fgt_exc, fgt_bad, frz_nx, frz_ct, frz_rt, frz_bk, frz_exc, frz_bad, frzE_nil, frzE_cons, ↓sRaise, ↓sTry, fixT, List.all_cons, List.all_nil, Bool.and_true, Bool.true_and, Bool.not_false, Bool.not_true, if_true, if_false, ite_true, ite_false, Bool.false_eq_true, reduceIte, reduceCtorEq, List.nodup_cons, List.nodup_nil, List.not_mem_nil, not_false_eq_true, and_self, and_true, true_and, List.mem_cons, List.mem_singleton, or_false, decide_true, decide_false, List.getElem?_cons_zero, List.getElem?_cons_succ, dEq_int, dNe_int, dEq_str, dCmp_int, dAdd_int, dSub_int, dInt_int, dAbs_int, dLen_lst, dLen_tup, dList_lst, dList_tup, dTuple_lst, dTuple_tup, dIxD_lst, dIxD_tup, dInD_lst, dInD_tup, ht, he]
/-! ### the bag -/
def bagD (x y z : Int) (cs : List Int) : D := .lst [.int x, .int y, .int z, .lst (ii cs)]
structure BagOk (x y z : Int) (cs : List Int) : Prop where
  x : 0 ≤ x
  y : 0 ≤ y
  z : 0 ≤ z
  c : ∀ c ∈ cs, 0 ≤ c
theorem dIx4_0 (p q r s : D) : dIx (.lst [p, q, r, s]) (.int 0) = some (false, p) := rfl
theorem dIx4_1 (p q r s : D) : dIx (.lst [p, q, r, s]) (.int 1) = some (false, q) := rfl
theorem dIx4_2 (p q r s : D) : dIx (.lst [p, q, r, s]) (.int 2) = some (false, r) := rfl
theorem dIx4_3 (p q r s : D) : dIx (.lst [p, q, r, s]) (.int 3) = some (false, s) := rfl
theorem ixN4_0 : ixN 4 0 = some 0 := rfl
theorem ixN4_1 : ixN 4 1 = some 1 := rfl
theorem ixN4_2 : ixN 4 2 = some 2 := rfl
theorem dIx_ii {cs : List Int} {z : Int} (h0 : 0 ≤ z) (h1 : z < cs.length) : ∃ c, c ∈ cs ∧ dIx (.lst (ii cs)) (.int z) = some (false, .int c) := by
  obtain ⟨k, rfl⟩ := Int.eq_ofNat_of_zero_le h0
  have hk : k < cs.length := by omega
  refine ⟨cs[k], List.getElem_mem hk, dIx_lst ?_⟩
  unfold ii
  rw [List.getElem?_map, List.getElem?_eq_getElem hk]
  rfl
theorem small_k : smallI 48271 = true ∧ smallI 7919 = true ∧ smallI 39373 = true ∧ smallI 30011 = true := ⟨smallI_of (by decide), smallI_of (by decide), smallI_of (by decide), smallI_of (by decide)⟩
theorem small_of {i : Int} (h0 : 0 ≤ i) (h1 : i < 2 ^ 64) : smallI i = true := smallI_of ⟨by omega, h1⟩
def mixY (y z c : Int) : Int := (y * 48271 + c % 2147483647 + 7919 * (z + 1)) % 2147483647
def hashV (y many : Int) : Int := ((((((y + 1) * 39373) % 1000000007) * (((y + 1) * 39373) % 1000000007)) % 998244353) * 30011 % 998244353 / 7) % many
theorem take_ok {x y z many : Int} {cs : List Int} (h : BagOk x y z cs) (hm : 0 < many) (hm2 : many < 1073741824) :
    ∃ v x' y' z', m_law_take a [bagD x y z cs, .int many] = .ok (false, .int v) [bagD x' y' z' cs] ∧ 0 ≤ v ∧ v < many ∧ BagOk x' y' z' cs := by
  obtain ⟨hx, hy, hz, hc⟩ := h
  obtain ⟨k1, k2, k3, k4⟩ := small_k
  have f1 : ∀ t : Int, smallI (t % 1000000007) = true := fun t => small_of (by omega) (by omega)
  have mm := fun i => dMod_int i many hm
  have dm := fun i => dDiv_int i many hm hm2
  have m1 := fun i => dMod_int i 2147483647 (by decide)
  have m2 := fun i => dMod_int i 1000000007 (by decide)
  have m3 := fun i => dMod_int i 998244353 (by decide)
  have d7 := fun i => dDiv_int i 7 (by decide) (by decide)
  have p1 := fun i => dMul_int i 48271 (by rw [k1, Bool.or_true])
  have p2 := fun i => dMul_int 7919 i (by rw [k2, Bool.true_or])
  have p3 := fun i => dMul_int i 39373 (by rw [k3, Bool.or_true])
  have p4 := fun i => dMul_int i 30011 (by rw [k4, Bool.or_true])
  have p5 := fun t => dMul_int (t % 1000000007) (t % 1000000007) (by rw [f1, Bool.true_or])
  have g2 : (0 : Int) ≤ 2 ∧ (2 : Int) < 2 ^ 63 := by decide
  have t2 : (2 : Int).toNat = 2 := rfl
  have big : ∀ c : Int, 0 ≤ c → (1000000000000000000 : Int) ≤ c → ∀ (r : Option (Bool × D)), True := fun _ _ _ _ => trivial
  by_cases c1 : x = 0
  · subst c1
    by_cases c2 : z < cs.length
    · obtain ⟨c, hcm, hci⟩ := dIx_ii hz c2
      have hc0 := hc c hcm
      by_cases c3 : (1000000000000000000 : Int) ≤ c
      · have c4 : 0 < c := by omega
        refine ⟨c % many, c / many, mixY y z c, z + 1, ?_, Int.emod_nonneg _ (by omega), Int.emod_lt_of_pos _ hm, ⟨Int.ediv_nonneg hc0 (by omega), ?_, by omega, hc⟩⟩
        · simp only [bagD, m_law_take, g_law_take, ↓fnOf, initE, List.replicate, List.length_cons, List.length_nil, List.cons_append, List.nil_append, Nat.sub_self, Nat.reduceSub, Nat.reduceAdd, ↓sSeq, ↓sIf_eq, ↓sSet, ↓sRet, ↓sRetN, ↓sExpr, ↓sNil, ↓sNever, ↓sFor, ↓sAsg, ↓sFldS, ↓sAugIx, ↓sSetIx, ↓putIx, ↓sPar2, ↓sPar3, ↓M.then, ↓bind_eq, ↓M.ret, ↓M.bad, ↓M.get, ↓M.esc, ↓M.arg, ↓M.nrm, ↓M.res, ↓M.wipe, look, getE, ↓put, isMu_eq, muB_none, muB_sh, muB_ow, muB_mu, ↓eVar, ↓eC, ↓eOp1, ↓eOp2, ↓eBool_eq, ↓eAnd_eq, ↓eOr_eq, ↓eNot, ↓eAndV_eq, ↓eOrV_eq, ↓eNotV_eq, ↓eIf_eq, ↓eChain, ↓aNil, ↓aCons, ↓lCons, ↓kCons, ↓sCons, ↓eTup_eq, ↓eLst_eq, ↓eLc_eq, ↓eLc2_eq, ↓iSeq_eq, ↓Cw.iEnum, ↓iZipD_eq, ↓iRng1D_eq, ↓iRng2D, ↓eLRg, ↓eTRg, ↓rg1_eq, ↓rg2, ↓eSl, ↓oNone, ↓oSome_eq, ↓eCallB, ↓getAll, ↓eCall, ↓callM, gather, scatter, muI, toRV, ↓eMake, ↓makeM, ↓eMeth_eq, ↓eFld_eq, ↓eMut_eq, ↓eMutG_eq, ↓eDnew, finR, muOf, List.set, ↓gN, ↓fstep, ↓gT, ↓gsCons, ↓gsNil, noMu, wipeE, ↓sPre_eq, ↓iPre_eq, ↓sFgt, ↓sFrz, fgt_nx, fgt_ct, fgt_rt, fgt_bk, fgt_exc, fgt_bad, frz_nx, frz_ct, frz_rt, frz_bk, frz_exc, frz_bad, frzE_nil, frzE_cons, ↓sRaise, ↓sTry, fixT, List.all_cons, List.all_nil, Bool.and_true, Bool.true_and, Bool.not_false, Bool.not_true, if_true, if_false, ite_true, ite_false, Bool.false_eq_true, reduceIte, reduceCtorEq, List.nodup_cons, List.nodup_nil, List.not_mem_nil, not_false_eq_true, and_self, and_true, true_and, List.mem_cons, List.mem_singleton, or_false, decide_true, decide_false, List.getElem?_cons_zero, List.getElem?_cons_succ, dEq_int, dNe_int, dEq_str, dCmp_int, dAdd_int, dSub_int, dInt_int, dAbs_int, dLen_lst, dLen_tup, dList_lst, dList_tup, dTuple_lst, dTuple_tup, dIxD_lst, dIxD_tup, dInD_lst, dInD_tup, dIx4_0, dIx4_1, dIx4_2, dIx4_3, ii_length, c2, hci, ixN4_0, ixN4_1, ixN4_2, c3, mm, dm, m1, m2, m3, d7, p1, p2, p3, p4, p5, c4, g2, t2, mixY]
        · exact Int.emod_nonneg _ (by decide)
      · refine ⟨hashV (mixY y z c) many, 0, mixY y z c, z + 1, ?_, Int.emod_nonneg _ (by omega), Int.emod_lt_of_pos _ hm, ⟨Int.le_refl _, Int.emod_nonneg _ (by decide), by omega, hc⟩⟩
        simp only [bagD, m_law_take, g_law_take, ↓fnOf, initE, List.replicate, List.length_cons, List.length_nil, List.cons_append, List.nil_append, Nat.sub_self, Nat.reduceSub, Nat.reduceAdd, ↓sSeq, ↓sIf_eq, ↓sSet, ↓sRet, ↓sRetN, ↓sExpr, ↓sNil, ↓sNever, ↓sFor, ↓sAsg, ↓sFldS, ↓sAugIx, ↓sSetIx, ↓putIx, ↓sPar2, ↓sPar3, ↓M.then, ↓bind_eq, ↓M.ret, ↓M.bad, ↓M.get, ↓M.esc, ↓M.arg, ↓M.nrm, ↓M.res, ↓M.wipe, look, getE, ↓put, isMu_eq, muB_none, muB_sh, muB_ow, muB_mu, ↓eVar, ↓eC, ↓eOp1, ↓eOp2, ↓eBool_eq, ↓eAnd_eq, ↓eOr_eq, ↓eNot, ↓eAndV_eq, ↓eOrV_eq, ↓eNotV_eq, ↓eIf_eq, ↓eChain, ↓aNil, ↓aCons, ↓lCons, ↓kCons, ↓sCons, ↓eTup_eq, ↓eLst_eq, ↓eLc_eq, ↓eLc2_eq, ↓iSeq_eq, ↓Cw.iEnum, ↓iZipD_eq, ↓iRng1D_eq, ↓iRng2D, ↓eLRg, ↓eTRg, ↓rg1_eq, ↓rg2, ↓eSl, ↓oNone, ↓oSome_eq, ↓eCallB, ↓getAll, ↓eCall, ↓callM, gather, scatter, muI, toRV, ↓eMake, ↓makeM, ↓eMeth_eq, ↓eFld_eq, ↓eMut_eq, ↓eMutG_eq, ↓eDnew, finR, muOf, List.set, ↓gN, ↓fstep, ↓gT, ↓gsCons, ↓gsNil, noMu, wipeE, ↓sPre_eq, ↓iPre_eq, ↓sFgt, ↓sFrz, fgt_nx, fgt_ct, fgt_rt, fgt_bk, fgt_exc, fgt_bad, frz_nx, frz_ct, frz_rt, frz_bk, frz_exc, frz_bad, frzE_nil, frzE_cons, ↓sRaise, ↓sTry, fixT, List.all_cons, List.all_nil, Bool.and_true, Bool.true_and, Bool.not_false, Bool.not_true, if_true, if_false, ite_true, ite_false, Bool.false_eq_true, reduceIte, reduceCtorEq, List.nodup_cons, List.nodup_nil, List.not_mem_nil, not_false_eq_true, and_self, and_true, true_and, List.mem_cons, List.mem_singleton, or_false, decide_true, decide_false, List.getElem?_cons_zero, List.getElem?_cons_succ, dEq_int, dNe_int, dEq_str, dCmp_int, dAdd_int, dSub_int, dInt_int, dAbs_int, dLen_lst, dLen_tup, dList_lst, dList_tup, dTuple_lst, dTuple_tup, dIxD_lst, dIxD_tup, dInD_lst, dInD_tup, dIx4_0, dIx4_1, dIx4_2, dIx4_3, ii_length, c2, hci, ixN4_0, ixN4_1, ixN4_2, c3, mm, dm, m1, m2, m3, d7, p1, p2, p3, p4, p5, g2, t2, mixY, hashV, Int.lt_irrefl]
    · refine ⟨hashV (mixY y z 0) many, 0, mixY y z 0, z + 1, ?_, Int.emod_nonneg _ (by omega), Int.emod_lt_of_pos _ hm, ⟨Int.le_refl _, Int.emod_nonneg _ (by decide), by omega, hc⟩⟩
      have c3 : ¬ (1000000000000000000 : Int) ≤ 0 := by decide
      simp only [bagD, m_law_take, g_law_take, ↓fnOf, initE, List.replicate, List.length_cons, List.length_nil, List.cons_append, List.nil_append, Nat.sub_self, Nat.reduceSub, Nat.reduceAdd, ↓sSeq, ↓sIf_eq, ↓sSet, ↓sRet, ↓sRetN, ↓sExpr, ↓sNil, ↓sNever, ↓sFor, ↓sAsg, ↓sFldS, ↓sAugIx, ↓sSetIx, ↓putIx, ↓sPar2, ↓sPar3, ↓M.then, ↓bind_eq, ↓M.ret, ↓M.bad, ↓M.get, ↓M.esc, ↓M.arg, ↓M.nrm, ↓M.res, ↓M.wipe, look, getE, ↓put, isMu_eq, muB_none, muB_sh, muB_ow, muB_mu, ↓eVar, ↓eC, ↓eOp1, ↓eOp2, ↓eBool_eq, ↓eAnd_eq, ↓eOr_eq, ↓eNot, ↓eAndV_eq, ↓eOrV_eq, ↓eNotV_eq, ↓eIf_eq, ↓eChain, ↓aNil, ↓aCons, ↓lCons, ↓kCons, ↓sCons, ↓eTup_eq, ↓eLst_eq, ↓eLc_eq, ↓eLc2_eq, ↓iSeq_eq, ↓Cw.iEnum, ↓iZipD_eq, ↓iRng1D_eq, ↓iRng2D, ↓eLRg, ↓eTRg, ↓rg1_eq, ↓rg2, ↓eSl, ↓oNone, ↓oSome_eq, ↓eCallB, ↓getAll, ↓eCall, ↓callM, gather, scatter, muI, toRV, ↓eMake, ↓makeM, ↓eMeth_eq, ↓eFld_eq, ↓eMut_eq, ↓eMutG_eq, ↓eDnew, finR, muOf, List.set, ↓gN, ↓fstep, ↓gT, ↓gsCons, ↓gsNil, noMu, wipeE, ↓sPre_eq, ↓iPre_eq, ↓sFgt, ↓sFrz, fgt_nx, fgt_ct, fgt_rt, fgt_bk, fgt_exc, fgt_bad, frz_nx, frz_ct, frz_rt, frz_bk, frz_exc, frz_bad, frzE_nil, frzE_cons, ↓sRaise, ↓sTry, fixT, List.all_cons, List.all_nil, Bool.and_true, Bool.true_and, Bool.not_false, Bool.not_true, if_true, if_false, ite_true, ite_false, Bool.false_eq_true, reduceIte, reduceCtorEq, List.nodup_cons, List.nodup_nil, List.not_mem_nil, not_false_eq_true, and_self, and_true, true_and, List.mem_cons, List.mem_singleton, or_false, decide_true, decide_false, List.getElem?_cons_zero, List.getElem?_cons_succ, dEq_int, dNe_int, dEq_str, dCmp_int, dAdd_int, dSub_int, dInt_int, dAbs_int, dLen_lst, dLen_tup, dList_lst, dList_tup, dTuple_lst, dTuple_tup, dIxD_lst, dIxD_tup, dInD_lst, dInD_tup, dIx4_0, dIx4_1, dIx4_2, dIx4_3, ii_length, c2, ixN4_0, ixN4_1, ixN4_2, c3, mm, dm, m1, m2, m3, d7, p1, p2, p3, p4, p5, g2, t2, mixY, hashV, Int.lt_irrefl]
  · have c4 : 0 < x := by omega
    refine ⟨x % many, x / many, y, z, ?_, Int.emod_nonneg _ (by omega), Int.emod_lt_of_pos _ hm, ⟨Int.ediv_nonneg hx (by omega), hy, hz, hc⟩⟩
    simp only [bagD, m_law_take, g_law_take, ↓fnOf, initE, List.replicate, List.length_cons, List.length_nil, List.cons_append, List.nil_append, Nat.sub_self, Nat.reduceSub, Nat.reduceAdd, ↓sSeq, ↓sIf_eq, ↓sSet, ↓sRet, ↓sRetN, ↓sExpr, ↓sNil, ↓sNever, ↓sFor, ↓sAsg, ↓sFldS, ↓sAugIx, ↓sSetIx, ↓putIx, ↓sPar2, ↓sPar3, ↓M.then, ↓bind_eq, ↓M.ret, ↓M.bad, ↓M.get, ↓M.esc, ↓M.arg, ↓M.nrm, ↓M.res, ↓M.wipe, look, getE, ↓put, isMu_eq, muB_none, muB_sh, muB_ow, muB_mu, ↓eVar, ↓eC, ↓eOp1, ↓eOp2, ↓eBool_eq, ↓eAnd_eq, ↓eOr_eq, ↓eNot, ↓eAndV_eq, ↓eOrV_eq, ↓eNotV_eq, ↓eIf_eq, ↓eChain, ↓aNil, ↓aCons, ↓lCons, ↓kCons, ↓sCons, ↓eTup_eq, ↓eLst_eq, ↓eLc_eq, ↓eLc2_eq, ↓iSeq_eq, ↓Cw.iEnum, ↓iZipD_eq, ↓iRng1D_eq, ↓iRng2D, ↓eLRg, ↓eTRg, ↓rg1_eq, ↓rg2, ↓eSl, ↓oNone, ↓oSome_eq, ↓eCallB, ↓getAll, ↓eCall, ↓callM, gather, scatter, muI, toRV, ↓eMake, ↓makeM, ↓eMeth_eq, ↓eFld_eq, ↓eMut_eq, ↓eMutG_eq, ↓eDnew, finR, muOf, List.set, ↓gN, ↓fstep, ↓gT, ↓gsCons, ↓gsNil, noMu, wipeE, ↓sPre_eq, ↓iPre_eq, ↓sFgt, ↓sFrz, fgt_nx, fgt_ct, fgt_rt, fgt_bk, fgt_exc, fgt_bad, frz_nx, frz_ct, frz_rt, frz_bk, frz_exc, frz_bad, frzE_nil, frzE_cons, ↓sRaise, ↓sTry, fixT, List.all_cons, List.all_nil, Bool.and_true, Bool.true_and, Bool.not_false, Bool.not_true, if_true, if_false, ite_true, ite_false, Bool.false_eq_true, reduceIte, reduceCtorEq, List.nodup_cons, List.nodup_nil, List.not_mem_nil, not_false_eq_true, and_self, and_true, true_and, List.mem_cons, List.mem_singleton, or_false, decide_true, decide_false, List.getElem?_cons_zero, List.getElem?_cons_succ, dEq_int, dNe_int, dEq_str, dCmp_int, dAdd_int, dSub_int, dInt_int, dAbs_int, dLen_lst, dLen_tup, dList_lst, dList_tup, dTuple_lst, dTuple_tup, dIxD_lst, dIxD_tup, dInD_lst, dInD_tup, dIx4_0, dIx4_1, dIx4_2, dIx4_3, ixN4_0, c1, c4, mm, dm]
theorem cut63 {α : Type} (xs : List α) (h : xs.length ≤ 63) : cutG xs none (some 63) = xs := by
  unfold cutG
  show List.take (HT.sIx xs.length xs.length (some ((63 : Nat) : Int)) - 0) (xs.drop 0) = xs
  rw [HT.sIx_nat, Nat.min_eq_right h, Nat.sub_zero, List.drop_zero, List.take_length]
def absD : D → D
  | .int i => .int (if i < 0 then -i else i)
  | d => d
theorem bag_ok (ns : List Int) (h : ns.length ≤ 63) : ∃ cs, m_law_bag a [.scr (ii ns)] = .ok (true, bagD 0 987654321 0 cs) [] ∧ BagOk 0 987654321 0 cs := by
  have hl : lcL [1] (gN 1) eYes (v_law_bag_0 a) (ii ns) [some (Fl.sh, .scr (ii ns)), none] = .ok ((ii ns).map absD) [some (Fl.sh, .scr (ii ns)), none] :=
    lcL_map absD fun d hd => by
      obtain ⟨i, _, rfl⟩ := List.mem_map.mp hd
      exact ⟨_, _, rfl, rfl, rfl, rfl⟩
  have e : (ii ns).map absD = ii (ns.map fun i => if i < 0 then -i else i) := by
    simp [ii, absD, List.map_map, Function.comp_def]
  have hz : (ii (ns.map fun i => if i < 0 then -i else i)).length ≤ sizeLine := by
    rw [ii_length, List.length_map]
    exact Nat.le_trans h (by decide)
  have h4 : 4 ≤ sizeLine := by decide
  refine ⟨ns.map fun i => if i < 0 then -i else i, ?_, ⟨by decide, by decide, by decide, fun c hc => ?_⟩⟩
  · simp only [m_law_bag, g_law_bag, ↓fnOf, initE, List.replicate, List.length_cons, List.length_nil, List.cons_append, List.nil_append, Nat.sub_self, Nat.reduceSub, Nat.reduceAdd, ↓sSeq, ↓sIf_eq, ↓sSet, ↓sRet, ↓sRetN, ↓sExpr, ↓sNil, ↓sNever, ↓sFor, ↓sAsg, ↓sFldS, ↓sAugIx, ↓sSetIx, ↓putIx, ↓sPar2, ↓sPar3, ↓M.then, ↓bind_eq, ↓M.ret, ↓M.bad, ↓M.get, ↓M.esc, ↓M.arg, ↓M.nrm, ↓M.res, ↓M.wipe, look, getE, ↓put, isMu_eq, muB_none, muB_sh, muB_ow, muB_mu, ↓eVar, ↓eC, ↓eOp1, ↓eOp2, ↓eBool_eq, ↓eAnd_eq, ↓eOr_eq, ↓eNot, ↓eAndV_eq, ↓eOrV_eq, ↓eNotV_eq, ↓eIf_eq, ↓eChain, ↓aNil, ↓aCons, ↓lCons, ↓kCons, ↓sCons, ↓eTup_eq, ↓eLst_eq, ↓eLc_eq, ↓eLc2_eq, ↓iSeq_eq, ↓Cw.iEnum, ↓iZipD_eq, ↓iRng1D_eq, ↓iRng2D, ↓eLRg, ↓eTRg, ↓rg1_eq, ↓rg2, ↓eSl, ↓oNone, ↓oSome_eq, ↓eCallB, ↓getAll, ↓eCall, ↓callM, gather, scatter, muI, toRV, ↓eMake, ↓makeM, ↓eMeth_eq, ↓eFld_eq, ↓eMut_eq, ↓eMutG_eq, ↓eDnew, finR, muOf, List.set, ↓gN, ↓fstep, ↓gT, ↓gsCons, ↓gsNil, noMu, wipeE, ↓sPre_eq, ↓iPre_eq, ↓sFgt, ↓sFrz, fgt_nx, fgt_ct, fgt_rt, fgt_bk, fgt_exc, fgt_bad, frz_nx, frz_ct, frz_rt, frz_bk, frz_exc, frz_bad, frzE_nil, frzE_cons, ↓sRaise, ↓sTry, fixT, List.all_cons, List.all_nil, Bool.and_true, Bool.true_and, Bool.not_false, Bool.not_true, if_true, if_false, ite_true, ite_false, Bool.false_eq_true, reduceIte, reduceCtorEq, List.nodup_cons, List.nodup_nil, List.not_mem_nil, not_false_eq_true, and_self, and_true, true_and, List.mem_cons, List.mem_singleton, or_false, decide_true, decide_false, List.getElem?_cons_zero, List.getElem?_cons_succ, dEq_int, dNe_int, dEq_str, dCmp_int, dAdd_int, dSub_int, dInt_int, dAbs_int, dLen_lst, dLen_tup, dList_lst, dList_tup, dTuple_lst, dTuple_tup, dIxD_lst, dIxD_tup, dInD_lst, dInD_tup, dSl, cut63 (ii ns) (by rw [ii_length]; exact h), ↓hl, e, hz, bagD, h4]
  · obtain ⟨i, _, rfl⟩ := List.mem_map.mp hc
    split <;> omega
theorem one_ok {x y z : Int} {cs : List Int} {xs : List D} (h : BagOk x y z cs) (hx : 0 < xs.length) (hx2 : xs.length < 1073741824) :
    ∃ d x' y' z', m_law_one_tt a [bagD x y z cs, .lst xs] = .ok (false, d) [bagD x' y' z' cs, .lst xs] ∧ d ∈ xs ∧ BagOk x' y' z' cs := by
  obtain ⟨v, x', y', z', ht, h0, h1, hb⟩ := take_ok a h (many := (xs.length : Int)) (by omega) (by omega)
  obtain ⟨k, rfl⟩ := Int.eq_ofNat_of_zero_le h0
  have hk : k < xs.length := by omega
  have hix := dIx_lst (List.getElem?_eq_getElem hk)
  refine ⟨xs[k], x', y', z', ?_, List.getElem_mem hk, hb⟩
  simp only [m_law_one_tt, g_law_one_tt, ↓fnOf, initE, List.replicate, List.length_cons, List.length_nil, List.cons_append, List.nil_append, Nat.sub_self, Nat.reduceSub, Nat.reduceAdd, ↓sSeq, ↓sIf_eq, ↓sSet, ↓sRet, ↓sRetN, ↓sExpr, ↓sNil, ↓sNever, ↓sFor, ↓sAsg, ↓sFldS, ↓sAugIx, ↓sSetIx, ↓putIx, ↓sPar2, ↓sPar3, ↓M.then, ↓bind_eq, ↓M.ret, ↓M.bad, ↓M.get, ↓M.esc, ↓M.arg, ↓M.nrm, ↓M.res, ↓M.wipe, look, getE, ↓put, isMu_eq, muB_none, muB_sh, muB_ow, muB_mu, ↓eVar, ↓eC, ↓eOp1, ↓eOp2, ↓eBool_eq, ↓eAnd_eq, ↓eOr_eq, ↓eNot, ↓eAndV_eq, ↓eOrV_eq, ↓eNotV_eq, ↓eIf_eq, ↓eChain, ↓aNil, ↓aCons, ↓lCons, ↓kCons, ↓sCons, ↓eTup_eq, ↓eLst_eq, ↓eLc_eq, ↓eLc2_eq, ↓iSeq_eq, ↓Cw.iEnum, ↓iZipD_eq, ↓iRng1D_eq, ↓iRng2D, ↓eLRg, ↓eTRg, ↓rg1_eq, ↓rg2, ↓eSl, ↓oNone, ↓oSome_eq, ↓eCallB, ↓getAll, ↓eCall, ↓callM, gather, scatter, muI, toRV, ↓eMake, ↓makeM, ↓eMeth_eq, ↓eFld_eq, ↓eMut_eq, ↓eMutG_eq, ↓eDnew, finR, muOf, List.set, ↓gN, ↓fstep, ↓gT, ↓gsCons, ↓gsNil, noMu, wipeE, ↓sPre_eq, ↓iPre_eq, ↓sFgt, ↓sFrz, fgt_nx, fgt_ct, fgt_rt, fgt_bk, fgt_exc, fgt_bad, frz_nx, frz_ct, frz_rt, frz_bk, frz_exc, frz_bad, frzE_nil, frzE_cons, ↓sRaise, ↓sTry, fixT, List.all_cons, List.all_nil, Bool.and_true, Bool.true_and, Bool.not_false, Bool.not_true, if_true, if_false, ite_true, ite_false, Bool.false_eq_true, reduceIte, reduceCtorEq, List.nodup_cons, List.nodup_nil, List.not_mem_nil, not_false_eq_true, and_self, and_true, true_and, List.mem_cons, List.mem_singleton, or_false, decide_true, decide_false, List.getElem?_cons_zero, List.getElem?_cons_succ, dEq_int, dNe_int, dEq_str, dCmp_int, dAdd_int, dSub_int, dInt_int, dAbs_int, dLen_lst, dLen_tup, dList_lst, dList_tup, dTuple_lst, dTuple_tup, dIxD_lst, dIxD_tup, dInD_lst, dInD_tup, ht, hix]
theorem some_lst {x y z : Int} {cs : List Int} {xs : List D} (h : BagOk x y z cs) (hz : xs.length ≤ sizeLine) :
    ∃ ys x' y' z', m_law_some a [bagD x y z cs, .lst xs] = .ok (true, .lst ys) [bagD x' y' z' cs] ∧ ys.Sublist xs ∧ BagOk x' y' z' cs := by
  obtain ⟨ys, e', h1, ⟨x', y', z', h2, rfl⟩, h3⟩ := lcL_some (vs := [2]) (a := gN 2) (tt := t_law_some_0 a) (te := eVar 2)
    (fun e => ∃ x y z, BagOk x y z cs ∧ e = [some (Fl.mu, bagD x y z cs), some (Fl.sh, .lst xs), none]) (ds := xs) (e := [some (Fl.mu, bagD x y z cs), some (Fl.sh, .lst xs), none]) ⟨x, y, z, h, rfl⟩ (by
      rintro d e hd ⟨x, y, z, h, rfl⟩
      obtain ⟨v, x', y', z', ht, h0, h1, hb⟩ := take_ok a h (many := 2) (by decide) (by decide)
      refine ⟨_, decide (v = 1), _, rfl, by simp only [t_law_some_0, ↓fnOf, initE, List.replicate, List.length_cons, List.length_nil, List.cons_append, List.nil_append, Nat.sub_self, Nat.reduceSub, Nat.reduceAdd, ↓sSeq, ↓sIf_eq, ↓sSet, ↓sRet, ↓sRetN, ↓sExpr, ↓sNil, ↓sNever, ↓sFor, ↓sAsg, ↓sFldS, ↓sAugIx, ↓sSetIx, ↓putIx, ↓sPar2, ↓sPar3, ↓M.then, ↓bind_eq, ↓M.ret, ↓M.bad, ↓M.get, ↓M.esc, ↓M.arg, ↓M.nrm, ↓M.res, ↓M.wipe, look, getE, ↓put, isMu_eq, muB_none, muB_sh, muB_ow, muB_mu, ↓eVar, ↓eC, ↓eOp1, ↓eOp2, ↓eBool_eq, ↓eAnd_eq, ↓eOr_eq, ↓eNot, ↓eAndV_eq, ↓eOrV_eq, ↓eNotV_eq, ↓eIf_eq, ↓eChain, ↓aNil, ↓aCons, ↓lCons, ↓kCons, ↓sCons, ↓eTup_eq, ↓eLst_eq, ↓eLc_eq, ↓eLc2_eq, ↓iSeq_eq, ↓Cw.iEnum, ↓iZipD_eq, ↓iRng1D_eq, ↓iRng2D, ↓eLRg, ↓eTRg, ↓rg1_eq, ↓rg2, ↓eSl, ↓oNone, ↓oSome_eq, ↓eCallB, ↓getAll, ↓eCall, ↓callM, gather, scatter, muI, toRV, ↓eMake, ↓makeM, ↓eMeth_eq, ↓eFld_eq, ↓eMut_eq, ↓eMutG_eq, ↓eDnew, finR, muOf, List.set, ↓gN, ↓fstep, ↓gT, ↓gsCons, ↓gsNil, noMu, wipeE, ↓sPre_eq, ↓iPre_eq, ↓sFgt, ↓sFrz, fgt_nx, fgt_ct, fgt_rt, fgt_bk, fgt_exc, fgt_bad, frz_nx, frz_ct, frz_rt, frz_bk, frz_exc, frz_bad, frzE_nil, frzE_cons, ↓sRaise, ↓sTry, fixT, List.all_cons, List.all_nil, Bool.and_true, Bool.true_and, Bool.not_false, Bool.not_true, if_true, if_false, ite_true, ite_false, Bool.false_eq_true, reduceIte, reduceCtorEq, List.nodup_cons, List.nodup_nil, List.not_mem_nil, not_false_eq_true, and_self, and_true, true_and, List.mem_cons, List.mem_singleton, or_false, decide_true, decide_false, List.getElem?_cons_zero, List.getElem?_cons_succ, dEq_int, dNe_int, dEq_str, dCmp_int, dAdd_int, dSub_int, dInt_int, dAbs_int, dLen_lst, dLen_tup, dList_lst, dList_tup, dTuple_lst, dTuple_tup, dIxD_lst, dIxD_tup, dInD_lst, dInD_tup, ht]; rfl, fun _ => ⟨rfl, x', y', z', hb, rfl⟩, fun _ => ⟨_, rfl, rfl, x', y', z', hb, rfl⟩⟩)
  refine ⟨ys, x', y', z', ?_, h3, h2⟩
  have hy : ys.length ≤ sizeLine := Nat.le_trans h3.length_le hz
  simp only [m_law_some, g_law_some, ↓fnOf, initE, List.replicate, List.length_cons, List.length_nil, List.cons_append, List.nil_append, Nat.sub_self, Nat.reduceSub, Nat.reduceAdd, ↓sSeq, ↓sIf_eq, ↓sSet, ↓sRet, ↓sRetN, ↓sExpr, ↓sNil, ↓sNever, ↓sFor, ↓sAsg, ↓sFldS, ↓sAugIx, ↓sSetIx, ↓putIx, ↓sPar2, ↓sPar3, ↓M.then, ↓bind_eq, ↓M.ret, ↓M.bad, ↓M.get, ↓M.esc, ↓M.arg, ↓M.nrm, ↓M.res, ↓M.wipe, look, getE, ↓put, isMu_eq, muB_none, muB_sh, muB_ow, muB_mu, ↓eVar, ↓eC, ↓eOp1, ↓eOp2, ↓eBool_eq, ↓eAnd_eq, ↓eOr_eq, ↓eNot, ↓eAndV_eq, ↓eOrV_eq, ↓eNotV_eq, ↓eIf_eq, ↓eChain, ↓aNil, ↓aCons, ↓lCons, ↓kCons, ↓sCons, ↓eTup_eq, ↓eLst_eq, ↓eLc_eq, ↓eLc2_eq, ↓iSeq_eq, ↓Cw.iEnum, ↓iZipD_eq, ↓iRng1D_eq, ↓iRng2D, ↓eLRg, ↓eTRg, ↓rg1_eq, ↓rg2, ↓eSl, ↓oNone, ↓oSome_eq, ↓eCallB, ↓getAll, ↓eCall, ↓callM, gather, scatter, muI, toRV, ↓eMake, ↓makeM, ↓eMeth_eq, ↓eFld_eq, ↓eMut_eq, ↓eMutG_eq, ↓eDnew, finR, muOf, List.set, ↓gN, ↓fstep, ↓gT, ↓gsCons, ↓gsNil, noMu, wipeE, ↓sPre_eq, ↓iPre_eq, ↓sFgt, ↓sFrz, fgt_nx, fgt_ct, fgt_rt, fgt_bk, fgt_exc, fgt_bad, frz_nx, frz_ct, frz_rt, frz_bk, frz_exc, frz_bad, frzE_nil, frzE_cons, ↓sRaise, ↓sTry, fixT, List.all_cons, List.all_nil, Bool.and_true, Bool.true_and, Bool.not_false, Bool.not_true, if_true, if_false, ite_true, ite_false, Bool.false_eq_true, reduceIte, reduceCtorEq, List.nodup_cons, List.nodup_nil, List.not_mem_nil, not_false_eq_true, and_self, and_true, true_and, List.mem_cons, List.mem_singleton, or_false, decide_true, decide_false, List.getElem?_cons_zero, List.getElem?_cons_succ, dEq_int, dNe_int, dEq_str, dCmp_int, dAdd_int, dSub_int, dInt_int, dAbs_int, dLen_lst, dLen_tup, dList_lst, dList_tup, dTuple_lst, dTuple_tup, dIxD_lst, dIxD_tup, dInD_lst, dInD_tup, ↓h1, hy]
end Cw

namespace Cw
open PySem L2
variable (a : Nat → Addr)
theorem job_ok {x y z : Int} {cs : List Int} {n : Nat} (h : BagOk x y z cs) (hn : n ≤ 7) :
    ∃ g x' y' z', m_law_job a [bagD x y z cs, .int (n : Int)] = .ok (false, .tup (ii g)) [bagD x' y' z' cs] ∧ Row n g ∧ BagOk x' y' z' cs := by
  obtain ⟨v, x1, y1, z1, t1, v0, v1, b1⟩ := take_ok a h (many := 6) (by decide) (by decide)
  have hr := rgOk_nat n (by omega)
  have hs : (ii (rg n)).length ≤ sizeLine := by rw [ii_length, rg_length]; exact Nat.le_trans hn (by decide)
  by_cases c1 : v = 0
  · refine ⟨rg n, x1, y1, z1, ?_, List.Sublist.refl _, b1⟩
    simp only [m_law_job, g_law_job, ↓fnOf, initE, List.replicate, List.length_cons, List.length_nil, List.cons_append, List.nil_append, Nat.sub_self, Nat.reduceSub, Nat.reduceAdd, ↓sSeq, ↓sIf_eq, ↓sSet, ↓sRet, ↓sRetN, ↓sExpr, ↓sNil, ↓sNever, ↓sFor, ↓sAsg, ↓sFldS, ↓sAugIx, ↓sSetIx, ↓putIx, ↓sPar2, ↓sPar3, ↓M.then, ↓bind_eq, ↓M.ret, ↓M.bad, ↓M.get, ↓M.esc, ↓M.arg, ↓M.nrm, ↓M.res, ↓M.wipe, look, getE, ↓put, isMu_eq, muB_none, muB_sh, muB_ow, muB_mu, ↓eVar, ↓eC, ↓eOp1, ↓eOp2, ↓eBool_eq, ↓eAnd_eq, ↓eOr_eq, ↓eNot, ↓eAndV_eq, ↓eOrV_eq, ↓eNotV_eq, ↓eIf_eq, ↓eChain, ↓aNil, ↓aCons, ↓lCons, ↓kCons, ↓sCons, ↓eTup_eq, ↓eLst_eq, ↓eLc_eq, ↓eLc2_eq, ↓iSeq_eq, ↓Cw.iEnum, ↓iZipD_eq, ↓iRng1D_eq, ↓iRng2D, ↓eLRg, ↓eTRg, ↓rg1_eq, ↓rg2, ↓eSl, ↓oNone, ↓oSome_eq, ↓eCallB, ↓getAll, ↓eCall, ↓callM, gather, scatter, muI, toRV, ↓eMake, ↓makeM, ↓eMeth_eq, ↓eFld_eq, ↓eMut_eq, ↓eMutG_eq, ↓eDnew, finR, muOf, List.set, ↓gN, ↓fstep, ↓gT, ↓gsCons, ↓gsNil, noMu, wipeE, ↓sPre_eq, ↓iPre_eq, ↓sFgt, ↓sFrz, fgt_nx, fgt_ct, fgt_rt, fgt_bk, fgt_exc, fgt_bad, frz_nx, frz_ct, frz_rt, frz_bk, frz_exc, frz_bad, frzE_nil, frzE_cons, ↓sRaise, ↓sTry, fixT, List.all_cons, List.all_nil, Bool.and_true, Bool.true_and, Bool.not_false, Bool.not_true, if_true, if_false, ite_true, ite_false, Bool.false_eq_true, reduceIte, reduceCtorEq, List.nodup_cons, List.nodup_nil, List.not_mem_nil, not_false_eq_true, and_self, and_true, true_and, List.mem_cons, List.mem_singleton, or_false, decide_true, decide_false, List.getElem?_cons_zero, List.getElem?_cons_succ, dEq_int, dNe_int, dEq_str, dCmp_int, dAdd_int, dSub_int, dInt_int, dAbs_int, dLen_lst, dLen_tup, dList_lst, dList_tup, dTuple_lst, dTuple_tup, dIxD_lst, dIxD_tup, dInD_lst, dInD_tup, t1, c1, hr, rg_to, rangeD_rg]
  · obtain ⟨ys, x2, y2, z2, t2, s2, b2⟩ := some_lst a b1 hs
    obtain ⟨g, rfl, g2⟩ := sub_ii s2
    have hs2 : (ii g).length ≤ sizeLine := Nat.le_trans s2.length_le hs
    by_cases c2 : v < 3
    · obtain ⟨ys, x3, y3, z3, t3, s3, b3⟩ := some_lst a b2 hs2
      obtain ⟨g', rfl, g3⟩ := sub_ii s3
      refine ⟨g', x3, y3, z3, ?_, g3.trans g2, b3⟩
      simp only [m_law_job, g_law_job, ↓fnOf, initE, List.replicate, List.length_cons, List.length_nil, List.cons_append, List.nil_append, Nat.sub_self, Nat.reduceSub, Nat.reduceAdd, ↓sSeq, ↓sIf_eq, ↓sSet, ↓sRet, ↓sRetN, ↓sExpr, ↓sNil, ↓sNever, ↓sFor, ↓sAsg, ↓sFldS, ↓sAugIx, ↓sSetIx, ↓putIx, ↓sPar2, ↓sPar3, ↓M.then, ↓bind_eq, ↓M.ret, ↓M.bad, ↓M.get, ↓M.esc, ↓M.arg, ↓M.nrm, ↓M.res, ↓M.wipe, look, getE, ↓put, isMu_eq, muB_none, muB_sh, muB_ow, muB_mu, ↓eVar, ↓eC, ↓eOp1, ↓eOp2, ↓eBool_eq, ↓eAnd_eq, ↓eOr_eq, ↓eNot, ↓eAndV_eq, ↓eOrV_eq, ↓eNotV_eq, ↓eIf_eq, ↓eChain, ↓aNil, ↓aCons, ↓lCons, ↓kCons, ↓sCons, ↓eTup_eq, ↓eLst_eq, ↓eLc_eq, ↓eLc2_eq, ↓iSeq_eq, ↓Cw.iEnum, ↓iZipD_eq, ↓iRng1D_eq, ↓iRng2D, ↓eLRg, ↓eTRg, ↓rg1_eq, ↓rg2, ↓eSl, ↓oNone, ↓oSome_eq, ↓eCallB, ↓getAll, ↓eCall, ↓callM, gather, scatter, muI, toRV, ↓eMake, ↓makeM, ↓eMeth_eq, ↓eFld_eq, ↓eMut_eq, ↓eMutG_eq, ↓eDnew, finR, muOf, List.set, ↓gN, ↓fstep, ↓gT, ↓gsCons, ↓gsNil, noMu, wipeE, ↓sPre_eq, ↓iPre_eq, ↓sFgt, ↓sFrz, fgt_nx, fgt_ct, fgt_rt, fgt_bk, fgt_exc, fgt_bad, frz_nx, frz_ct, frz_rt, frz_bk, frz_exc, frz_bad, frzE_nil, frzE_cons, ↓sRaise, ↓sTry, fixT, List.all_cons, List.all_nil, Bool.and_true, Bool.true_and, Bool.not_false, Bool.not_true, if_true, if_false, ite_true, ite_false, Bool.false_eq_true, reduceIte, reduceCtorEq, List.nodup_cons, List.nodup_nil, List.not_mem_nil, not_false_eq_true, and_self, and_true, true_and, List.mem_cons, List.mem_singleton, or_false, decide_true, decide_false, List.getElem?_cons_zero, List.getElem?_cons_succ, dEq_int, dNe_int, dEq_str, dCmp_int, dAdd_int, dSub_int, dInt_int, dAbs_int, dLen_lst, dLen_tup, dList_lst, dList_tup, dTuple_lst, dTuple_tup, dIxD_lst, dIxD_tup, dInD_lst, dInD_tup, t1, c1, hr, rg_to, rangeD_rg, t2, t3, c2]
    · refine ⟨g, x2, y2, z2, ?_, g2, b2⟩
      simp only [m_law_job, g_law_job, ↓fnOf, initE, List.replicate, List.length_cons, List.length_nil, List.cons_append, List.nil_append, Nat.sub_self, Nat.reduceSub, Nat.reduceAdd, ↓sSeq, ↓sIf_eq, ↓sSet, ↓sRet, ↓sRetN, ↓sExpr, ↓sNil, ↓sNever, ↓sFor, ↓sAsg, ↓sFldS, ↓sAugIx, ↓sSetIx, ↓putIx, ↓sPar2, ↓sPar3, ↓M.then, ↓bind_eq, ↓M.ret, ↓M.bad, ↓M.get, ↓M.esc, ↓M.arg, ↓M.nrm, ↓M.res, ↓M.wipe, look, getE, ↓put, isMu_eq, muB_none, muB_sh, muB_ow, muB_mu, ↓eVar, ↓eC, ↓eOp1, ↓eOp2, ↓eBool_eq, ↓eAnd_eq, ↓eOr_eq, ↓eNot, ↓eAndV_eq, ↓eOrV_eq, ↓eNotV_eq, ↓eIf_eq, ↓eChain, ↓aNil, ↓aCons, ↓lCons, ↓kCons, ↓sCons, ↓eTup_eq, ↓eLst_eq, ↓eLc_eq, ↓eLc2_eq, ↓iSeq_eq, ↓Cw.iEnum, ↓iZipD_eq, ↓iRng1D_eq, ↓iRng2D, ↓eLRg, ↓eTRg, ↓rg1_eq, ↓rg2, ↓eSl, ↓oNone, ↓oSome_eq, ↓eCallB, ↓getAll, ↓eCall, ↓callM, gather, scatter, muI, toRV, ↓eMake, ↓makeM, ↓eMeth_eq, ↓eFld_eq, ↓eMut_eq, ↓eMutG_eq, ↓eDnew, finR, muOf, List.set, ↓gN, ↓fstep, ↓gT, ↓gsCons, ↓gsNil, noMu, wipeE, ↓sPre_eq, ↓iPre_eq, ↓sFgt, ↓sFrz, fgt_nx, fgt_ct, fgt_rt, fgt_bk, fgt_exc, fgt_bad, frz_nx, frz_ct, frz_rt, frz_bk, frz_exc, frz_bad, frzE_nil, frzE_cons, ↓sRaise, ↓sTry, fixT, List.all_cons, List.all_nil, Bool.and_true, Bool.true_and, Bool.not_false, Bool.not_true, if_true, if_false, ite_true, ite_false, Bool.false_eq_true, reduceIte, reduceCtorEq, List.nodup_cons, List.nodup_nil, List.not_mem_nil, not_false_eq_true, and_self, and_true, true_and, List.mem_cons, List.mem_singleton, or_false, decide_true, decide_false, List.getElem?_cons_zero, List.getElem?_cons_succ, dEq_int, dNe_int, dEq_str, dCmp_int, dAdd_int, dSub_int, dInt_int, dAbs_int, dLen_lst, dLen_tup, dList_lst, dList_tup, dTuple_lst, dTuple_tup, dIxD_lst, dIxD_tup, dInD_lst, dInD_tup, t1, c1, hr, rg_to, rangeD_rg, t2, c2]
theorem jobs_ok {x y z : Int} {cs : List Int} {n m : Nat} (h : BagOk x y z cs) (hn : n ≤ 7) (hm : m ≤ 7) :
    ∃ rs x' y' z', m_law_jobs a [bagD x y z cs, .int (n : Int), .int (m : Int)] = .ok (true, .lst (gs rs)) [bagD x' y' z' cs] ∧ rs.length ≤ m ∧ (∀ r, r ∈ rs → Row n r) ∧ BagOk x' y' z' cs := by
  obtain ⟨v, x1, y1, z1, t1, v0, v1, b1⟩ := take_ok a h (many := (m : Int) + 1) (by omega) (by omega)
  obtain ⟨k, rfl⟩ := Int.eq_ofNat_of_zero_le v0
  have hk : k ≤ m := by omega
  obtain ⟨e', h1, rs, x2, y2, z2, b2, r2, l2, rfl⟩ := forS_inv (a := gN 4) (b := b_law_jobs_0 a)
    (fun done e => ∃ rs x y z, BagOk x y z cs ∧ (∀ r, r ∈ rs → Row n r) ∧ rs.length = done.length ∧ e = [some (Fl.mu, bagD x y z cs), some (Fl.sh, .int (n : Int)), none, some (Fl.ow, .lst (gs rs)), none])
    (ds := ii (rg k)) (e := [some (Fl.mu, bagD x1 y1 z1 cs), some (Fl.sh, .int (n : Int)), none, some (Fl.ow, .lst []), none])
    ⟨[], x1, y1, z1, b1, fun _ q => absurd q List.not_mem_nil, rfl, rfl⟩ (by
      rintro d pre post e hsplit ⟨rs, x, y, z, hb, hrs, hl, rfl⟩
      have hlen : pre.length < 7 := by
        have := congrArg List.length hsplit
        simp only [List.length_append, List.length_cons, ii_length, rg_length] at this
        omega
      have hz0 : 0 ≤ sizeLine := Nat.zero_le _
      have hap : ∀ y, dApp (gs rs) [y] = some (gs rs ++ [y]) := fun y => dApp_one _ y (by rw [gs_length, hl]; exact Nat.lt_trans hlen (by decide))
      have hne := dNe_nil (rows_nice hrs (by omega)) (by decide)
      by_cases c1 : rs = []
      · subst c1
        obtain ⟨g, x3, y3, z3, t3, r3, b3⟩ := job_ok a hb hn
        refine ⟨_, ?_, [g], x3, y3, z3, b3, by simpa using r3, by rw [List.length_append, ← hl]; rfl, rfl⟩
        have hap := hap (.tup (ii g))
        have e1 : (gs ([] : List (List Int))).isEmpty = true := rfl
        simp only [b_law_jobs_0, ↓fnOf, initE, List.replicate, List.length_cons, List.length_nil, List.cons_append, List.nil_append, Nat.sub_self, Nat.reduceSub, Nat.reduceAdd, ↓sSeq, ↓sIf_eq, ↓sSet, ↓sRet, ↓sRetN, ↓sExpr, ↓sNil, ↓sNever, ↓sFor, ↓sAsg, ↓sFldS, ↓sAugIx, ↓sSetIx, ↓putIx, ↓sPar2, ↓sPar3, ↓M.then, ↓bind_eq, ↓M.ret, ↓M.bad, ↓M.get, ↓M.esc, ↓M.arg, ↓M.nrm, ↓M.res, ↓M.wipe, look, getE, ↓put, isMu_eq, muB_none, muB_sh, muB_ow, muB_mu, ↓eVar, ↓eC, ↓eOp1, ↓eOp2, ↓eBool_eq, ↓eAnd_eq, ↓eOr_eq, ↓eNot, ↓eAndV_eq, ↓eOrV_eq, ↓eNotV_eq, ↓eIf_eq, ↓eChain, ↓aNil, ↓aCons, ↓lCons, ↓kCons, ↓sCons, ↓eTup_eq, ↓eLst_eq, ↓eLc_eq, ↓eLc2_eq, ↓iSeq_eq, ↓Cw.iEnum, ↓iZipD_eq, ↓iRng1D_eq, ↓iRng2D, ↓eLRg, ↓eTRg, ↓rg1_eq, ↓rg2, ↓eSl, ↓oNone, ↓oSome_eq, ↓eCallB, ↓getAll, ↓eCall, ↓callM, gather, scatter, muI, toRV, ↓eMake, ↓makeM, ↓eMeth_eq, ↓eFld_eq, ↓eMut_eq, ↓eMutG_eq, ↓eDnew, finR, muOf, List.set, ↓gN, ↓fstep, ↓gT, ↓gsCons, ↓gsNil, noMu, wipeE, ↓sPre_eq, ↓iPre_eq, ↓sFgt, ↓sFrz, fgt_nx, fgt_ct, fgt_rt, fgt_bk, fgt_exc, fgt_bad, frz_nx, frz_ct, frz_rt, frz_bk, frz_exc, frz_bad, frzE_nil, frzE_cons, ↓sRaise, ↓sTry, fixT, List.all_cons, List.all_nil, Bool.and_true, Bool.true_and, Bool.not_false, Bool.not_true, if_true, if_false, ite_true, ite_false, Bool.false_eq_true, reduceIte, reduceCtorEq, List.nodup_cons, List.nodup_nil, List.not_mem_nil, not_false_eq_true, and_self, and_true, true_and, List.mem_cons, List.mem_singleton, or_false, decide_true, decide_false, List.getElem?_cons_zero, List.getElem?_cons_succ, dEq_int, dNe_int, dEq_str, dCmp_int, dAdd_int, dSub_int, dInt_int, dAbs_int, dLen_lst, dLen_tup, dList_lst, dList_tup, dTuple_lst, dTuple_tup, dIxD_lst, dIxD_tup, dInD_lst, dInD_tup, hne, e1, t3, hap, hz0]
        rfl
      · have hpos : 0 < (gs rs).length := by rw [gs_length]; exact List.length_pos_iff.mpr c1
        have hem : (gs rs).isEmpty = false := by
          cases rs with
          | nil => exact absurd rfl c1
          | cons _ _ => rfl
        obtain ⟨v, x2, y2, z2, t2, w0, w1, b2⟩ := take_ok a hb (many := 5) (by decide) (by decide)
        by_cases c2 : v = 0
        · obtain ⟨d2, x3, y3, z3, t3, m3, b3⟩ := one_ok a (xs := gs rs) b2 hpos (by rw [gs_length, hl]; omega)
          obtain ⟨g, hg, rfl⟩ := List.mem_map.mp m3
          refine ⟨_, ?_, rs ++ [g], x3, y3, z3, b3, ?_, by simp [hl], rfl⟩
          · have hap := hap (.tup (ii g))
            simp only [b_law_jobs_0, ↓fnOf, initE, List.replicate, List.length_cons, List.length_nil, List.cons_append, List.nil_append, Nat.sub_self, Nat.reduceSub, Nat.reduceAdd, ↓sSeq, ↓sIf_eq, ↓sSet, ↓sRet, ↓sRetN, ↓sExpr, ↓sNil, ↓sNever, ↓sFor, ↓sAsg, ↓sFldS, ↓sAugIx, ↓sSetIx, ↓putIx, ↓sPar2, ↓sPar3, ↓M.then, ↓bind_eq, ↓M.ret, ↓M.bad, ↓M.get, ↓M.esc, ↓M.arg, ↓M.nrm, ↓M.res, ↓M.wipe, look, getE, ↓put, isMu_eq, muB_none, muB_sh, muB_ow, muB_mu, ↓eVar, ↓eC, ↓eOp1, ↓eOp2, ↓eBool_eq, ↓eAnd_eq, ↓eOr_eq, ↓eNot, ↓eAndV_eq, ↓eOrV_eq, ↓eNotV_eq, ↓eIf_eq, ↓eChain, ↓aNil, ↓aCons, ↓lCons, ↓kCons, ↓sCons, ↓eTup_eq, ↓eLst_eq, ↓eLc_eq, ↓eLc2_eq, ↓iSeq_eq, ↓Cw.iEnum, ↓iZipD_eq, ↓iRng1D_eq, ↓iRng2D, ↓eLRg, ↓eTRg, ↓rg1_eq, ↓rg2, ↓eSl, ↓oNone, ↓oSome_eq, ↓eCallB, ↓getAll, ↓eCall, ↓callM, gather, scatter, muI, toRV, ↓eMake, ↓makeM, ↓eMeth_eq, ↓eFld_eq, ↓eMut_eq, ↓eMutG_eq, ↓eDnew, finR, muOf, List.set, ↓gN, ↓fstep, ↓gT, ↓gsCons, ↓gsNil, noMu, wipeE, ↓sPre_eq, ↓iPre_eq, ↓sFgt, ↓sFrz, fgt_nx, fgt_ct, fgt_rt, fgt_bk, fgt_exc, fgt_bad, frz_nx, frz_ct, frz_rt, frz_bk, frz_exc, frz_bad, frzE_nil, frzE_cons, ↓sRaise, ↓sTry, fixT, List.all_cons, List.all_nil, Bool.and_true, Bool.true_and, Bool.not_false, Bool.not_true, if_true, if_false, ite_true, ite_false, Bool.false_eq_true, reduceIte, reduceCtorEq, List.nodup_cons, List.nodup_nil, List.not_mem_nil, not_false_eq_true, and_self, and_true, true_and, List.mem_cons, List.mem_singleton, or_false, decide_true, decide_false, List.getElem?_cons_zero, List.getElem?_cons_succ, dEq_int, dNe_int, dEq_str, dCmp_int, dAdd_int, dSub_int, dInt_int, dAbs_int, dLen_lst, dLen_tup, dList_lst, dList_tup, dTuple_lst, dTuple_tup, dIxD_lst, dIxD_tup, dInD_lst, dInD_tup, hne, hem, t2, t3, c2, hap, hz0]
            simp [gs]
          · intro r hr
            rcases List.mem_append.mp hr with q | q
            · exact hrs r q
            · rw [List.mem_singleton.mp q]; exact hrs g hg
        · obtain ⟨g, x3, y3, z3, t3, r3, b3⟩ := job_ok a b2 hn
          refine ⟨_, ?_, rs ++ [g], x3, y3, z3, b3, ?_, by simp [hl], rfl⟩
          · have hap := hap (.tup (ii g))
            simp only [b_law_jobs_0, ↓fnOf, initE, List.replicate, List.length_cons, List.length_nil, List.cons_append, List.nil_append, Nat.sub_self, Nat.reduceSub, Nat.reduceAdd, ↓sSeq, ↓sIf_eq, ↓sSet, ↓sRet, ↓sRetN, ↓sExpr, ↓sNil, ↓sNever, ↓sFor, ↓sAsg, ↓sFldS, ↓sAugIx, ↓sSetIx, ↓putIx, ↓sPar2, ↓sPar3, ↓M.then, ↓bind_eq, ↓M.ret, ↓M.bad, ↓M.get, ↓M.esc, ↓M.arg, ↓M.nrm, ↓M.res, ↓M.wipe, look, getE, ↓put, isMu_eq, muB_none, muB_sh, muB_ow, muB_mu, ↓eVar, ↓eC, ↓eOp1, ↓eOp2, ↓eBool_eq, ↓eAnd_eq, ↓eOr_eq, ↓eNot, ↓eAndV_eq, ↓eOrV_eq, ↓eNotV_eq, ↓eIf_eq, ↓eChain, ↓aNil, ↓aCons, ↓lCons, ↓kCons, ↓sCons, ↓eTup_eq, ↓eLst_eq, ↓eLc_eq, ↓eLc2_eq, ↓iSeq_eq, ↓Cw.iEnum, ↓iZipD_eq, ↓iRng1D_eq, ↓iRng2D, ↓eLRg, ↓eTRg, ↓rg1_eq, ↓rg2, ↓eSl, ↓oNone, ↓oSome_eq, ↓eCallB, ↓getAll, ↓eCall, ↓callM, gather, scatter, muI, toRV, ↓eMake, ↓makeM, ↓eMeth_eq, ↓eFld_eq, ↓eMut_eq, ↓eMutG_eq, ↓eDnew, finR, muOf, List.set, ↓gN, ↓fstep, ↓gT, ↓gsCons, ↓gsNil, noMu, wipeE, ↓sPre_eq, ↓iPre_eq, ↓sFgt, ↓sFrz, fgt_nx, fgt_ct, fgt_rt, fgt_bk, fgt_exc, fgt_bad, frz_nx, frz_ct, frz_rt, frz_bk, frz_exc, frz_bad, frzE_nil, frzE_cons, ↓sRaise, ↓sTry, fixT, List.all_cons, List.all_nil, Bool.and_true, Bool.true_and, Bool.not_false, Bool.not_true, if_true, if_false, ite_true, ite_false, Bool.false_eq_true, reduceIte, reduceCtorEq, List.nodup_cons, List.nodup_nil, List.not_mem_nil, not_false_eq_true, and_self, and_true, true_and, List.mem_cons, List.mem_singleton, or_false, decide_true, decide_false, List.getElem?_cons_zero, List.getElem?_cons_succ, dEq_int, dNe_int, dEq_str, dCmp_int, dAdd_int, dSub_int, dInt_int, dAbs_int, dLen_lst, dLen_tup, dList_lst, dList_tup, dTuple_lst, dTuple_tup, dIxD_lst, dIxD_tup, dInD_lst, dInD_tup, hne, hem, t2, t3, c2, hap, hz0]
            simp [gs]
          · intro r hr
            rcases List.mem_append.mp hr with q | q
            · exact hrs r q
            · rw [List.mem_singleton.mp q]; exact r3)
  refine ⟨rs, x2, y2, z2, ?_, ?_, r2, b2⟩
  · have h62 := in62_nat k (by omega)
    have hz0 : 0 ≤ sizeLine := Nat.zero_le _
    simp only [m_law_jobs, g_law_jobs, ↓fnOf, initE, List.replicate, List.length_cons, List.length_nil, List.cons_append, List.nil_append, Nat.sub_self, Nat.reduceSub, Nat.reduceAdd, ↓sSeq, ↓sIf_eq, ↓sSet, ↓sRet, ↓sRetN, ↓sExpr, ↓sNil, ↓sNever, ↓sFor, ↓sAsg, ↓sFldS, ↓sAugIx, ↓sSetIx, ↓putIx, ↓sPar2, ↓sPar3, ↓M.then, ↓bind_eq, ↓M.ret, ↓M.bad, ↓M.get, ↓M.esc, ↓M.arg, ↓M.nrm, ↓M.res, ↓M.wipe, look, getE, ↓put, isMu_eq, muB_none, muB_sh, muB_ow, muB_mu, ↓eVar, ↓eC, ↓eOp1, ↓eOp2, ↓eBool_eq, ↓eAnd_eq, ↓eOr_eq, ↓eNot, ↓eAndV_eq, ↓eOrV_eq, ↓eNotV_eq, ↓eIf_eq, ↓eChain, ↓aNil, ↓aCons, ↓lCons, ↓kCons, ↓sCons, ↓eTup_eq, ↓eLst_eq, ↓eLc_eq, ↓eLc2_eq, ↓iSeq_eq, ↓Cw.iEnum, ↓iZipD_eq, ↓iRng1D_eq, ↓iRng2D, ↓eLRg, ↓eTRg, ↓rg1_eq, ↓rg2, ↓eSl, ↓oNone, ↓oSome_eq, ↓eCallB, ↓getAll, ↓eCall, ↓callM, gather, scatter, muI, toRV, ↓eMake, ↓makeM, ↓eMeth_eq, ↓eFld_eq, ↓eMut_eq, ↓eMutG_eq, ↓eDnew, finR, muOf, List.set, ↓gN, ↓fstep, ↓gT, ↓gsCons, ↓gsNil, noMu, wipeE, ↓sPre_eq, ↓iPre_eq, ↓sFgt, ↓sFrz, fgt_nx, fgt_ct, fgt_rt, fgt_bk, fgt_exc, fgt_bad, frz_nx, frz_ct, frz_rt, frz_bk, frz_exc, frz_bad, frzE_nil, frzE_cons, ↓sRaise, ↓sTry, fixT, List.all_cons, List.all_nil, Bool.and_true, Bool.true_and, Bool.not_false, Bool.not_true, if_true, if_false, ite_true, ite_false, Bool.false_eq_true, reduceIte, reduceCtorEq, List.nodup_cons, List.nodup_nil, List.not_mem_nil, not_false_eq_true, and_self, and_true, true_and, List.mem_cons, List.mem_singleton, or_false, decide_true, decide_false, List.getElem?_cons_zero, List.getElem?_cons_succ, dEq_int, dNe_int, dEq_str, dCmp_int, dAdd_int, dSub_int, dInt_int, dAbs_int, dLen_lst, dLen_tup, dList_lst, dList_tup, dTuple_lst, dTuple_tup, dIxD_lst, dIxD_tup, dInD_lst, dInD_tup, t1, h62, Int.toNat_natCast, rangeD_rg, ↓h1, hz0]
  · rw [l2]; simp only [ii_length, rg_length]; exact hk
end Cw

/-! plain: groups in order, parts, shortages, the least of the greatest -/
namespace Cw
theorem rg_pw (n : Nat) : (rg n).Pairwise (· < ·) := by
  unfold rg
  rw [List.pairwise_map]
  exact List.Pairwise.imp (fun h => by omega) List.pairwise_lt_range
theorem sub_of_mem : ∀ {l2 l1 : List Int}, l1.Pairwise (· < ·) → l2.Pairwise (· < ·) → (∀ i, i ∈ l1 → i ∈ l2) → l1.Sublist l2
  | [], l1, _, _, h => by
    cases l1 with
    | nil => exact .slnil
    | cons x l => exact absurd (h x List.mem_cons_self) List.not_mem_nil
  | y :: l2, [], _, _, _ => List.nil_sublist _
  | y :: l2, x :: l1, h1, h2, h => by
    obtain ⟨a1, b1⟩ := List.pairwise_cons.mp h1
    obtain ⟨a2, b2⟩ := List.pairwise_cons.mp h2
    by_cases e : x = y
    · subst e
      refine (sub_of_mem b1 b2 fun i hi => ?_).cons_cons _
      rcases List.mem_cons.mp (h i (List.mem_cons_of_mem _ hi)) with q | q
      · subst q; exact absurd (a1 i hi) (Int.lt_irrefl _)
      · exact q
    · refine (sub_of_mem h1 b2 fun i hi => ?_).cons _
      rcases List.mem_cons.mp (h i hi) with q | q
      · subst q
        rcases List.mem_cons.mp hi with r | r
        · exact absurd r.symm e
        · have hx := (List.mem_cons.mp (h x List.mem_cons_self)).resolve_left e
          have := a1 i r
          have := a2 x hx
          omega
      · exact q
theorem row_iff {n : Nat} {g : List Int} : Row n g ↔ g.Pairwise (· < ·) ∧ ∀ i, i ∈ g → 0 ≤ i ∧ i < n :=
  ⟨fun h => ⟨(rg_pw n).sublist h, fun i hi => h.lt hi⟩, fun h => sub_of_mem h.1 (rg_pw n) fun i hi => mem_rg.mpr (h.2 i hi)⟩
theorem Row.nodup {n : Nat} {g : List Int} (h : Row n g) : g.Nodup := List.Pairwise.imp (fun h => by omega) (row_iff.mp h).1
theorem Row.nil (n : Nat) : Row n [] := List.nil_sublist _
theorem Row.sub {n : Nat} {g s : List Int} (h : Row n g) (q : s.Sublist g) : Row n s := q.trans h
/-- may p stand behind g -/
def okL (g : List Int) (p : Int) : Bool := match g.getLast? with
  | none => true
  | some q => decide (q < p)
def extG (n : Nat) (g : List Int) : List (List Int) := ((rg n).filter (okL g)).map fun p => g ++ [p]
def lvl (n : Nat) : Nat → List (List Int)
  | 0 => [[]]
  | k + 1 => (lvl n k).flatMap (extG n)
def upto (n : Nat) : Nat → List (List Int)
  | 0 => [[]]
  | k + 1 => upto n k ++ lvl n (k + 1)
def grps (n : Nat) : List (List Int) := upto n n
theorem pw_snoc {g : List Int} {p : Int} : (g ++ [p]).Pairwise (· < ·) ↔ g.Pairwise (· < ·) ∧ okL g p = true := by
  rw [List.pairwise_append]
  constructor
  · rintro ⟨h1, _, h3⟩
    refine ⟨h1, ?_⟩
    unfold okL
    cases w : g.getLast? with
    | none => rfl
    | some q => exact decide_eq_true (h3 q (List.mem_of_getLast? w) p (List.mem_singleton.mpr rfl))
  · rintro ⟨h1, h2⟩
    refine ⟨h1, List.pairwise_singleton _ _, fun x hx y hy => ?_⟩
    rw [List.mem_singleton.mp hy]
    unfold okL at h2
    cases w : g.getLast? with
    | none => rw [List.getLast?_eq_none_iff.mp w] at hx; cases hx
    | some q =>
      rw [w] at h2
      have h2 := of_decide_eq_true h2
      obtain ⟨l, rfl⟩ := List.getLast?_eq_some_iff.mp w
      rcases List.mem_append.mp hx with hx | hx
      · have := (List.pairwise_append.mp h1).2.2 x hx q (List.mem_singleton.mpr rfl)
        omega
      · rw [List.mem_singleton.mp hx]; exact h2
theorem mem_ext {n : Nat} {g s : List Int} (hg : Row n g) : s ∈ extG n g ↔ ∃ p, s = g ++ [p] ∧ Row n s := by
  unfold extG
  rw [List.mem_map]
  constructor
  · rintro ⟨p, hp, rfl⟩
    obtain ⟨h1, h2⟩ := List.mem_filter.mp hp
    have hg := row_iff.mp hg
    refine ⟨p, rfl, row_iff.mpr ⟨pw_snoc.mpr ⟨hg.1, h2⟩, fun i hi => ?_⟩⟩
    rcases List.mem_append.mp hi with q | q
    · exact hg.2 i q
    · rw [List.mem_singleton.mp q]; exact mem_rg.mp h1
  · rintro ⟨p, rfl, hr⟩
    have hr := row_iff.mp hr
    exact ⟨p, List.mem_filter.mpr ⟨mem_rg.mpr (hr.2 p (by simp)), (pw_snoc.mp hr.1).2⟩, rfl⟩
theorem mem_lvl {n : Nat} : ∀ {k : Nat} {g : List Int}, g ∈ lvl n k ↔ g.length = k ∧ Row n g
  | 0, g => by
    show g ∈ [[]] ↔ _
    rw [List.mem_singleton]
    constructor
    · rintro rfl; exact ⟨rfl, Row.nil n⟩
    · rintro ⟨h, _⟩; exact List.length_eq_zero_iff.mp h
  | k + 1, g => by
    show g ∈ (lvl n k).flatMap (extG n) ↔ _
    rw [List.mem_flatMap]
    constructor
    · rintro ⟨s, hs, hg⟩
      obtain ⟨h1, h2⟩ := mem_lvl.mp hs
      obtain ⟨p, rfl, hr⟩ := (mem_ext h2).mp hg
      exact ⟨by simp [h1], hr⟩
    · rintro ⟨h1, h2⟩
      have hne : g ≠ [] := fun e => by rw [e] at h1; cases h1
      have e := List.dropLast_concat_getLast hne
      have hd : Row n g.dropLast := h2.sub (List.dropLast_sublist _)
      exact ⟨g.dropLast, mem_lvl.mpr ⟨by simp [h1], hd⟩, (mem_ext hd).mpr ⟨g.getLast hne, e.symm, h2⟩⟩
theorem mem_upto {n : Nat} : ∀ {k : Nat} {g : List Int}, g ∈ upto n k ↔ g.length ≤ k ∧ Row n g
  | 0, g => by
    show g ∈ lvl n 0 ↔ _
    rw [mem_lvl]; constructor
    · rintro ⟨h, r⟩; exact ⟨by omega, r⟩
    · rintro ⟨h, r⟩; exact ⟨by omega, r⟩
  | k + 1, g => by
    show g ∈ upto n k ++ lvl n (k + 1) ↔ _
    rw [List.mem_append, mem_upto, mem_lvl]
    constructor
    · rintro (⟨h, r⟩ | ⟨h, r⟩)
      · exact ⟨by omega, r⟩
      · exact ⟨by omega, r⟩
    · rintro ⟨h, r⟩
      by_cases e : g.length = k + 1
      · exact .inr ⟨e, r⟩
      · exact .inl ⟨by omega, r⟩
theorem mem_grps {n : Nat} {g : List Int} : g ∈ grps n ↔ Row n g := by
  unfold grps
  rw [mem_upto]
  exact ⟨fun h => h.2, fun h => ⟨h.len, h⟩⟩
theorem upto_asc (n : Nat) : ∀ k, (upto n k).Pairwise fun a b => a.length ≤ b.length
  | 0 => List.pairwise_singleton _ _
  | k + 1 => by
    show (upto n k ++ lvl n (k + 1)).Pairwise _
    refine List.pairwise_append.mpr ⟨upto_asc n k, ?_, fun a ha b hb => ?_⟩
    · refine List.pairwise_of_forall_mem_list fun a ha b hb => ?_
      rw [(mem_lvl.mp ha).1, (mem_lvl.mp hb).1]; exact Nat.le_refl _
    · have := (mem_upto.mp ha).1
      rw [(mem_lvl.mp hb).1]; omega
theorem lvl_len (n : Nat) : ∀ k, (lvl n k).length ≤ n ^ k
  | 0 => by show 1 ≤ n ^ 0; simp
  | k + 1 => by
    show ((lvl n k).flatMap (extG n)).length ≤ _
    have h := lvl_len n k
    have key : ∀ l : List (List Int), (l.flatMap (extG n)).length ≤ l.length * n := by
      intro l
      induction l with
      | nil => simp
      | cons x l ih =>
        rw [List.flatMap_cons, List.length_append, List.length_cons, Nat.succ_mul]
        have : (extG n x).length ≤ n := by
          unfold extG
          rw [List.length_map]
          exact Nat.le_trans (List.length_filter_le _ _) (by rw [rg_length]; exact Nat.le_refl _)
        omega
    exact Nat.le_trans (key _) (by rw [Nat.pow_succ]; exact Nat.mul_le_mul_right _ h)
theorem upto_len {n : Nat} (hn : n ≤ 7) : ∀ k, k ≤ 7 → (upto n k).length ≤ (k + 1) * 823543
  | 0, _ => by show 1 ≤ _; omega
  | k + 1, hk => by
    show (upto n k ++ lvl n (k + 1)).length ≤ _
    rw [List.length_append]
    have h1 := upto_len hn k (by omega)
    have h2 := lvl_len n (k + 1)
    have h3 : n ^ (k + 1) ≤ 7 ^ (k + 1) := Nat.pow_le_pow_left hn _
    have h4 : 7 ^ (k + 1) ≤ 7 ^ 7 := Nat.pow_le_pow_right (by decide) hk
    have h5 : (7 : Nat) ^ 7 = 823543 := by decide
    omega
theorem grps_len {n : Nat} (hn : n ≤ 7) : (grps n).length ≤ 6588344 := by
  have := upto_len hn n hn
  have h2 : (n + 1) * 823543 ≤ 8 * 823543 := Nat.mul_le_mul_right _ (by omega)
  unfold grps
  omega
/-! ### parts -/
def pk (g pl : List Int) : List Int := pl.map fun i => g.getD i.toNat 0
def prts (g : List Int) : List (List Int) := (grps g.length).map (pk g)
theorem pk_rg (g : List Int) : pk g (rg g.length) = g := by
  unfold pk rg
  rw [List.map_map]
  apply List.ext_getElem
  · simp
  · intro i h1 h2
    simp [List.getD_eq_getElem?_getD, List.getElem?_eq_getElem h2]
theorem mem_prts {g s : List Int} : s ∈ prts g ↔ s.Sublist g := by
  unfold prts
  rw [List.mem_map]
  constructor
  · rintro ⟨pl, hp, rfl⟩
    have h := (mem_grps.mp hp)
    have := h.map fun i => g.getD i.toNat 0
    have e : (rg g.length).map (fun i => g.getD i.toNat 0) = g := pk_rg g
    rw [e] at this
    exact this
  · intro h
    rw [← pk_rg g] at h
    obtain ⟨pl, h1, h2⟩ := List.sublist_map_iff.mp h
    exact ⟨pl, mem_grps.mpr h1, h2.symm⟩
theorem prts_asc (g : List Int) : (prts g).Pairwise fun a b => a.length ≤ b.length := by
  unfold prts
  rw [List.pairwise_map]
  refine List.Pairwise.imp (fun {a b} h => ?_) (upto_asc g.length g.length)
  unfold pk
  rw [List.length_map, List.length_map]; exact h
end Cw

/-! plain: shortages; the least part with the greatest shortage; placeable groups -/
namespace Cw
def hitB (g r : List Int) : Bool := g.any fun p => decide (p ∈ r)
def cnt (rs : List (List Int)) (g : List Int) : Nat := rs.countP (hitB g)
/-- by how many a group exceeds its jobs -/
def df (rs : List (List Int)) (g : List Int) : Int := (g.length : Int) - cnt rs g
theorem hitB_iff {g r : List Int} : hitB g r = true ↔ ∃ p, p ∈ g ∧ p ∈ r := by
  unfold hitB
  simp [List.any_eq_true]
theorem cnt_mono {rs : List (List Int)} {s g : List Int} (h : ∀ p, p ∈ s → p ∈ g) : cnt rs s ≤ cnt rs g := by
  unfold cnt
  refine List.countP_mono_left fun r _ q => ?_
  obtain ⟨p, h1, h2⟩ := hitB_iff.mp q
  exact hitB_iff.mpr ⟨p, h p h1, h2⟩
theorem countP_or_and {α : Type} (p q : α → Bool) : ∀ l : List α, l.countP (fun x => p x || q x) + l.countP (fun x => p x && q x) = l.countP p + l.countP q
  | [] => rfl
  | x :: l => by
    have ih := countP_or_and p q l
    simp only [List.countP_cons]
    cases p x <;> cases q x <;> simp <;> omega
/-- the union and the meet within g -/
def uni (g s t : List Int) : List Int := g.filter fun p => decide (p ∈ s) || decide (p ∈ t)
def mee (g s t : List Int) : List Int := g.filter fun p => decide (p ∈ s) && decide (p ∈ t)
theorem filter_self : ∀ {g s : List Int}, g.Nodup → s.Sublist g → g.filter (fun p => decide (p ∈ s)) = s
  | _, _, _, .slnil => rfl
  | x :: g, s, h, .cons _ q => by
    obtain ⟨h1, h2⟩ := List.nodup_cons.mp h
    have hx : x ∉ s := fun z => h1 (q.subset z)
    rw [List.filter_cons, if_neg (by simpa using hx)]
    exact filter_self h2 q
  | x :: g, _ :: s, h, .cons_cons _ q => by
    obtain ⟨h1, h2⟩ := List.nodup_cons.mp h
    rw [List.filter_cons, if_pos (by simp)]
    congr 1
    refine (List.filter_congr fun p hp => ?_).trans (filter_self h2 q)
    have hne : p ≠ x := fun e => h1 (e ▸ hp)
    simp [hne]
theorem len_eq {g s : List Int} (h : g.Nodup) (q : s.Sublist g) : s.length = g.countP fun p => decide (p ∈ s) := by
  conv => lhs; rw [← filter_self h q]
  exact (List.countP_eq_length_filter ..).symm
theorem cnt_sub {rs : List (List Int)} {g s t : List Int} (hs : s.Sublist g) (ht : t.Sublist g) : cnt rs (uni g s t) + cnt rs (mee g s t) ≤ cnt rs s + cnt rs t := by
  unfold cnt
  have e := countP_or_and (hitB s) (hitB t) rs
  rw [← e]
  refine Nat.add_le_add (List.countP_mono_left fun r _ q => ?_) (List.countP_mono_left fun r _ q => ?_)
  · obtain ⟨p, h1, h2⟩ := hitB_iff.mp q
    have h1 := (List.mem_filter.mp h1).2
    rw [Bool.or_eq_true]
    rcases Bool.or_eq_true _ _ ▸ h1 with z | z
    · exact .inl (hitB_iff.mpr ⟨p, of_decide_eq_true z, h2⟩)
    · exact .inr (hitB_iff.mpr ⟨p, of_decide_eq_true z, h2⟩)
  · obtain ⟨p, h1, h2⟩ := hitB_iff.mp q
    have h1 := (List.mem_filter.mp h1).2
    rw [Bool.and_eq_true] at h1 ⊢
    exact ⟨hitB_iff.mpr ⟨p, of_decide_eq_true h1.1, h2⟩, hitB_iff.mpr ⟨p, of_decide_eq_true h1.2, h2⟩⟩
theorem len_sub {g s t : List Int} (h : g.Nodup) (hs : s.Sublist g) (ht : t.Sublist g) : (uni g s t).length + (mee g s t).length = s.length + t.length := by
  unfold uni mee
  rw [← List.countP_eq_length_filter, ← List.countP_eq_length_filter, countP_or_and, len_eq h hs, len_eq h ht]
theorem df_sub {rs : List (List Int)} {g s t : List Int} (h : g.Nodup) (hs : s.Sublist g) (ht : t.Sublist g) : df rs s + df rs t ≤ df rs (uni g s t) + df rs (mee g s t) := by
  have h1 := cnt_sub (rs := rs) hs ht
  have h2 := len_sub h hs ht
  unfold df
  omega
/-- f is the part of all parts of g with the greatest shortage -/
structure Lst (rs : List (List Int)) (g f : List Int) : Prop where
  sub : f.Sublist g
  max : ∀ s, s.Sublist g → df rs s ≤ df rs f
  lst : ∀ s, s.Sublist g → df rs s = df rs f → ∀ p, p ∈ f → p ∈ s
/-- a shortest one will do -/
theorem Lst.of {rs : List (List Int)} {g f : List Int} (h : g.Nodup) (sub : f.Sublist g) (max : ∀ s, s.Sublist g → df rs s ≤ df rs f) (sh : ∀ s, s.Sublist g → df rs s = df rs f → f.length ≤ s.length) : Lst rs g f := by
  refine ⟨sub, max, fun s hs e p hp => ?_⟩
  have h1 := df_sub (rs := rs) h sub hs
  have h2 := max _ (List.filter_sublist (p := fun p => decide (p ∈ f) || decide (p ∈ s)) (l := g))
  have h3 := max _ (List.filter_sublist (p := fun p => decide (p ∈ f) && decide (p ∈ s)) (l := g))
  have e2 : df rs (mee g f s) = df rs f := by
    have h2 : df rs (uni g f s) ≤ df rs f := h2
    have h3 : df rs (mee g f s) ≤ df rs f := h3
    omega
  have h4 := sh _ (List.filter_sublist (p := fun p => decide (p ∈ f) && decide (p ∈ s)) (l := g)) e2
  -- the meet lies within f and is as long
  have e3 : mee g f s = f.filter fun p => decide (p ∈ s) := by
    conv => rhs; rw [← filter_self h sub]
    unfold mee
    rw [List.filter_filter]
    apply List.filter_congr
    intro x _
    rw [Bool.and_comm]
  have h5 : f.length ≤ (f.filter fun p => decide (p ∈ s)).length := by rw [← e3]; exact h4
  have h6 := (List.filter_sublist (p := fun p => decide (p ∈ s)) (l := f)).eq_of_length_le h5
  rw [← h6] at hp
  exact of_decide_eq_true (List.mem_filter.mp hp).2
/-- what short_part does -/
def spStep (rs : List (List Int)) (st : List Int × Int) (p : List Int) : List Int × Int := if st.2 < df rs p then (p, df rs p) else st
def spF (rs : List (List Int)) (g : List Int) : List Int := ((prts g).foldl (spStep rs) ([], 0)).1
theorem df_nil (rs : List (List Int)) : df rs [] = 0 := by
  have : cnt rs [] = 0 := by
    unfold cnt
    rw [List.countP_eq_zero]
    intro r _; simp [hitB]
  unfold df
  rw [this]; rfl
theorem sp_fold (rs : List (List Int)) : ∀ (l : List (List Int)) (f : List Int), l.Pairwise (fun a b => a.length ≤ b.length) → (∀ p, p ∈ l → f.length ≤ p.length) →
    ∃ f', l.foldl (spStep rs) (f, df rs f) = (f', df rs f') ∧ (f' = f ∨ f' ∈ l) ∧ df rs f ≤ df rs f' ∧ (∀ p, p ∈ l → df rs p ≤ df rs f') ∧ (df rs f = df rs f' → f' = f) ∧ (∀ p, p ∈ l → df rs p = df rs f' → f'.length ≤ p.length)
  | [], f, _, _ => ⟨f, rfl, .inl rfl, Int.le_refl _, fun _ h => absurd h List.not_mem_nil, fun _ => rfl, fun _ h => absurd h List.not_mem_nil⟩
  | x :: l, f, hp, hf => by
    obtain ⟨h1, h2⟩ := List.pairwise_cons.mp hp
    rw [List.foldl_cons]
    by_cases c : df rs f < df rs x
    · have e : spStep rs (f, df rs f) x = (x, df rs x) := if_pos c
      rw [e]
      obtain ⟨f', k1, k2, k3, k4, k5, k6⟩ := sp_fold rs l x h2 h1
      refine ⟨f', k1, .inr ?_, by omega, fun p hp => ?_, fun z => by omega, fun p hp z => ?_⟩
      · rcases k2 with rfl | k2
        · exact List.mem_cons_self
        · exact List.mem_cons_of_mem _ k2
      · rcases List.mem_cons.mp hp with rfl | hp
        · exact k3
        · exact k4 p hp
      · rcases List.mem_cons.mp hp with rfl | hp
        · rw [k5 z]; exact Nat.le_refl _
        · exact k6 p hp z
    · have e : spStep rs (f, df rs f) x = (f, df rs f) := if_neg c
      rw [e]
      obtain ⟨f', k1, k2, k3, k4, k5, k6⟩ := sp_fold rs l f h2 fun p hp => hf p (List.mem_cons_of_mem _ hp)
      refine ⟨f', k1, k2.imp id (List.mem_cons_of_mem _), k3, fun p hp => ?_, k5, fun p hp z => ?_⟩
      · rcases List.mem_cons.mp hp with rfl | hp
        · omega
        · exact k4 p hp
      · rcases List.mem_cons.mp hp with rfl | hp
        · have : df rs f = df rs f' := by omega
          rw [k5 this]; exact hf _ List.mem_cons_self
        · exact k6 p hp z
theorem spF_fold (rs : List (List Int)) (g : List Int) (h : g.Nodup) : ∃ f, (prts g).foldl (spStep rs) ([], 0) = (f, df rs f) ∧ Lst rs g f := by
  obtain ⟨f, k1, k2, k3, k4, k5, k6⟩ := sp_fold rs (prts g) [] (prts_asc g) fun _ _ => Nat.zero_le _
  rw [df_nil] at k1
  refine ⟨f, k1, Lst.of h ?_ (fun s hs => k4 s (mem_prts.mpr hs)) fun s hs => k6 s (mem_prts.mpr hs)⟩
  rcases k2 with rfl | k2
  · exact List.nil_sublist _
  · exact mem_prts.mp k2
theorem spF_lst {rs : List (List Int)} {g : List Int} (h : g.Nodup) : Lst rs g (spF rs g) := by
  obtain ⟨f, k1, k2⟩ := spF_fold rs g h
  unfold spF
  rw [k1]; exact k2
/-- .. is what all the parts with the greatest shortage have in common -/
theorem Lst.common {rs : List (List Int)} {g f : List Int} (h : g.Nodup) (k : Lst rs g f) (m : Int) (hm : m = df rs f) : g.filter (fun p => ((prts g).filter fun s => decide (df rs s = m)).all fun s => decide (p ∈ s)) = f := by
  subst hm
  conv => rhs; rw [← filter_self h k.sub]
  apply List.filter_congr
  intro p hp
  rw [Bool.eq_iff_iff, List.all_eq_true, decide_eq_true_iff]
  constructor
  · intro q
    exact of_decide_eq_true (q f (List.mem_filter.mpr ⟨mem_prts.mpr k.sub, by simp⟩))
  · intro q s hs
    obtain ⟨h1, h2⟩ := List.mem_filter.mp hs
    exact decide_eq_true (k.lst s (mem_prts.mp h1) (of_decide_eq_true h2) p q)
end Cw

/-! plain: placeable groups by one job more at a time (Hall), strengths by leaving one out -/
namespace Cw
theorem erase_filter : ∀ {g : List Int} {k : Nat} (h : g.Nodup) (hk : k < g.length), g.eraseIdx k = g.filter fun p => decide (p ≠ g[k])
  | x :: g, 0, h, hk => by
    obtain ⟨h1, h2⟩ := List.nodup_cons.mp h
    show g = _
    rw [List.filter_cons, if_neg (by simp)]
    refine (List.filter_eq_self.mpr fun p hp => ?_).symm
    have : p ≠ x := fun e => h1 (e ▸ hp)
    simpa using this
  | x :: g, k + 1, h, hk => by
    obtain ⟨h1, h2⟩ := List.nodup_cons.mp h
    have hk' : k < g.length := by simpa using hk
    have hx : x ≠ g[k] := fun e => h1 (e ▸ List.getElem_mem hk')
    show x :: g.eraseIdx k = _
    rw [List.filter_cons, if_pos (by simpa using hx), erase_filter h2 hk']
    rfl
theorem len_drop {s : List Int} (h : s.Nodup) (p : Int) : s.length ≤ (s.filter fun q => decide (q ≠ p)).length + 1 := by
  induction s with
  | nil => simp
  | cons x s ih =>
    obtain ⟨h1, h2⟩ := List.nodup_cons.mp h
    by_cases e : x = p
    · subst e
      rw [List.filter_cons, if_neg (by simp), List.filter_eq_self.mpr fun q hq => by
        have : q ≠ x := fun e => h1 (e ▸ hq)
        simpa using this]
      simp
    · rw [List.filter_cons, if_pos (by simpa using e), List.length_cons, List.length_cons]
      have := ih h2
      omega
/-- one job more -/
def canStep (job : List Int) (T : List Int → Bool) (g : List Int) : Bool := T g || (List.range g.length).any fun k => decide (g.getD k 0 ∈ job) && T (g.eraseIdx k)
def canG : List (List Int) → List Int → Bool
  | [], g => g.isEmpty
  | r :: l, g => canStep r (canG l) g
def canF (rs : List (List Int)) (g : List Int) : Bool := canG rs.reverse g
theorem cnt_cons (r : List Int) (l : List (List Int)) (s : List Int) : cnt (r :: l) s = cnt l s + if hitB s r = true then 1 else 0 := by
  unfold cnt
  rw [List.countP_cons]
theorem canG_iff : ∀ (l : List (List Int)) {g : List Int}, g.Nodup → (canG l g = true ↔ ∀ s, s.Sublist g → df l s ≤ 0)
  | [], g, h => by
    show g.isEmpty = true ↔ _
    have e : ∀ s : List Int, df [] s = s.length := fun s => by unfold df cnt; simp
    constructor
    · intro q s hs
      rw [List.isEmpty_iff.mp q] at hs
      rw [e, List.sublist_nil.mp hs]; simp
    · intro q
      have := q g (List.Sublist.refl _)
      rw [e] at this
      rw [List.isEmpty_iff]
      exact List.length_eq_zero_iff.mp (by omega)
  | r :: l, g, h => by
    have ih := canG_iff l h
    show (canG l g || (List.range g.length).any fun k => decide (g.getD k 0 ∈ r) && canG l (g.eraseIdx k)) = true ↔ _
    rw [Bool.or_eq_true, List.any_eq_true]
    constructor
    · rintro (q | ⟨k, hk, q⟩) s hs
      · have := ih.mp q s hs
        unfold df at this ⊢
        rw [cnt_cons]
        split <;> omega
      · have hk := List.mem_range.mp hk
        rw [Bool.and_eq_true, decide_eq_true_iff, List.getD_eq_getElem?_getD, List.getElem?_eq_getElem hk] at q
        obtain ⟨q1, q2⟩ := q
        have q1 : g[k] ∈ r := q1
        have he := erase_filter h hk
        have hn : (g.eraseIdx k).Nodup := h.sublist (List.eraseIdx_sublist _ _)
        have q3 := (canG_iff l hn).mp q2 (s.filter fun p => decide (p ≠ g[k])) (by rw [he]; exact hs.filter _)
        have c1 := cnt_mono (rs := l) (s := s.filter fun p => decide (p ≠ g[k])) (g := s) fun p hp => (List.mem_filter.mp hp).1
        unfold df at q3 ⊢
        rw [cnt_cons]
        by_cases hm : g[k] ∈ s
        · rw [if_pos (hitB_iff.mpr ⟨_, hm, q1⟩)]
          have := len_drop (h.sublist hs) g[k]
          omega
        · have e2 : (s.filter fun p => decide (p ≠ g[k])) = s := List.filter_eq_self.mpr fun p hp => decide_eq_true fun e => hm (e ▸ hp)
          rw [e2] at q3
          split <;> omega
    · intro q
      by_cases c : ∀ s, s.Sublist g → df l s ≤ 0
      · exact .inl (ih.mpr c)
      · refine .inr ?_
        have k := spF_lst (rs := l) h
        generalize spF l g = f at k
        have hpos : 1 ≤ df l f := by
          apply Classical.byContradiction
          intro z
          exact c fun s hs => by have := k.max s hs; omega
        have q1 := q f k.sub
        have hd : df (r :: l) f = df l f - if hitB f r = true then 1 else 0 := by
          unfold df
          rw [cnt_cons]
          split <;> omega
        rw [hd] at q1
        by_cases hh : hitB f r = true
        · rw [if_pos hh] at q1
          obtain ⟨p, hp, hr⟩ := hitB_iff.mp hh
          obtain ⟨i, hi, e⟩ := List.mem_iff_getElem.mp (k.sub.subset hp)
          refine ⟨i, List.mem_range.mpr hi, ?_⟩
          rw [Bool.and_eq_true, decide_eq_true_iff, List.getD_eq_getElem?_getD, List.getElem?_eq_getElem hi]
          refine ⟨by rw [← e] at hr; exact hr, ?_⟩
          have hn : (g.eraseIdx i).Nodup := h.sublist (List.eraseIdx_sublist _ _)
          refine (canG_iff l hn).mpr fun s hs => ?_
          have hsg := hs.trans (List.eraseIdx_sublist _ _)
          have m1 := k.max s hsg
          apply Classical.byContradiction
          intro z
          have hps := k.lst s hsg (by omega) p hp
          have := hs.subset hps
          rw [erase_filter h hi] at this
          exact of_decide_eq_true (List.mem_filter.mp this).2 e.symm
        · rw [if_neg hh] at q1
          omega
theorem cnt_rev (rs : List (List Int)) (s : List Int) : cnt rs.reverse s = cnt rs s := by
  unfold cnt
  exact List.countP_reverse ..
theorem df_rev (rs : List (List Int)) (s : List Int) : df rs.reverse s = df rs s := by
  unfold df
  rw [cnt_rev]
/-- Hall -/
theorem canF_iff {rs : List (List Int)} {g : List Int} (h : g.Nodup) : canF rs g = true ↔ ∀ s, s.Sublist g → df rs s ≤ 0 := by
  unfold canF
  rw [canG_iff _ h]
  simp only [df_rev]
/-- the strength of a group -/
def stg (rs : List (List Int)) (g : List Int) : Int := (g.length : Int) - df rs (spF rs g)
theorem df_sp_nonneg {rs : List (List Int)} {g : List Int} (h : g.Nodup) : 0 ≤ df rs (spF rs g) := by
  have := (spF_lst (rs := rs) h).max [] (List.nil_sublist _)
  rwa [df_nil] at this
theorem stg_can {rs : List (List Int)} {g : List Int} (h : g.Nodup) : canF rs g = true ↔ stg rs g = g.length := by
  have k := spF_lst (rs := rs) h
  have h0 := df_sp_nonneg (rs := rs) h
  rw [canF_iff h]
  unfold stg
  constructor
  · intro q
    have := q _ k.sub
    omega
  · intro q s hs
    have := k.max s hs
    omega
theorem stg_erase {rs : List (List Int)} {g : List Int} (h : g.Nodup) {i : Nat} (hi : i < g.length) : stg rs (g.eraseIdx i) ≤ stg rs g := by
  have hn : (g.eraseIdx i).Nodup := h.sublist (List.eraseIdx_sublist _ _)
  have k := spF_lst (rs := rs) h
  have k' := spF_lst (rs := rs) hn
  have h1 := k'.max ((spF rs g).filter fun p => decide (p ≠ g[i])) (by rw [erase_filter h hi]; exact k.sub.filter _)
  have h2 := len_drop (h.sublist k.sub) g[i]
  have h3 := cnt_mono (rs := rs) (s := (spF rs g).filter fun p => decide (p ≠ g[i])) (g := spF rs g) fun p hp => (List.mem_filter.mp hp).1
  have h4 : (g.eraseIdx i).length + 1 = g.length := by rw [List.length_eraseIdx_of_lt hi]; omega
  unfold stg
  unfold df at h1 ⊢
  omega
theorem stg_some {rs : List (List Int)} {g : List Int} (h : g.Nodup) (hc : canF rs g = false) : ∃ i, i < g.length ∧ stg rs (g.eraseIdx i) = stg rs g := by
  have k := spF_lst (rs := rs) h
  have h0 := df_sp_nonneg (rs := rs) h
  have hpos : 1 ≤ df rs (spF rs g) := by
    apply Classical.byContradiction
    intro z
    have : canF rs g = true := (stg_can h).mpr (by unfold stg; omega)
    rw [hc] at this; cases this
  have hne : spF rs g ≠ [] := fun e => by rw [e, df_nil] at hpos; omega
  obtain ⟨p, hp⟩ := List.exists_mem_of_ne_nil _ hne
  obtain ⟨i, hi, e⟩ := List.mem_iff_getElem.mp (k.sub.subset hp)
  refine ⟨i, hi, Int.le_antisymm (stg_erase h hi) ?_⟩
  have hn : (g.eraseIdx i).Nodup := h.sublist (List.eraseIdx_sublist _ _)
  have k' := spF_lst (rs := rs) hn
  have hsg := k'.sub.trans (List.eraseIdx_sublist _ _)
  have m1 := k.max _ hsg
  have m2 : df rs (spF rs (g.eraseIdx i)) ≠ df rs (spF rs g) := fun z => by
    have := k'.sub.subset (k.lst _ hsg z p hp)
    rw [erase_filter h hi] at this
    exact of_decide_eq_true (List.mem_filter.mp this).2 e.symm
  have h4 : (g.eraseIdx i).length + 1 = g.length := by rw [List.length_eraseIdx_of_lt hi]; omega
  unfold stg
  omega
/-- the strength is the greatest of those with one left out -/
theorem stg_max {rs : List (List Int)} {g : List Int} (h : g.Nodup) (hc : canF rs g = false) : maxI ((List.range g.length).map fun i => stg rs (g.eraseIdx i)) = stg rs g := by
  obtain ⟨i, hi, e⟩ := stg_some h hc
  refine (maxI_eq (List.mem_map.mpr ⟨i, List.mem_range.mpr hi, e⟩) fun y hy => ?_).symm
  obtain ⟨j, hj, rfl⟩ := List.mem_map.mp hy
  exact stg_erase h (List.mem_range.mp hj)
end Cw

namespace Cw
open PySem L2
theorem szL {α : Type} {l : List α} (h : l.length ≤ 64) : l.length ≤ sizeLine := Nat.le_trans h (by decide)
theorem szB {α : Type} {l : List α} (h : l.length ≤ 6588344) : l.length ≤ sizeLine := Nat.le_trans h (by decide)
theorem z0 : 0 ≤ sizeLine := Nat.zero_le _
theorem z1 : 1 ≤ sizeLine := by decide
theorem z2 : 2 ≤ sizeLine := by decide
theorem z3 : 3 ≤ sizeLine := by decide
theorem z4 : 4 ≤ sizeLine := by decide
theorem blL_map : ∀ bs : List Bool, blL (bs.map D.bl) = some bs
  | [] => rfl
  | b :: bs => by
    show blL (D.bl b :: bs.map D.bl) = _
    unfold blL
    rw [blL_map bs]
theorem dAll_map (bs : List Bool) : dAll [.lst (bs.map D.bl)] = some (false, .bl (bs.all id)) := by
  unfold dAll
  simp only [blL_map]
theorem dAny_map (bs : List Bool) : dAny [.lst (bs.map D.bl)] = some (false, .bl (bs.any id)) := by
  unfold dAny
  simp only [blL_map]
theorem dAll_f {α : Type} (f : α → Bool) (xs : List α) : dAll [.lst (xs.map fun x => D.bl (f x))] = some (false, .bl (xs.all f)) := by
  have := dAll_map (xs.map f)
  rw [List.map_map, List.all_map] at this
  exact this
theorem dAny_f {α : Type} (f : α → Bool) (xs : List α) : dAny [.lst (xs.map fun x => D.bl (f x))] = some (false, .bl (xs.any f)) := by
  have := dAny_map (xs.map f)
  rw [List.map_map, List.any_map] at this
  exact this
/-! ### comprehensions that change nothing -/
section
variable {vs : List Nat} {a : G} {tt : M Bool} {te : M RV} {e : En}
theorem lcE {α : Type} (enc : α → D) (q : α → Bool) (f : α → D) : ∀ {xs : List α}, (∀ x, x ∈ xs → ∃ e1, a (enc x) e = some e1 ∧ tt e1 = .ok (q x) e1 ∧ noMu e1 vs = true ∧ wipeE e1 vs = e ∧ (q x = true → M.bind te M.esc e1 = .ok (f x) e1)) →
    lcL vs a tt te (xs.map enc) e = .ok ((xs.filter q).map f) e
  | [], _ => rfl
  | x :: xs, h => by
    have ih := lcE enc q f (xs := xs) fun y hy => h y (List.mem_cons_of_mem _ hy)
    obtain ⟨e1, h1, h2, h3, h4, h5⟩ := h x List.mem_cons_self
    rw [List.map_cons]
    unfold lcL
    simp only [h1, h2]
    cases w : q x with
    | false => simp only [h3, if_true, h4, ih, List.filter_cons, w, Bool.false_eq_true, if_false]
    | true => simp only [h5 w, h3, if_true, h4, ih, List.filter_cons, w, List.map_cons]
theorem lcI_filt (q : Int → Bool) {xs : List Int} (h : ∀ x, x ∈ xs → ∃ e1, a (.int x) e = some e1 ∧ tt e1 = .ok (q x) e1 ∧ noMu e1 vs = true ∧ wipeE e1 vs = e ∧ M.bind te M.esc e1 = .ok (.int x) e1) :
    lcL vs a tt te (ii xs) e = .ok (ii (xs.filter q)) e := lcE D.int q D.int fun x hx => by
  obtain ⟨e1, h1, h2, h3, h4, h5⟩ := h x hx
  exact ⟨e1, h1, h2, h3, h4, fun _ => h5⟩
theorem lcI_map (f : Int → D) {xs : List Int} (h : ∀ x, x ∈ xs → ∃ e1, a (.int x) e = some e1 ∧ noMu e1 vs = true ∧ wipeE e1 vs = e ∧ M.bind te M.esc e1 = .ok (f x) e1) :
    lcL vs a eYes te (ii xs) e = .ok (xs.map f) e := by
  have := lcE (vs := vs) (a := a) (tt := eYes) (te := te) (e := e) D.int (fun _ => true) f (xs := xs) fun x hx => by
    obtain ⟨e1, h1, h3, h4, h5⟩ := h x hx
    exact ⟨e1, h1, rfl, h3, h4, fun _ => h5⟩
  rwa [List.filter_eq_self.mpr (fun _ _ => rfl)] at this
theorem lcI_fm (q : Int → Bool) (f : Int → D) {xs : List Int} (h : ∀ x, x ∈ xs → ∃ e1, a (.int x) e = some e1 ∧ tt e1 = .ok (q x) e1 ∧ noMu e1 vs = true ∧ wipeE e1 vs = e ∧ (q x = true → M.bind te M.esc e1 = .ok (f x) e1)) :
    lcL vs a tt te (ii xs) e = .ok ((xs.filter q).map f) e := lcE D.int q f h
theorem lcG_map (f : List Int → D) {xs : List (List Int)} (h : ∀ x, x ∈ xs → ∃ e1, a (.tup (ii x)) e = some e1 ∧ noMu e1 vs = true ∧ wipeE e1 vs = e ∧ M.bind te M.esc e1 = .ok (f x) e1) :
    lcL vs a eYes te (gs xs) e = .ok (xs.map f) e := by
  have := lcE (vs := vs) (a := a) (tt := eYes) (te := te) (e := e) (fun g => D.tup (ii g)) (fun _ => true) f (xs := xs) fun x hx => by
    obtain ⟨e1, h1, h3, h4, h5⟩ := h x hx
    exact ⟨e1, h1, rfl, h3, h4, fun _ => h5⟩
  rwa [List.filter_eq_self.mpr (fun _ _ => rfl)] at this
theorem lcG_filt (q : List Int → Bool) {xs : List (List Int)} (h : ∀ x, x ∈ xs → ∃ e1, a (.tup (ii x)) e = some e1 ∧ tt e1 = .ok (q x) e1 ∧ noMu e1 vs = true ∧ wipeE e1 vs = e ∧ M.bind te M.esc e1 = .ok (.tup (ii x)) e1) :
    lcL vs a tt te (gs xs) e = .ok (gs (xs.filter q)) e := lcE (fun g => D.tup (ii g)) q (fun g => D.tup (ii g)) fun x hx => by
  obtain ⟨e1, h1, h2, h3, h4, h5⟩ := h x hx
  exact ⟨e1, h1, h2, h3, h4, fun _ => h5⟩
end
/-- a loop that is told turn by turn -/
theorem forS_seq {a : G} {b : S} (E : Nat → En) : ∀ (ds : List D) (i : Nat), (∀ k (h : k < ds.length), fstep a b ds[k] (E (i + k)) = .nx (E (i + k + 1))) → forL a b ds (E i) = .nx (E (i + ds.length))
  | [], i, _ => rfl
  | d :: ds, i, h => by
    have h0 := h 0 (by simp)
    have ih := forS_seq E ds (i + 1) fun k hk => by
      have := h (k + 1) (by simpa using hk)
      rw [show i + (k + 1) = i + 1 + k by omega] at this
      exact this
    have h0 : fstep a b d (E i) = .nx (E (i + 1)) := h0
    unfold fstep at h0
    unfold forL
    cases w : a d (E i) with
    | none => rw [w] at h0; cases h0
    | some e1 =>
      rw [w] at h0
      simp only at h0 ⊢
      have e2 : i + (d :: ds).length = i + 1 + ds.length := by simp; omega
      cases w2 : b e1 with
      | ct e3 => rw [w2] at h0; cases h0; simp only [e2]; exact ih
      | nx e3 => rw [w2] at h0; cases h0; simp only [e2]; exact ih
      | bk e3 => rw [w2] at h0; cases h0
      | rt r e3 => rw [w2] at h0; cases h0
      | exc x e3 => rw [w2] at h0; cases h0
      | bad => rw [w2] at h0; cases h0
theorem forS_fold {a : G} {b : S} (E : Nat → En) {ds : List D} (h : ∀ k (h : k < ds.length), fstep a b ds[k] (E k) = .nx (E (k + 1))) : forL a b ds (E 0) = .nx (E ds.length) := by
  have := forS_seq E ds 0 fun k hk => by rw [Nat.zero_add]; exact h k hk
  rwa [Nat.zero_add] at this
/-! ### items -/
theorem ix_ii {xs : List Int} {k : Nat} (h : k < xs.length) : dIx (.tup (ii xs)) (.int (k : Int)) = some (false, .int xs[k]) := dIx_tup (by unfold ii; rw [List.getElem?_map, List.getElem?_eq_getElem h]; rfl)
theorem ix_gsT {rs : List (List Int)} {k : Nat} (h : k < rs.length) : dIx (.tup (gs rs)) (.int (k : Int)) = some (false, .tup (ii rs[k])) := dIx_tup (getD_gs h)
theorem ix_gsL {rs : List (List Int)} {k : Nat} (h : k < rs.length) : dIx (.lst (gs rs)) (.int (k : Int)) = some (false, .tup (ii rs[k])) := dIx_lst (getD_gs h)
variable (a : Nat → Addr)
theorem is_group_row {n : Nat} {g : List Int} (h : Row n g) (hn : n ≤ 24) : m_is_group a [.int (n : Int), .tup (ii g)] = .ok (false, .bl true) [] := by
  have hl : g.length ≤ 64 := Nat.le_trans h.len (by omega)
  have e1 : (g.map fun i => D.bl (decide (0 ≤ i ∧ i ≤ (n : Int) - 1))).length ≤ sizeLine := szL (by simpa using hl)
  have e2 : g.all (fun i => decide (0 ≤ i ∧ i ≤ (n : Int) - 1)) = true := List.all_eq_true.mpr fun i hi => decide_eq_true (by have := h.lt hi; omega)
  have h62 : in62 ((g.length : Int) - 1) = true := in62_iff.mpr ⟨by omega, by omega⟩
  have et : ((g.length : Int) - 1).toNat = g.length - 1 := by omega
  have e3 : ((rg (g.length - 1)).map fun i => D.bl true).length ≤ sizeLine := szL (by rw [List.length_map, rg_length]; omega)
  have e4 : (rg (g.length - 1)).all (fun _ => true) = true := List.all_eq_true.mpr fun _ _ => rfl
  simp only [m_is_group, g_is_group, ↓fnOf, initE, List.replicate, List.length_cons, List.length_nil, List.cons_append, List.nil_append, Nat.sub_self, Nat.reduceSub, Nat.reduceAdd, ↓sSeq, ↓sIf_eq, ↓sSet, ↓sRet, ↓sRetN, ↓sExpr, ↓sNil, ↓sNever, ↓sFor, ↓sAsg, ↓sFldS, ↓sAugIx, ↓sSetIx, ↓putIx, ↓sPar2, ↓sPar3, ↓M.then, ↓bind_eq, ↓M.ret, ↓M.bad, ↓M.get, ↓M.esc, ↓M.arg, ↓M.nrm, ↓M.res, ↓M.wipe, look, getE, ↓put, isMu_eq, muB_none, muB_sh, muB_ow, muB_mu, ↓eVar, ↓eC, ↓eOp1, ↓eOp2, ↓eBool_eq, ↓eAnd_eq, ↓eOr_eq, ↓eNot, ↓eAndV_eq, ↓eOrV_eq, ↓eNotV_eq, ↓eIf_eq, ↓eChain, ↓aNil, ↓aCons, ↓lCons, ↓kCons, ↓sCons, ↓eTup_eq, ↓eLst_eq, ↓eLc_eq, ↓eLc2_eq, ↓iSeq_eq, ↓Cw.iEnum, ↓iZipD_eq, ↓iRng1D_eq, ↓iRng2D, ↓eLRg, ↓eTRg, ↓rg1_eq, ↓rg2, ↓eSl, ↓oNone, ↓oSome_eq, ↓eCallB, ↓getAll, ↓eCall, ↓callM, gather, scatter, muI, toRV, ↓eMake, ↓makeM, ↓eMeth_eq, ↓eFld_eq, ↓eMut_eq, ↓eMutG_eq, ↓eDnew, finR, muOf, List.set, ↓gN, ↓fstep, ↓gT, ↓gsCons, ↓gsNil, noMu, wipeE, ↓sPre_eq, ↓iPre_eq, ↓sFgt, ↓sFrz, fgt_nx, fgt_ct, fgt_rt, fgt_bk, fgt_exc, fgt_bad, frz_nx, frz_ct, frz_rt, frz_bk, frz_exc, frz_bad, frzE_nil, frzE_cons, ↓sRaise, ↓sTry, fixT, List.all_cons, List.all_nil, Bool.and_true, Bool.true_and, Bool.not_false, Bool.not_true, if_true, if_false, ite_true, ite_false, Bool.false_eq_true, reduceIte, reduceCtorEq, List.nodup_cons, List.nodup_nil, List.not_mem_nil, not_false_eq_true, and_self, and_true, true_and, List.mem_cons, List.mem_singleton, or_false, decide_true, decide_false, List.getElem?_cons_zero, List.getElem?_cons_succ, dEq_int, dNe_int, dEq_str, dCmp_int, dAdd_int, dSub_int, dInt_int, dAbs_int, dLen_lst, dLen_tup, dList_lst, dList_tup, dTuple_lst, dTuple_tup, dIxD_lst, dIxD_tup, dInD_lst, dInD_tup, isi_tt]
  rw [lcI_map fun i => D.bl (decide (0 ≤ i ∧ i ≤ (n : Int) - 1))]
  · simp only [↓fnOf, initE, List.replicate, List.length_cons, List.length_nil, List.cons_append, List.nil_append, Nat.sub_self, Nat.reduceSub, Nat.reduceAdd, ↓sSeq, ↓sIf_eq, ↓sSet, ↓sRet, ↓sRetN, ↓sExpr, ↓sNil, ↓sNever, ↓sFor, ↓sAsg, ↓sFldS, ↓sAugIx, ↓sSetIx, ↓putIx, ↓sPar2, ↓sPar3, ↓M.then, ↓bind_eq, ↓M.ret, ↓M.bad, ↓M.get, ↓M.esc, ↓M.arg, ↓M.nrm, ↓M.res, ↓M.wipe, look, getE, ↓put, isMu_eq, muB_none, muB_sh, muB_ow, muB_mu, ↓eVar, ↓eC, ↓eOp1, ↓eOp2, ↓eBool_eq, ↓eAnd_eq, ↓eOr_eq, ↓eNot, ↓eAndV_eq, ↓eOrV_eq, ↓eNotV_eq, ↓eIf_eq, ↓eChain, ↓aNil, ↓aCons, ↓lCons, ↓kCons, ↓sCons, ↓eTup_eq, ↓eLst_eq, ↓eLc_eq, ↓eLc2_eq, ↓iSeq_eq, ↓Cw.iEnum, ↓iZipD_eq, ↓iRng1D_eq, ↓iRng2D, ↓eLRg, ↓eTRg, ↓rg1_eq, ↓rg2, ↓eSl, ↓oNone, ↓oSome_eq, ↓eCallB, ↓getAll, ↓eCall, ↓callM, gather, scatter, muI, toRV, ↓eMake, ↓makeM, ↓eMeth_eq, ↓eFld_eq, ↓eMut_eq, ↓eMutG_eq, ↓eDnew, finR, muOf, List.set, ↓gN, ↓fstep, ↓gT, ↓gsCons, ↓gsNil, noMu, wipeE, ↓sPre_eq, ↓iPre_eq, ↓sFgt, ↓sFrz, fgt_nx, fgt_ct, fgt_rt, fgt_bk, fgt_exc, fgt_bad, frz_nx, frz_ct, frz_rt, frz_bk, frz_exc, frz_bad, frzE_nil, frzE_cons, ↓sRaise, ↓sTry, fixT, List.all_cons, List.all_nil, Bool.and_true, Bool.true_and, Bool.not_false, Bool.not_true, if_true, if_false, ite_true, ite_false, Bool.false_eq_true, reduceIte, reduceCtorEq, List.nodup_cons, List.nodup_nil, List.not_mem_nil, not_false_eq_true, and_self, and_true, true_and, List.mem_cons, List.mem_singleton, or_false, decide_true, decide_false, List.getElem?_cons_zero, List.getElem?_cons_succ, dEq_int, dNe_int, dEq_str, dCmp_int, dAdd_int, dSub_int, dInt_int, dAbs_int, dLen_lst, dLen_tup, dList_lst, dList_tup, dTuple_lst, dTuple_tup, dIxD_lst, dIxD_tup, dInD_lst, dInD_tup, e1, dAll_f, e2, ii_length, h62, et, rangeD_rg]
    rw [lcI_map fun i => D.bl true]
    · simp only [↓fnOf, initE, List.replicate, List.length_cons, List.length_nil, List.cons_append, List.nil_append, Nat.sub_self, Nat.reduceSub, Nat.reduceAdd, ↓sSeq, ↓sIf_eq, ↓sSet, ↓sRet, ↓sRetN, ↓sExpr, ↓sNil, ↓sNever, ↓sFor, ↓sAsg, ↓sFldS, ↓sAugIx, ↓sSetIx, ↓putIx, ↓sPar2, ↓sPar3, ↓M.then, ↓bind_eq, ↓M.ret, ↓M.bad, ↓M.get, ↓M.esc, ↓M.arg, ↓M.nrm, ↓M.res, ↓M.wipe, look, getE, ↓put, isMu_eq, muB_none, muB_sh, muB_ow, muB_mu, ↓eVar, ↓eC, ↓eOp1, ↓eOp2, ↓eBool_eq, ↓eAnd_eq, ↓eOr_eq, ↓eNot, ↓eAndV_eq, ↓eOrV_eq, ↓eNotV_eq, ↓eIf_eq, ↓eChain, ↓aNil, ↓aCons, ↓lCons, ↓kCons, ↓sCons, ↓eTup_eq, ↓eLst_eq, ↓eLc_eq, ↓eLc2_eq, ↓iSeq_eq, ↓Cw.iEnum, ↓iZipD_eq, ↓iRng1D_eq, ↓iRng2D, ↓eLRg, ↓eTRg, ↓rg1_eq, ↓rg2, ↓eSl, ↓oNone, ↓oSome_eq, ↓eCallB, ↓getAll, ↓eCall, ↓callM, gather, scatter, muI, toRV, ↓eMake, ↓makeM, ↓eMeth_eq, ↓eFld_eq, ↓eMut_eq, ↓eMutG_eq, ↓eDnew, finR, muOf, List.set, ↓gN, ↓fstep, ↓gT, ↓gsCons, ↓gsNil, noMu, wipeE, ↓sPre_eq, ↓iPre_eq, ↓sFgt, ↓sFrz, fgt_nx, fgt_ct, fgt_rt, fgt_bk, fgt_exc, fgt_bad, frz_nx, frz_ct, frz_rt, frz_bk, frz_exc, frz_bad, frzE_nil, frzE_cons, ↓sRaise, ↓sTry, fixT, List.all_cons, List.all_nil, Bool.and_true, Bool.true_and, Bool.not_false, Bool.not_true, if_true, if_false, ite_true, ite_false, Bool.false_eq_true, reduceIte, reduceCtorEq, List.nodup_cons, List.nodup_nil, List.not_mem_nil, not_false_eq_true, and_self, and_true, true_and, List.mem_cons, List.mem_singleton, or_false, decide_true, decide_false, List.getElem?_cons_zero, List.getElem?_cons_succ, dEq_int, dNe_int, dEq_str, dCmp_int, dAdd_int, dSub_int, dInt_int, dAbs_int, dLen_lst, dLen_tup, dList_lst, dList_tup, dTuple_lst, dTuple_tup, dIxD_lst, dIxD_tup, dInD_lst, dInD_tup, e3, dAll_f, e4]
    · intro i hi
      obtain ⟨i0, i1⟩ := mem_rg.mp hi
      obtain ⟨k, rfl⟩ := Int.eq_ofNat_of_zero_le i0
      have hk : k + 1 < g.length := by omega
      have q1 := ix_ii (xs := g) (k := k) (by omega)
      have q2 := ix_ii (xs := g) (k := k + 1) hk
      have q2 : dIx (.tup (ii g)) (.int ((k : Int) + 1)) = some (false, .int g[k + 1]) := by simpa using q2
      have lt : g[k] < g[k + 1] := (List.pairwise_iff_getElem.mp (row_iff.mp h).1) k (k + 1) (by omega) hk (by omega)
      refine ⟨_, rfl, rfl, rfl, ?_⟩
      simp only [v_is_group_1, ↓fnOf, initE, List.replicate, List.length_cons, List.length_nil, List.cons_append, List.nil_append, Nat.sub_self, Nat.reduceSub, Nat.reduceAdd, ↓sSeq, ↓sIf_eq, ↓sSet, ↓sRet, ↓sRetN, ↓sExpr, ↓sNil, ↓sNever, ↓sFor, ↓sAsg, ↓sFldS, ↓sAugIx, ↓sSetIx, ↓putIx, ↓sPar2, ↓sPar3, ↓M.then, ↓bind_eq, ↓M.ret, ↓M.bad, ↓M.get, ↓M.esc, ↓M.arg, ↓M.nrm, ↓M.res, ↓M.wipe, look, getE, ↓put, isMu_eq, muB_none, muB_sh, muB_ow, muB_mu, ↓eVar, ↓eC, ↓eOp1, ↓eOp2, ↓eBool_eq, ↓eAnd_eq, ↓eOr_eq, ↓eNot, ↓eAndV_eq, ↓eOrV_eq, ↓eNotV_eq, ↓eIf_eq, ↓eChain, ↓aNil, ↓aCons, ↓lCons, ↓kCons, ↓sCons, ↓eTup_eq, ↓eLst_eq, ↓eLc_eq, ↓eLc2_eq, ↓iSeq_eq, ↓Cw.iEnum, ↓iZipD_eq, ↓iRng1D_eq, ↓iRng2D, ↓eLRg, ↓eTRg, ↓rg1_eq, ↓rg2, ↓eSl, ↓oNone, ↓oSome_eq, ↓eCallB, ↓getAll, ↓eCall, ↓callM, gather, scatter, muI, toRV, ↓eMake, ↓makeM, ↓eMeth_eq, ↓eFld_eq, ↓eMut_eq, ↓eMutG_eq, ↓eDnew, finR, muOf, List.set, ↓gN, ↓fstep, ↓gT, ↓gsCons, ↓gsNil, noMu, wipeE, ↓sPre_eq, ↓iPre_eq, ↓sFgt, ↓sFrz, fgt_nx, fgt_ct, fgt_rt, fgt_bk, fgt_exc, fgt_bad, frz_nx, frz_ct, frz_rt, frz_bk, frz_exc, frz_bad, frzE_nil, frzE_cons, ↓sRaise, ↓sTry, fixT, List.all_cons, List.all_nil, Bool.and_true, Bool.true_and, Bool.not_false, Bool.not_true, if_true, if_false, ite_true, ite_false, Bool.false_eq_true, reduceIte, reduceCtorEq, List.nodup_cons, List.nodup_nil, List.not_mem_nil, not_false_eq_true, and_self, and_true, true_and, List.mem_cons, List.mem_singleton, or_false, decide_true, decide_false, List.getElem?_cons_zero, List.getElem?_cons_succ, dEq_int, dNe_int, dEq_str, dCmp_int, dAdd_int, dSub_int, dInt_int, dAbs_int, dLen_lst, dLen_tup, dList_lst, dList_tup, dTuple_lst, dTuple_tup, dIxD_lst, dIxD_tup, dInD_lst, dInD_tup, q1, q2, lt]
  · intro i hi
    refine ⟨_, rfl, rfl, rfl, ?_⟩
    simp only [v_is_group_0, ↓fnOf, initE, List.replicate, List.length_cons, List.length_nil, List.cons_append, List.nil_append, Nat.sub_self, Nat.reduceSub, Nat.reduceAdd, ↓sSeq, ↓sIf_eq, ↓sSet, ↓sRet, ↓sRetN, ↓sExpr, ↓sNil, ↓sNever, ↓sFor, ↓sAsg, ↓sFldS, ↓sAugIx, ↓sSetIx, ↓putIx, ↓sPar2, ↓sPar3, ↓M.then, ↓bind_eq, ↓M.ret, ↓M.bad, ↓M.get, ↓M.esc, ↓M.arg, ↓M.nrm, ↓M.res, ↓M.wipe, look, getE, ↓put, isMu_eq, muB_none, muB_sh, muB_ow, muB_mu, ↓eVar, ↓eC, ↓eOp1, ↓eOp2, ↓eBool_eq, ↓eAnd_eq, ↓eOr_eq, ↓eNot, ↓eAndV_eq, ↓eOrV_eq, ↓eNotV_eq, ↓eIf_eq, ↓eChain, ↓aNil, ↓aCons, ↓lCons, ↓kCons, ↓sCons, ↓eTup_eq, ↓eLst_eq, ↓eLc_eq, ↓eLc2_eq, ↓iSeq_eq, ↓Cw.iEnum, ↓iZipD_eq, ↓iRng1D_eq, ↓iRng2D, ↓eLRg, ↓eTRg, ↓rg1_eq, ↓rg2, ↓eSl, ↓oNone, ↓oSome_eq, ↓eCallB, ↓getAll, ↓eCall, ↓callM, gather, scatter, muI, toRV, ↓eMake, ↓makeM, ↓eMeth_eq, ↓eFld_eq, ↓eMut_eq, ↓eMutG_eq, ↓eDnew, finR, muOf, List.set, ↓gN, ↓fstep, ↓gT, ↓gsCons, ↓gsNil, noMu, wipeE, ↓sPre_eq, ↓iPre_eq, ↓sFgt, ↓sFrz, fgt_nx, fgt_ct, fgt_rt, fgt_bk, fgt_exc, fgt_bad, frz_nx, frz_ct, frz_rt, frz_bk, frz_exc, frz_bad, frzE_nil, frzE_cons, ↓sRaise, ↓sTry, fixT, List.all_cons, List.all_nil, Bool.and_true, Bool.true_and, Bool.not_false, Bool.not_true, if_true, if_false, ite_true, ite_false, Bool.false_eq_true, reduceIte, reduceCtorEq, List.nodup_cons, List.nodup_nil, List.not_mem_nil, not_false_eq_true, and_self, and_true, true_and, List.mem_cons, List.mem_singleton, or_false, decide_true, decide_false, List.getElem?_cons_zero, List.getElem?_cons_succ, dEq_int, dNe_int, dEq_str, dCmp_int, dAdd_int, dSub_int, dInt_int, dAbs_int, dLen_lst, dLen_tup, dList_lst, dList_tup, dTuple_lst, dTuple_tup, dIxD_lst, dIxD_tup, dInD_lst, dInD_tup, is_between_int]
/-! ### a Jobs -/
def job (n : Nat) (rs : List (List Int)) : D := .ins (a 0) [("size", .int (n : Int)), ("jobs", .tup (gs rs))]
theorem sj : ¬ (("size" : Str) = "jobs") := by decide +kernel
theorem js : (("jobs" : Str) == "size") = false := by decide +kernel
theorem ss : (("size" : Str) == "size") = true := by decide +kernel
theorem jj : (("jobs" : Str) == "jobs") = true := by decide +kernel
theorem fld_size (n : Nat) (rs : List (List Int)) : List.lookup ("size" : Str) [(("size" : Str), D.int (n : Int)), ("jobs", .tup (gs rs))] = some (.int (n : Int)) := by
  simp only [List.lookup, ss]
theorem fld_jobs (n : Nat) (rs : List (List Int)) : List.lookup ("jobs" : Str) [(("size" : Str), D.int (n : Int)), ("jobs", .tup (gs rs))] = some (.tup (gs rs)) := by
  simp only [List.lookup, js, jj]
theorem enumD_mem {ds : List D} {d : D} (h : d ∈ enumD ds) : ∃ (k : Nat) (x : D), ds[k]? = some x ∧ d = .tup [.int (k : Int), x] := by
  obtain ⟨k, hk⟩ := List.mem_iff_getElem?.mp h
  obtain ⟨x, h1, h2⟩ := enumD_get hk
  exact ⟨k, x, h1, h2⟩
theorem init_gen {n : Nat} {rs : List (List Int)} {R : D} (hn : n ≤ 7) (hl : rs.length ≤ 7) (h : ∀ r, r ∈ rs → Row n r) (hR : R = .lst (gs rs) ∨ R = .tup (gs rs)) : m_Jobs_UinitU a [.ins (a 0) [], .int (n : Int), R] = .ok (false, .non) [job a n rs] := by
  obtain ⟨e', h1, rfl⟩ := forS_all (a := gT 2 (gsCons (gN 3) (gsCons (gN 4) gsNil))) (b := b_Jobs_UinitU_0 a)
    (fun e => e = [some (Fl.mu, .ins (a 0) []), some (Fl.sh, .int (n : Int)), some (Fl.sh, R), none, none]) (ds := enumD (gs rs))
    (e := [some (Fl.mu, .ins (a 0) []), some (Fl.sh, .int (n : Int)), some (Fl.sh, R), none, none]) rfl (by
      rintro d e hd rfl
      obtain ⟨k, x, hx, rfl⟩ := enumD_mem hd
      obtain ⟨r, hr, rfl⟩ := List.mem_map.mp (List.mem_of_getElem? hx)
      have hg := is_group_row a (h r hr) (by omega)
      exact ⟨_, by simp only [b_Jobs_UinitU_0, ↓fnOf, initE, List.replicate, List.length_cons, List.length_nil, List.cons_append, List.nil_append, Nat.sub_self, Nat.reduceSub, Nat.reduceAdd, ↓sSeq, ↓sIf_eq, ↓sSet, ↓sRet, ↓sRetN, ↓sExpr, ↓sNil, ↓sNever, ↓sFor, ↓sAsg, ↓sFldS, ↓sAugIx, ↓sSetIx, ↓putIx, ↓sPar2, ↓sPar3, ↓M.then, ↓bind_eq, ↓M.ret, ↓M.bad, ↓M.get, ↓M.esc, ↓M.arg, ↓M.nrm, ↓M.res, ↓M.wipe, look, getE, ↓put, isMu_eq, muB_none, muB_sh, muB_ow, muB_mu, ↓eVar, ↓eC, ↓eOp1, ↓eOp2, ↓eBool_eq, ↓eAnd_eq, ↓eOr_eq, ↓eNot, ↓eAndV_eq, ↓eOrV_eq, ↓eNotV_eq, ↓eIf_eq, ↓eChain, ↓aNil, ↓aCons, ↓lCons, ↓kCons, ↓sCons, ↓eTup_eq, ↓eLst_eq, ↓eLc_eq, ↓eLc2_eq, ↓iSeq_eq, ↓Cw.iEnum, ↓iZipD_eq, ↓iRng1D_eq, ↓iRng2D, ↓eLRg, ↓eTRg, ↓rg1_eq, ↓rg2, ↓eSl, ↓oNone, ↓oSome_eq, ↓eCallB, ↓getAll, ↓eCall, ↓callM, gather, scatter, muI, toRV, ↓eMake, ↓makeM, ↓eMeth_eq, ↓eFld_eq, ↓eMut_eq, ↓eMutG_eq, ↓eDnew, finR, muOf, List.set, ↓gN, ↓fstep, ↓gT, ↓gsCons, ↓gsNil, noMu, wipeE, ↓sPre_eq, ↓iPre_eq, ↓sFgt, ↓sFrz, fgt_nx, fgt_ct, fgt_rt, fgt_bk, fgt_exc, fgt_bad, frz_nx, frz_ct, frz_rt, frz_bk, frz_exc, frz_bad, frzE_nil, frzE_cons, ↓sRaise, ↓sTry, fixT, List.all_cons, List.all_nil, Bool.and_true, Bool.true_and, Bool.not_false, Bool.not_true, if_true, if_false, ite_true, ite_false, Bool.false_eq_true, reduceIte, reduceCtorEq, List.nodup_cons, List.nodup_nil, List.not_mem_nil, not_false_eq_true, and_self, and_true, true_and, List.mem_cons, List.mem_singleton, or_false, decide_true, decide_false, List.getElem?_cons_zero, List.getElem?_cons_succ, dEq_int, dNe_int, dEq_str, dCmp_int, dAdd_int, dSub_int, dInt_int, dAbs_int, dLen_lst, dLen_tup, dList_lst, dList_tup, dTuple_lst, dTuple_tup, dIxD_lst, dIxD_tup, dInD_lst, dInD_tup, hg], rfl⟩)
  have hb : (0 : Int) ≤ n ∧ (n : Int) ≤ 7 := by omega
  have hb2 : ((rs.length : Nat) : Int) ≤ 7 := by omega
  have z1 : (0 : Nat) < 1000 := by decide
  have z2 : (1 : Nat) < 1000 := by decide
  rcases hR with rfl | rfl
  · simp only [m_Jobs_UinitU, g_Jobs_UinitU, ↓fnOf, initE, List.replicate, List.length_cons, List.length_nil, List.cons_append, List.nil_append, Nat.sub_self, Nat.reduceSub, Nat.reduceAdd, ↓sSeq, ↓sIf_eq, ↓sSet, ↓sRet, ↓sRetN, ↓sExpr, ↓sNil, ↓sNever, ↓sFor, ↓sAsg, ↓sFldS, ↓sAugIx, ↓sSetIx, ↓putIx, ↓sPar2, ↓sPar3, ↓M.then, ↓bind_eq, ↓M.ret, ↓M.bad, ↓M.get, ↓M.esc, ↓M.arg, ↓M.nrm, ↓M.res, ↓M.wipe, look, getE, ↓put, isMu_eq, muB_none, muB_sh, muB_ow, muB_mu, ↓eVar, ↓eC, ↓eOp1, ↓eOp2, ↓eBool_eq, ↓eAnd_eq, ↓eOr_eq, ↓eNot, ↓eAndV_eq, ↓eOrV_eq, ↓eNotV_eq, ↓eIf_eq, ↓eChain, ↓aNil, ↓aCons, ↓lCons, ↓kCons, ↓sCons, ↓eTup_eq, ↓eLst_eq, ↓eLc_eq, ↓eLc2_eq, ↓iSeq_eq, ↓Cw.iEnum, ↓iZipD_eq, ↓iRng1D_eq, ↓iRng2D, ↓eLRg, ↓eTRg, ↓rg1_eq, ↓rg2, ↓eSl, ↓oNone, ↓oSome_eq, ↓eCallB, ↓getAll, ↓eCall, ↓callM, gather, scatter, muI, toRV, ↓eMake, ↓makeM, ↓eMeth_eq, ↓eFld_eq, ↓eMut_eq, ↓eMutG_eq, ↓eDnew, finR, muOf, List.set, ↓gN, ↓fstep, ↓gT, ↓gsCons, ↓gsNil, noMu, wipeE, ↓sPre_eq, ↓iPre_eq, ↓sFgt, ↓sFrz, fgt_nx, fgt_ct, fgt_rt, fgt_bk, fgt_exc, fgt_bad, frz_nx, frz_ct, frz_rt, frz_bk, frz_exc, frz_bad, frzE_nil, frzE_cons, ↓sRaise, ↓sTry, fixT, List.all_cons, List.all_nil, Bool.and_true, Bool.true_and, Bool.not_false, Bool.not_true, if_true, if_false, ite_true, ite_false, Bool.false_eq_true, reduceIte, reduceCtorEq, List.nodup_cons, List.nodup_nil, List.not_mem_nil, not_false_eq_true, and_self, and_true, true_and, List.mem_cons, List.mem_singleton, or_false, decide_true, decide_false, List.getElem?_cons_zero, List.getElem?_cons_succ, dEq_int, dNe_int, dEq_str, dCmp_int, dAdd_int, dSub_int, dInt_int, dAbs_int, dLen_lst, dLen_tup, dList_lst, dList_tup, dTuple_lst, dTuple_tup, dIxD_lst, dIxD_tup, dInD_lst, dInD_tup, is_between_int, hb, is_listed_lst, gs_length, hb2, ↓h1, z1, z2, putD, sj, job]
  · simp only [m_Jobs_UinitU, g_Jobs_UinitU, ↓fnOf, initE, List.replicate, List.length_cons, List.length_nil, List.cons_append, List.nil_append, Nat.sub_self, Nat.reduceSub, Nat.reduceAdd, ↓sSeq, ↓sIf_eq, ↓sSet, ↓sRet, ↓sRetN, ↓sExpr, ↓sNil, ↓sNever, ↓sFor, ↓sAsg, ↓sFldS, ↓sAugIx, ↓sSetIx, ↓putIx, ↓sPar2, ↓sPar3, ↓M.then, ↓bind_eq, ↓M.ret, ↓M.bad, ↓M.get, ↓M.esc, ↓M.arg, ↓M.nrm, ↓M.res, ↓M.wipe, look, getE, ↓put, isMu_eq, muB_none, muB_sh, muB_ow, muB_mu, ↓eVar, ↓eC, ↓eOp1, ↓eOp2, ↓eBool_eq, ↓eAnd_eq, ↓eOr_eq, ↓eNot, ↓eAndV_eq, ↓eOrV_eq, ↓eNotV_eq, ↓eIf_eq, ↓eChain, ↓aNil, ↓aCons, ↓lCons, ↓kCons, ↓sCons, ↓eTup_eq, ↓eLst_eq, ↓eLc_eq, ↓eLc2_eq, ↓iSeq_eq, ↓Cw.iEnum, ↓iZipD_eq, ↓iRng1D_eq, ↓iRng2D, ↓eLRg, ↓eTRg, ↓rg1_eq, ↓rg2, ↓eSl, ↓oNone, ↓oSome_eq, ↓eCallB, ↓getAll, ↓eCall, ↓callM, gather, scatter, muI, toRV, ↓eMake, ↓makeM, ↓eMeth_eq, ↓eFld_eq, ↓eMut_eq, ↓eMutG_eq, ↓eDnew, finR, muOf, List.set, ↓gN, ↓fstep, ↓gT, ↓gsCons, ↓gsNil, noMu, wipeE, ↓sPre_eq, ↓iPre_eq, ↓sFgt, ↓sFrz, fgt_nx, fgt_ct, fgt_rt, fgt_bk, fgt_exc, fgt_bad, frz_nx, frz_ct, frz_rt, frz_bk, frz_exc, frz_bad, frzE_nil, frzE_cons, ↓sRaise, ↓sTry, fixT, List.all_cons, List.all_nil, Bool.and_true, Bool.true_and, Bool.not_false, Bool.not_true, if_true, if_false, ite_true, ite_false, Bool.false_eq_true, reduceIte, reduceCtorEq, List.nodup_cons, List.nodup_nil, List.not_mem_nil, not_false_eq_true, and_self, and_true, true_and, List.mem_cons, List.mem_singleton, or_false, decide_true, decide_false, List.getElem?_cons_zero, List.getElem?_cons_succ, dEq_int, dNe_int, dEq_str, dCmp_int, dAdd_int, dSub_int, dInt_int, dAbs_int, dLen_lst, dLen_tup, dList_lst, dList_tup, dTuple_lst, dTuple_tup, dIxD_lst, dIxD_tup, dInD_lst, dInD_tup, is_between_int, hb, is_listed_tup, gs_length, hb2, ↓h1, z1, z2, putD, sj, job]
theorem init_ok {n : Nat} {rs : List (List Int)} (hn : n ≤ 7) (hl : rs.length ≤ 7) (h : ∀ r, r ∈ rs → Row n r) : m_Jobs_UinitU a [.ins (a 0) [], .int (n : Int), .lst (gs rs)] = .ok (false, .non) [job a n rs] := init_gen a hn hl h (.inl rfl)
end Cw

namespace Cw
open PySem L2
theorem enumD_gs (rs : List (List Int)) : enumD (gs rs) = (List.range rs.length).map fun (k : Nat) => D.tup [.int (k : Int), .tup (ii (rs.getD k []))] := by
  unfold enumD
  rw [gs_length]
  apply List.map_congr_left
  intro k hk
  have hk := List.mem_range.mp hk
  rw [List.getD_eq_getElem?_getD, getD_gs hk, List.getD_eq_getElem?_getD, List.getElem?_eq_getElem hk]
  rfl
theorem getD_range (rs : List (List Int)) : (List.range rs.length).map (fun k => rs.getD k []) = rs := by
  apply List.ext_getElem
  · simp
  · intro i h1 h2
    simp [List.getD_eq_getElem?_getD, List.getElem?_eq_getElem h2]
theorem openI_eq (rs : List (List Int)) (g : List Int) : ((List.range rs.length).filter fun k => hitB g (rs.getD k [])).map (fun (k : Nat) => D.int (k : Int)) = ii (openI rs g) := by
  unfold openI ii rg
  rw [List.filter_map, List.map_map]
  rfl
theorem openI_cnt (rs : List (List Int)) (g : List Int) : (openI rs g).length = cnt rs g := by
  have h := congrArg List.length (openI_eq rs g)
  rw [ii_length, List.length_map, ← List.countP_eq_length_filter] at h
  rw [← h]
  unfold cnt
  conv => rhs; rw [← getD_range rs, List.countP_map]
  rfl
theorem openI_len (rs : List (List Int)) (g : List Int) : (openI rs g).length ≤ rs.length := by
  rw [openI_cnt]; exact List.countP_le_length
variable (a : Nat → Addr)
theorem openIx_ok {rs : List (List Int)} {g : List Int} (hl : rs.length ≤ 64) (hg : g.length ≤ 64) : m_open_indexes a [.tup (gs rs), .tup (ii g)] = .ok (false, .tup (ii (openI rs g))) [] := by
  have hz : (ii (openI rs g)).length ≤ sizeLine := szL (by rw [ii_length]; exact Nat.le_trans (openI_len rs g) hl)
  simp only [m_open_indexes, g_open_indexes, ↓fnOf, initE, List.replicate, List.length_cons, List.length_nil, List.cons_append, List.nil_append, Nat.sub_self, Nat.reduceSub, Nat.reduceAdd, ↓sSeq, ↓sIf_eq, ↓sSet, ↓sRet, ↓sRetN, ↓sExpr, ↓sNil, ↓sNever, ↓sFor, ↓sAsg, ↓sFldS, ↓sAugIx, ↓sSetIx, ↓putIx, ↓sPar2, ↓sPar3, ↓M.then, ↓bind_eq, ↓M.ret, ↓M.bad, ↓M.get, ↓M.esc, ↓M.arg, ↓M.nrm, ↓M.res, ↓M.wipe, look, getE, ↓put, isMu_eq, muB_none, muB_sh, muB_ow, muB_mu, ↓eVar, ↓eC, ↓eOp1, ↓eOp2, ↓eBool_eq, ↓eAnd_eq, ↓eOr_eq, ↓eNot, ↓eAndV_eq, ↓eOrV_eq, ↓eNotV_eq, ↓eIf_eq, ↓eChain, ↓aNil, ↓aCons, ↓lCons, ↓kCons, ↓sCons, ↓eTup_eq, ↓eLst_eq, ↓eLc_eq, ↓eLc2_eq, ↓iSeq_eq, ↓Cw.iEnum, ↓iZipD_eq, ↓iRng1D_eq, ↓iRng2D, ↓eLRg, ↓eTRg, ↓rg1_eq, ↓rg2, ↓eSl, ↓oNone, ↓oSome_eq, ↓eCallB, ↓getAll, ↓eCall, ↓callM, gather, scatter, muI, toRV, ↓eMake, ↓makeM, ↓eMeth_eq, ↓eFld_eq, ↓eMut_eq, ↓eMutG_eq, ↓eDnew, finR, muOf, List.set, ↓gN, ↓fstep, ↓gT, ↓gsCons, ↓gsNil, noMu, wipeE, ↓sPre_eq, ↓iPre_eq, ↓sFgt, ↓sFrz, fgt_nx, fgt_ct, fgt_rt, fgt_bk, fgt_exc, fgt_bad, frz_nx, frz_ct, frz_rt, frz_bk, frz_exc, frz_bad, frzE_nil, frzE_cons, ↓sRaise, ↓sTry, fixT, List.all_cons, List.all_nil, Bool.and_true, Bool.true_and, Bool.not_false, Bool.not_true, if_true, if_false, ite_true, ite_false, Bool.false_eq_true, reduceIte, reduceCtorEq, List.nodup_cons, List.nodup_nil, List.not_mem_nil, not_false_eq_true, and_self, and_true, true_and, List.mem_cons, List.mem_singleton, or_false, decide_true, decide_false, List.getElem?_cons_zero, List.getElem?_cons_succ, dEq_int, dNe_int, dEq_str, dCmp_int, dAdd_int, dSub_int, dInt_int, dAbs_int, dLen_lst, dLen_tup, dList_lst, dList_tup, dTuple_lst, dTuple_tup, dIxD_lst, dIxD_tup, dInD_lst, dInD_tup, enumD_gs]
  rw [lcE (fun (k : Nat) => D.tup [.int (k : Int), .tup (ii (rs.getD k []))]) (fun k => hitB g (rs.getD k [])) (fun (k : Nat) => D.int (k : Int))]
  · simp only [↓fnOf, initE, List.replicate, List.length_cons, List.length_nil, List.cons_append, List.nil_append, Nat.sub_self, Nat.reduceSub, Nat.reduceAdd, ↓sSeq, ↓sIf_eq, ↓sSet, ↓sRet, ↓sRetN, ↓sExpr, ↓sNil, ↓sNever, ↓sFor, ↓sAsg, ↓sFldS, ↓sAugIx, ↓sSetIx, ↓putIx, ↓sPar2, ↓sPar3, ↓M.then, ↓bind_eq, ↓M.ret, ↓M.bad, ↓M.get, ↓M.esc, ↓M.arg, ↓M.nrm, ↓M.res, ↓M.wipe, look, getE, ↓put, isMu_eq, muB_none, muB_sh, muB_ow, muB_mu, ↓eVar, ↓eC, ↓eOp1, ↓eOp2, ↓eBool_eq, ↓eAnd_eq, ↓eOr_eq, ↓eNot, ↓eAndV_eq, ↓eOrV_eq, ↓eNotV_eq, ↓eIf_eq, ↓eChain, ↓aNil, ↓aCons, ↓lCons, ↓kCons, ↓sCons, ↓eTup_eq, ↓eLst_eq, ↓eLc_eq, ↓eLc2_eq, ↓iSeq_eq, ↓Cw.iEnum, ↓iZipD_eq, ↓iRng1D_eq, ↓iRng2D, ↓eLRg, ↓eTRg, ↓rg1_eq, ↓rg2, ↓eSl, ↓oNone, ↓oSome_eq, ↓eCallB, ↓getAll, ↓eCall, ↓callM, gather, scatter, muI, toRV, ↓eMake, ↓makeM, ↓eMeth_eq, ↓eFld_eq, ↓eMut_eq, ↓eMutG_eq, ↓eDnew, finR, muOf, List.set, ↓gN, ↓fstep, ↓gT, ↓gsCons, ↓gsNil, noMu, wipeE, ↓sPre_eq, ↓iPre_eq, ↓sFgt, ↓sFrz, fgt_nx, fgt_ct, fgt_rt, fgt_bk, fgt_exc, fgt_bad, frz_nx, frz_ct, frz_rt, frz_bk, frz_exc, frz_bad, frzE_nil, frzE_cons, ↓sRaise, ↓sTry, fixT, List.all_cons, List.all_nil, Bool.and_true, Bool.true_and, Bool.not_false, Bool.not_true, if_true, if_false, ite_true, ite_false, Bool.false_eq_true, reduceIte, reduceCtorEq, List.nodup_cons, List.nodup_nil, List.not_mem_nil, not_false_eq_true, and_self, and_true, true_and, List.mem_cons, List.mem_singleton, or_false, decide_true, decide_false, List.getElem?_cons_zero, List.getElem?_cons_succ, dEq_int, dNe_int, dEq_str, dCmp_int, dAdd_int, dSub_int, dInt_int, dAbs_int, dLen_lst, dLen_tup, dList_lst, dList_tup, dTuple_lst, dTuple_tup, dIxD_lst, dIxD_tup, dInD_lst, dInD_tup, openI_eq, hz]
  · intro k hk
    have h1 : (g.map fun p => D.bl (decide (p ∈ rs.getD k []))).length ≤ sizeLine := szL (by simpa using hg)
    refine ⟨_, rfl, ?_, rfl, rfl, fun _ => rfl⟩
    simp only [t_open_indexes_1, ↓fnOf, initE, List.replicate, List.length_cons, List.length_nil, List.cons_append, List.nil_append, Nat.sub_self, Nat.reduceSub, Nat.reduceAdd, ↓sSeq, ↓sIf_eq, ↓sSet, ↓sRet, ↓sRetN, ↓sExpr, ↓sNil, ↓sNever, ↓sFor, ↓sAsg, ↓sFldS, ↓sAugIx, ↓sSetIx, ↓putIx, ↓sPar2, ↓sPar3, ↓M.then, ↓bind_eq, ↓M.ret, ↓M.bad, ↓M.get, ↓M.esc, ↓M.arg, ↓M.nrm, ↓M.res, ↓M.wipe, look, getE, ↓put, isMu_eq, muB_none, muB_sh, muB_ow, muB_mu, ↓eVar, ↓eC, ↓eOp1, ↓eOp2, ↓eBool_eq, ↓eAnd_eq, ↓eOr_eq, ↓eNot, ↓eAndV_eq, ↓eOrV_eq, ↓eNotV_eq, ↓eIf_eq, ↓eChain, ↓aNil, ↓aCons, ↓lCons, ↓kCons, ↓sCons, ↓eTup_eq, ↓eLst_eq, ↓eLc_eq, ↓eLc2_eq, ↓iSeq_eq, ↓Cw.iEnum, ↓iZipD_eq, ↓iRng1D_eq, ↓iRng2D, ↓eLRg, ↓eTRg, ↓rg1_eq, ↓rg2, ↓eSl, ↓oNone, ↓oSome_eq, ↓eCallB, ↓getAll, ↓eCall, ↓callM, gather, scatter, muI, toRV, ↓eMake, ↓makeM, ↓eMeth_eq, ↓eFld_eq, ↓eMut_eq, ↓eMutG_eq, ↓eDnew, finR, muOf, List.set, ↓gN, ↓fstep, ↓gT, ↓gsCons, ↓gsNil, noMu, wipeE, ↓sPre_eq, ↓iPre_eq, ↓sFgt, ↓sFrz, fgt_nx, fgt_ct, fgt_rt, fgt_bk, fgt_exc, fgt_bad, frz_nx, frz_ct, frz_rt, frz_bk, frz_exc, frz_bad, frzE_nil, frzE_cons, ↓sRaise, ↓sTry, fixT, List.all_cons, List.all_nil, Bool.and_true, Bool.true_and, Bool.not_false, Bool.not_true, if_true, if_false, ite_true, ite_false, Bool.false_eq_true, reduceIte, reduceCtorEq, List.nodup_cons, List.nodup_nil, List.not_mem_nil, not_false_eq_true, and_self, and_true, true_and, List.mem_cons, List.mem_singleton, or_false, decide_true, decide_false, List.getElem?_cons_zero, List.getElem?_cons_succ, dEq_int, dNe_int, dEq_str, dCmp_int, dAdd_int, dSub_int, dInt_int, dAbs_int, dLen_lst, dLen_tup, dList_lst, dList_tup, dTuple_lst, dTuple_tup, dIxD_lst, dIxD_tup, dInD_lst, dInD_tup]
    rw [lcI_map fun p => D.bl (decide (p ∈ rs.getD k []))]
    · simp only [↓fnOf, initE, List.replicate, List.length_cons, List.length_nil, List.cons_append, List.nil_append, Nat.sub_self, Nat.reduceSub, Nat.reduceAdd, ↓sSeq, ↓sIf_eq, ↓sSet, ↓sRet, ↓sRetN, ↓sExpr, ↓sNil, ↓sNever, ↓sFor, ↓sAsg, ↓sFldS, ↓sAugIx, ↓sSetIx, ↓putIx, ↓sPar2, ↓sPar3, ↓M.then, ↓bind_eq, ↓M.ret, ↓M.bad, ↓M.get, ↓M.esc, ↓M.arg, ↓M.nrm, ↓M.res, ↓M.wipe, look, getE, ↓put, isMu_eq, muB_none, muB_sh, muB_ow, muB_mu, ↓eVar, ↓eC, ↓eOp1, ↓eOp2, ↓eBool_eq, ↓eAnd_eq, ↓eOr_eq, ↓eNot, ↓eAndV_eq, ↓eOrV_eq, ↓eNotV_eq, ↓eIf_eq, ↓eChain, ↓aNil, ↓aCons, ↓lCons, ↓kCons, ↓sCons, ↓eTup_eq, ↓eLst_eq, ↓eLc_eq, ↓eLc2_eq, ↓iSeq_eq, ↓Cw.iEnum, ↓iZipD_eq, ↓iRng1D_eq, ↓iRng2D, ↓eLRg, ↓eTRg, ↓rg1_eq, ↓rg2, ↓eSl, ↓oNone, ↓oSome_eq, ↓eCallB, ↓getAll, ↓eCall, ↓callM, gather, scatter, muI, toRV, ↓eMake, ↓makeM, ↓eMeth_eq, ↓eFld_eq, ↓eMut_eq, ↓eMutG_eq, ↓eDnew, finR, muOf, List.set, ↓gN, ↓fstep, ↓gT, ↓gsCons, ↓gsNil, noMu, wipeE, ↓sPre_eq, ↓iPre_eq, ↓sFgt, ↓sFrz, fgt_nx, fgt_ct, fgt_rt, fgt_bk, fgt_exc, fgt_bad, frz_nx, frz_ct, frz_rt, frz_bk, frz_exc, frz_bad, frzE_nil, frzE_cons, ↓sRaise, ↓sTry, fixT, List.all_cons, List.all_nil, Bool.and_true, Bool.true_and, Bool.not_false, Bool.not_true, if_true, if_false, ite_true, ite_false, Bool.false_eq_true, reduceIte, reduceCtorEq, List.nodup_cons, List.nodup_nil, List.not_mem_nil, not_false_eq_true, and_self, and_true, true_and, List.mem_cons, List.mem_singleton, or_false, decide_true, decide_false, List.getElem?_cons_zero, List.getElem?_cons_succ, dEq_int, dNe_int, dEq_str, dCmp_int, dAdd_int, dSub_int, dInt_int, dAbs_int, dLen_lst, dLen_tup, dList_lst, dList_tup, dTuple_lst, dTuple_tup, dIxD_lst, dIxD_tup, dInD_lst, dInD_tup, h1, dAny_f]
      rfl
    · intro p hp
      refine ⟨_, rfl, rfl, rfl, ?_⟩
      simp only [v_open_indexes_0, ↓fnOf, initE, List.replicate, List.length_cons, List.length_nil, List.cons_append, List.nil_append, Nat.sub_self, Nat.reduceSub, Nat.reduceAdd, ↓sSeq, ↓sIf_eq, ↓sSet, ↓sRet, ↓sRetN, ↓sExpr, ↓sNil, ↓sNever, ↓sFor, ↓sAsg, ↓sFldS, ↓sAugIx, ↓sSetIx, ↓putIx, ↓sPar2, ↓sPar3, ↓M.then, ↓bind_eq, ↓M.ret, ↓M.bad, ↓M.get, ↓M.esc, ↓M.arg, ↓M.nrm, ↓M.res, ↓M.wipe, look, getE, ↓put, isMu_eq, muB_none, muB_sh, muB_ow, muB_mu, ↓eVar, ↓eC, ↓eOp1, ↓eOp2, ↓eBool_eq, ↓eAnd_eq, ↓eOr_eq, ↓eNot, ↓eAndV_eq, ↓eOrV_eq, ↓eNotV_eq, ↓eIf_eq, ↓eChain, ↓aNil, ↓aCons, ↓lCons, ↓kCons, ↓sCons, ↓eTup_eq, ↓eLst_eq, ↓eLc_eq, ↓eLc2_eq, ↓iSeq_eq, ↓Cw.iEnum, ↓iZipD_eq, ↓iRng1D_eq, ↓iRng2D, ↓eLRg, ↓eTRg, ↓rg1_eq, ↓rg2, ↓eSl, ↓oNone, ↓oSome_eq, ↓eCallB, ↓getAll, ↓eCall, ↓callM, gather, scatter, muI, toRV, ↓eMake, ↓makeM, ↓eMeth_eq, ↓eFld_eq, ↓eMut_eq, ↓eMutG_eq, ↓eDnew, finR, muOf, List.set, ↓gN, ↓fstep, ↓gT, ↓gsCons, ↓gsNil, noMu, wipeE, ↓sPre_eq, ↓iPre_eq, ↓sFgt, ↓sFrz, fgt_nx, fgt_ct, fgt_rt, fgt_bk, fgt_exc, fgt_bad, frz_nx, frz_ct, frz_rt, frz_bk, frz_exc, frz_bad, frzE_nil, frzE_cons, ↓sRaise, ↓sTry, fixT, List.all_cons, List.all_nil, Bool.and_true, Bool.true_and, Bool.not_false, Bool.not_true, if_true, if_false, ite_true, ite_false, Bool.false_eq_true, reduceIte, reduceCtorEq, List.nodup_cons, List.nodup_nil, List.not_mem_nil, not_false_eq_true, and_self, and_true, true_and, List.mem_cons, List.mem_singleton, or_false, decide_true, decide_false, List.getElem?_cons_zero, List.getElem?_cons_succ, dEq_int, dNe_int, dEq_str, dCmp_int, dAdd_int, dSub_int, dInt_int, dAbs_int, dLen_lst, dLen_tup, dList_lst, dList_tup, dTuple_lst, dTuple_tup, dIxD_lst, dIxD_tup, dInD_lst, dInD_tup, dIn_tup]
theorem shortage_ok {rs : List (List Int)} {g : List Int} (hl : rs.length ≤ 64) (hg : g.length ≤ 64) : m_shortage a [.tup (gs rs), .tup (ii g)] = .ok (false, .int (df rs g)) [] := by
  have h := openIx_ok a hl hg
  simp only [m_shortage, g_shortage, ↓fnOf, initE, List.replicate, List.length_cons, List.length_nil, List.cons_append, List.nil_append, Nat.sub_self, Nat.reduceSub, Nat.reduceAdd, ↓sSeq, ↓sIf_eq, ↓sSet, ↓sRet, ↓sRetN, ↓sExpr, ↓sNil, ↓sNever, ↓sFor, ↓sAsg, ↓sFldS, ↓sAugIx, ↓sSetIx, ↓putIx, ↓sPar2, ↓sPar3, ↓M.then, ↓bind_eq, ↓M.ret, ↓M.bad, ↓M.get, ↓M.esc, ↓M.arg, ↓M.nrm, ↓M.res, ↓M.wipe, look, getE, ↓put, isMu_eq, muB_none, muB_sh, muB_ow, muB_mu, ↓eVar, ↓eC, ↓eOp1, ↓eOp2, ↓eBool_eq, ↓eAnd_eq, ↓eOr_eq, ↓eNot, ↓eAndV_eq, ↓eOrV_eq, ↓eNotV_eq, ↓eIf_eq, ↓eChain, ↓aNil, ↓aCons, ↓lCons, ↓kCons, ↓sCons, ↓eTup_eq, ↓eLst_eq, ↓eLc_eq, ↓eLc2_eq, ↓iSeq_eq, ↓Cw.iEnum, ↓iZipD_eq, ↓iRng1D_eq, ↓iRng2D, ↓eLRg, ↓eTRg, ↓rg1_eq, ↓rg2, ↓eSl, ↓oNone, ↓oSome_eq, ↓eCallB, ↓getAll, ↓eCall, ↓callM, gather, scatter, muI, toRV, ↓eMake, ↓makeM, ↓eMeth_eq, ↓eFld_eq, ↓eMut_eq, ↓eMutG_eq, ↓eDnew, finR, muOf, List.set, ↓gN, ↓fstep, ↓gT, ↓gsCons, ↓gsNil, noMu, wipeE, ↓sPre_eq, ↓iPre_eq, ↓sFgt, ↓sFrz, fgt_nx, fgt_ct, fgt_rt, fgt_bk, fgt_exc, fgt_bad, frz_nx, frz_ct, frz_rt, frz_bk, frz_exc, frz_bad, frzE_nil, frzE_cons, ↓sRaise, ↓sTry, fixT, List.all_cons, List.all_nil, Bool.and_true, Bool.true_and, Bool.not_false, Bool.not_true, if_true, if_false, ite_true, ite_false, Bool.false_eq_true, reduceIte, reduceCtorEq, List.nodup_cons, List.nodup_nil, List.not_mem_nil, not_false_eq_true, and_self, and_true, true_and, List.mem_cons, List.mem_singleton, or_false, decide_true, decide_false, List.getElem?_cons_zero, List.getElem?_cons_succ, dEq_int, dNe_int, dEq_str, dCmp_int, dAdd_int, dSub_int, dInt_int, dAbs_int, dLen_lst, dLen_tup, dList_lst, dList_tup, dTuple_lst, dTuple_tup, dIxD_lst, dIxD_tup, dInD_lst, dInD_tup, h, ii_length, openI_cnt]
  rfl
/-! ### all groups -/
theorem dEq_nilT {k m : Nat} {ds : List D} (h : NiceL k m ds) (hk : k < 64) : dEq false (.tup ds) (.tup []) = some (false, .bl ds.isEmpty) := by
  obtain ⟨xs, b1, b2, b3, b4, b5, b6⟩ := h
  have s1 : SeqAt.shaped (.tuple xs) = true := by
    unfold SeqAt.shaped
    have e : PyData.depth (.tuple xs) = PyData.depthAll xs + 1 := by simp only [PyData.depth]
    rw [e]
    simp only [PyData.canLay0, b2, Bool.true_and]
    exact decide_eq_true (by omega)
  have s2 : SeqAt.shaped (.tuple []) = true := by decide +kernel
  have e1 : toP (.tup ds) = some (.tuple xs) := by simp [toP, b1]
  have e2 : toP (.tup []) = some (.tuple []) := by simp [toP, toPL]
  have e3 : PyData.eqv (.tuple xs) (.tuple []) = xs.isEmpty := by cases xs <;> simp [PyData.eqv, PyData.eqvAll]
  show dEqP false (.tup ds) (.tup []) = _
  unfold dEqP
  simp only [e1, e2, s1, s2, and_self, if_true, e3, toPL_empty b1]
  rfl
theorem ii_empty (xs : List Int) : (ii xs).isEmpty = xs.isEmpty := by cases xs <;> rfl
theorem dEq_nilI {n : Nat} {g : List Int} (h : Row n g) (hn : n ≤ 32) : dEq false (.tup (ii g)) (.tup []) = some (false, .bl g.isEmpty) := by
  rw [← ii_empty]
  exact dEq_nilT (NiceL.ii (xs := g) fun i hi => by have := h.lt hi; omega) (by decide)
theorem ix_last {g : List Int} {q : Int} (h : g.getLast? = some q) : dIx (.tup (ii g)) (.int (-1)) = some (false, .int q) := by
  obtain ⟨l, rfl⟩ := List.getLast?_eq_some_iff.mp h
  have e : ii (l ++ [q]) = ii l ++ [.int q] := by simp [ii]
  unfold dIx
  simp only [e, L2.atI_last]
theorem add_one {g : List Int} {p : Int} (h : g.length ≤ 63) : dAdd (.tup (ii g)) (.tup [.int p]) = some (false, .tup (ii (g ++ [p]))) := by
  rw [dAdd_tup _ _ (by rw [ii_length]; exact Nat.le_trans (show g.length + 1 ≤ 64 by omega) (by decide))]
  simp [ii]
theorem flat_gs (xs : List (List Int)) (f : List Int → List (List Int)) : xs.flatMap (fun x => gs (f x)) = gs (xs.flatMap f) := by
  induction xs with
  | nil => rfl
  | cons x xs ih => rw [List.flatMap_cons, List.flatMap_cons, ih]; simp [gs]
theorem lc2E {vs vs1 : List Nat} {b : G} {tt : M Bool} {f1 : M (List D)} {a1 : G} {tt1 : M Bool} {te : M RV} {e : En} {α : Type} (enc : α → D) (F : α → List D) : ∀ {xs : List α},
    (∀ x, x ∈ xs → ∃ e1, b (enc x) e = some e1 ∧ tt e1 = .ok true e1 ∧ ∃ ds1, f1 e1 = .ok ds1 e1 ∧ noMu e1 vs1 = true ∧ lcL vs1 a1 tt1 te ds1 (wipeE e1 vs1) = .ok (F x) (wipeE e1 vs1) ∧ noMu (wipeE e1 vs1) vs = true ∧ wipeE (wipeE e1 vs1) vs = e) →
    lc2L vs vs1 b tt f1 a1 tt1 te (xs.map enc) e = .ok (xs.flatMap F) e
  | [], _ => rfl
  | x :: xs, h => by
    have ih := lc2E (b := b) (tt := tt) (f1 := f1) (a1 := a1) (tt1 := tt1) (te := te) (vs := vs) (vs1 := vs1) (e := e) enc F (xs := xs) fun y hy => h y (List.mem_cons_of_mem _ hy)
    obtain ⟨e1, h1, h2, ds1, h3, h4, h5, h6, h7⟩ := h x List.mem_cons_self
    rw [List.map_cons]
    unfold lc2L
    simp only [h1, h2, h3, h4, if_true, h5, h6, h7, ih, List.flatMap_cons]
/-- may p stand behind g: as it is asked -/
theorem okL_nil (p : Int) : okL [] p = true := rfl
theorem okL_last {g : List Int} {q : Int} (h : g.getLast? = some q) (p : Int) : okL g p = decide (q < p) := by
  unfold okL
  rw [h]
theorem groups_ok {n : Nat} (hn : n ≤ 7) : m_groups a [.int (n : Int)] = .ok (true, .lst (gs (grps n))) [] := by
  have h62 := in62_nat n (by omega)
  have h1 := forS_fold (a := gN 3) (b := b_groups_0 a) (fun k => [some (Fl.sh, .int (n : Int)), some (Fl.ow, .lst (gs (upto n k))), some (Fl.sh, .lst (gs (lvl n k))), none, none, none]) (ds := ii (rg n)) fun k hk => by
    have hk : k < n := by simpa [ii_length, rg_length] using hk
    have hz : (gs (lvl n (k + 1))).length ≤ sizeLine := szB (by
      rw [gs_length]
      have h2 := lvl_len n (k + 1)
      have h3 : n ^ (k + 1) ≤ 7 ^ (k + 1) := Nat.pow_le_pow_left hn _
      have h4 : 7 ^ (k + 1) ≤ 7 ^ 7 := Nat.pow_le_pow_right (by decide) (by omega)
      have h5 : (7 : Nat) ^ 7 = 823543 := by decide
      omega)
    have hx : dExt (gs (upto n k)) [.lst (gs (lvl n (k + 1)))] = some (.non, gs (upto n (k + 1))) := by
      unfold dExt
      have : (gs (upto n k)).length + (gs (lvl n (k + 1))).length ≤ sizeLine := by
        rw [gs_length, gs_length]
        have := upto_len hn (k + 1) (by omega)
        have e : (upto n (k + 1)).length = (upto n k).length + (lvl n (k + 1)).length := List.length_append
        have : (k + 1 + 1) * 823543 ≤ 8 * 823543 := Nat.mul_le_mul_right _ (by omega)
        exact Nat.le_trans (show _ ≤ 8 * 823543 by omega) (by decide)
      simp only [this, if_true]
      have e : gs (upto n k) ++ gs (lvl n (k + 1)) = gs (upto n (k + 1)) := by
        show _ = gs (upto n k ++ lvl n (k + 1))
        simp [gs]
      rw [e]
    simp only [b_groups_0, ↓fnOf, initE, List.replicate, List.length_cons, List.length_nil, List.cons_append, List.nil_append, Nat.sub_self, Nat.reduceSub, Nat.reduceAdd, ↓sSeq, ↓sIf_eq, ↓sSet, ↓sRet, ↓sRetN, ↓sExpr, ↓sNil, ↓sNever, ↓sFor, ↓sAsg, ↓sFldS, ↓sAugIx, ↓sSetIx, ↓putIx, ↓sPar2, ↓sPar3, ↓M.then, ↓bind_eq, ↓M.ret, ↓M.bad, ↓M.get, ↓M.esc, ↓M.arg, ↓M.nrm, ↓M.res, ↓M.wipe, look, getE, ↓put, isMu_eq, muB_none, muB_sh, muB_ow, muB_mu, ↓eVar, ↓eC, ↓eOp1, ↓eOp2, ↓eBool_eq, ↓eAnd_eq, ↓eOr_eq, ↓eNot, ↓eAndV_eq, ↓eOrV_eq, ↓eNotV_eq, ↓eIf_eq, ↓eChain, ↓aNil, ↓aCons, ↓lCons, ↓kCons, ↓sCons, ↓eTup_eq, ↓eLst_eq, ↓eLc_eq, ↓eLc2_eq, ↓iSeq_eq, ↓Cw.iEnum, ↓iZipD_eq, ↓iRng1D_eq, ↓iRng2D, ↓eLRg, ↓eTRg, ↓rg1_eq, ↓rg2, ↓eSl, ↓oNone, ↓oSome_eq, ↓eCallB, ↓getAll, ↓eCall, ↓callM, gather, scatter, muI, toRV, ↓eMake, ↓makeM, ↓eMeth_eq, ↓eFld_eq, ↓eMut_eq, ↓eMutG_eq, ↓eDnew, finR, muOf, List.set, ↓gN, ↓fstep, ↓gT, ↓gsCons, ↓gsNil, noMu, wipeE, ↓sPre_eq, ↓iPre_eq, ↓sFgt, ↓sFrz, fgt_nx, fgt_ct, fgt_rt, fgt_bk, fgt_exc, fgt_bad, frz_nx, frz_ct, frz_rt, frz_bk, frz_exc, frz_bad, frzE_nil, frzE_cons, ↓sRaise, ↓sTry, fixT, List.all_cons, List.all_nil, Bool.and_true, Bool.true_and, Bool.not_false, Bool.not_true, if_true, if_false, ite_true, ite_false, Bool.false_eq_true, reduceIte, reduceCtorEq, List.nodup_cons, List.nodup_nil, List.not_mem_nil, not_false_eq_true, and_self, and_true, true_and, List.mem_cons, List.mem_singleton, or_false, decide_true, decide_false, List.getElem?_cons_zero, List.getElem?_cons_succ, dEq_int, dNe_int, dEq_str, dCmp_int, dAdd_int, dSub_int, dInt_int, dAbs_int, dLen_lst, dLen_tup, dList_lst, dList_tup, dTuple_lst, dTuple_tup, dIxD_lst, dIxD_tup, dInD_lst, dInD_tup]
    have e0 : gs (lvl n k) = (lvl n k).map fun g => D.tup (ii g) := rfl
    rw [e0, lc2E (fun g => D.tup (ii g)) (fun g => gs (extG n g))]
    · rw [flat_gs]
      have e1 : (lvl n k).flatMap (extG n) = lvl n (k + 1) := rfl
      simp only [↓fnOf, initE, List.replicate, List.length_cons, List.length_nil, List.cons_append, List.nil_append, Nat.sub_self, Nat.reduceSub, Nat.reduceAdd, ↓sSeq, ↓sIf_eq, ↓sSet, ↓sRet, ↓sRetN, ↓sExpr, ↓sNil, ↓sNever, ↓sFor, ↓sAsg, ↓sFldS, ↓sAugIx, ↓sSetIx, ↓putIx, ↓sPar2, ↓sPar3, ↓M.then, ↓bind_eq, ↓M.ret, ↓M.bad, ↓M.get, ↓M.esc, ↓M.arg, ↓M.nrm, ↓M.res, ↓M.wipe, look, getE, ↓put, isMu_eq, muB_none, muB_sh, muB_ow, muB_mu, ↓eVar, ↓eC, ↓eOp1, ↓eOp2, ↓eBool_eq, ↓eAnd_eq, ↓eOr_eq, ↓eNot, ↓eAndV_eq, ↓eOrV_eq, ↓eNotV_eq, ↓eIf_eq, ↓eChain, ↓aNil, ↓aCons, ↓lCons, ↓kCons, ↓sCons, ↓eTup_eq, ↓eLst_eq, ↓eLc_eq, ↓eLc2_eq, ↓iSeq_eq, ↓Cw.iEnum, ↓iZipD_eq, ↓iRng1D_eq, ↓iRng2D, ↓eLRg, ↓eTRg, ↓rg1_eq, ↓rg2, ↓eSl, ↓oNone, ↓oSome_eq, ↓eCallB, ↓getAll, ↓eCall, ↓callM, gather, scatter, muI, toRV, ↓eMake, ↓makeM, ↓eMeth_eq, ↓eFld_eq, ↓eMut_eq, ↓eMutG_eq, ↓eDnew, finR, muOf, List.set, ↓gN, ↓fstep, ↓gT, ↓gsCons, ↓gsNil, noMu, wipeE, ↓sPre_eq, ↓iPre_eq, ↓sFgt, ↓sFrz, fgt_nx, fgt_ct, fgt_rt, fgt_bk, fgt_exc, fgt_bad, frz_nx, frz_ct, frz_rt, frz_bk, frz_exc, frz_bad, frzE_nil, frzE_cons, ↓sRaise, ↓sTry, fixT, List.all_cons, List.all_nil, Bool.and_true, Bool.true_and, Bool.not_false, Bool.not_true, if_true, if_false, ite_true, ite_false, Bool.false_eq_true, reduceIte, reduceCtorEq, List.nodup_cons, List.nodup_nil, List.not_mem_nil, not_false_eq_true, and_self, and_true, true_and, List.mem_cons, List.mem_singleton, or_false, decide_true, decide_false, List.getElem?_cons_zero, List.getElem?_cons_succ, dEq_int, dNe_int, dEq_str, dCmp_int, dAdd_int, dSub_int, dInt_int, dAbs_int, dLen_lst, dLen_tup, dList_lst, dList_tup, dTuple_lst, dTuple_tup, dIxD_lst, dIxD_tup, dInD_lst, dInD_tup, e1, hz, hx]
    · intro g hg
      obtain ⟨hgl, hr⟩ := mem_lvl.mp hg
      have q1 := dEq_nilI hr (by omega)
      refine ⟨_, rfl, rfl, ii (rg n), ?_, rfl, ?_, rfl, rfl⟩
      · simp only [↓fnOf, initE, List.replicate, List.length_cons, List.length_nil, List.cons_append, List.nil_append, Nat.sub_self, Nat.reduceSub, Nat.reduceAdd, ↓sSeq, ↓sIf_eq, ↓sSet, ↓sRet, ↓sRetN, ↓sExpr, ↓sNil, ↓sNever, ↓sFor, ↓sAsg, ↓sFldS, ↓sAugIx, ↓sSetIx, ↓putIx, ↓sPar2, ↓sPar3, ↓M.then, ↓bind_eq, ↓M.ret, ↓M.bad, ↓M.get, ↓M.esc, ↓M.arg, ↓M.nrm, ↓M.res, ↓M.wipe, look, getE, ↓put, isMu_eq, muB_none, muB_sh, muB_ow, muB_mu, ↓eVar, ↓eC, ↓eOp1, ↓eOp2, ↓eBool_eq, ↓eAnd_eq, ↓eOr_eq, ↓eNot, ↓eAndV_eq, ↓eOrV_eq, ↓eNotV_eq, ↓eIf_eq, ↓eChain, ↓aNil, ↓aCons, ↓lCons, ↓kCons, ↓sCons, ↓eTup_eq, ↓eLst_eq, ↓eLc_eq, ↓eLc2_eq, ↓iSeq_eq, ↓Cw.iEnum, ↓iZipD_eq, ↓iRng1D_eq, ↓iRng2D, ↓eLRg, ↓eTRg, ↓rg1_eq, ↓rg2, ↓eSl, ↓oNone, ↓oSome_eq, ↓eCallB, ↓getAll, ↓eCall, ↓callM, gather, scatter, muI, toRV, ↓eMake, ↓makeM, ↓eMeth_eq, ↓eFld_eq, ↓eMut_eq, ↓eMutG_eq, ↓eDnew, finR, muOf, List.set, ↓gN, ↓fstep, ↓gT, ↓gsCons, ↓gsNil, noMu, wipeE, ↓sPre_eq, ↓iPre_eq, ↓sFgt, ↓sFrz, fgt_nx, fgt_ct, fgt_rt, fgt_bk, fgt_exc, fgt_bad, frz_nx, frz_ct, frz_rt, frz_bk, frz_exc, frz_bad, frzE_nil, frzE_cons, ↓sRaise, ↓sTry, fixT, List.all_cons, List.all_nil, Bool.and_true, Bool.true_and, Bool.not_false, Bool.not_true, if_true, if_false, ite_true, ite_false, Bool.false_eq_true, reduceIte, reduceCtorEq, List.nodup_cons, List.nodup_nil, List.not_mem_nil, not_false_eq_true, and_self, and_true, true_and, List.mem_cons, List.mem_singleton, or_false, decide_true, decide_false, List.getElem?_cons_zero, List.getElem?_cons_succ, dEq_int, dNe_int, dEq_str, dCmp_int, dAdd_int, dSub_int, dInt_int, dAbs_int, dLen_lst, dLen_tup, dList_lst, dList_tup, dTuple_lst, dTuple_tup, dIxD_lst, dIxD_tup, dInD_lst, dInD_tup, h62, Int.toNat_natCast, rangeD_rg]
      · have e2 : gs (extG n g) = ((rg n).filter (okL g)).map fun p => D.tup (ii (g ++ [p])) := by
          unfold extG gs
          rw [List.map_map]; rfl
        rw [e2]
        apply lcI_fm
        intro p hp
        have q3 := add_one (g := g) (p := p) (by omega)
        refine ⟨_, rfl, ?_, rfl, rfl, fun _ => ?_⟩
        · cases hl : g.getLast? with
          | none =>
            have : g = [] := List.getLast?_eq_none_iff.mp hl
            subst this
            simp only [↓fnOf, initE, List.replicate, List.length_cons, List.length_nil, List.cons_append, List.nil_append, Nat.sub_self, Nat.reduceSub, Nat.reduceAdd, ↓sSeq, ↓sIf_eq, ↓sSet, ↓sRet, ↓sRetN, ↓sExpr, ↓sNil, ↓sNever, ↓sFor, ↓sAsg, ↓sFldS, ↓sAugIx, ↓sSetIx, ↓putIx, ↓sPar2, ↓sPar3, ↓M.then, ↓bind_eq, ↓M.ret, ↓M.bad, ↓M.get, ↓M.esc, ↓M.arg, ↓M.nrm, ↓M.res, ↓M.wipe, look, getE, ↓put, isMu_eq, muB_none, muB_sh, muB_ow, muB_mu, ↓eVar, ↓eC, ↓eOp1, ↓eOp2, ↓eBool_eq, ↓eAnd_eq, ↓eOr_eq, ↓eNot, ↓eAndV_eq, ↓eOrV_eq, ↓eNotV_eq, ↓eIf_eq, ↓eChain, ↓aNil, ↓aCons, ↓lCons, ↓kCons, ↓sCons, ↓eTup_eq, ↓eLst_eq, ↓eLc_eq, ↓eLc2_eq, ↓iSeq_eq, ↓Cw.iEnum, ↓iZipD_eq, ↓iRng1D_eq, ↓iRng2D, ↓eLRg, ↓eTRg, ↓rg1_eq, ↓rg2, ↓eSl, ↓oNone, ↓oSome_eq, ↓eCallB, ↓getAll, ↓eCall, ↓callM, gather, scatter, muI, toRV, ↓eMake, ↓makeM, ↓eMeth_eq, ↓eFld_eq, ↓eMut_eq, ↓eMutG_eq, ↓eDnew, finR, muOf, List.set, ↓gN, ↓fstep, ↓gT, ↓gsCons, ↓gsNil, noMu, wipeE, ↓sPre_eq, ↓iPre_eq, ↓sFgt, ↓sFrz, fgt_nx, fgt_ct, fgt_rt, fgt_bk, fgt_exc, fgt_bad, frz_nx, frz_ct, frz_rt, frz_bk, frz_exc, frz_bad, frzE_nil, frzE_cons, ↓sRaise, ↓sTry, fixT, List.all_cons, List.all_nil, Bool.and_true, Bool.true_and, Bool.not_false, Bool.not_true, if_true, if_false, ite_true, ite_false, Bool.false_eq_true, reduceIte, reduceCtorEq, List.nodup_cons, List.nodup_nil, List.not_mem_nil, not_false_eq_true, and_self, and_true, true_and, List.mem_cons, List.mem_singleton, or_false, decide_true, decide_false, List.getElem?_cons_zero, List.getElem?_cons_succ, dEq_int, dNe_int, dEq_str, dCmp_int, dAdd_int, dSub_int, dInt_int, dAbs_int, dLen_lst, dLen_tup, dList_lst, dList_tup, dTuple_lst, dTuple_tup, dIxD_lst, dIxD_tup, dInD_lst, dInD_tup, z0, q1, List.isEmpty_nil, okL_nil]
          | some q =>
            have hne : g.isEmpty = false := by
              cases g with
              | nil => cases hl
              | cons _ _ => rfl
            simp only [↓fnOf, initE, List.replicate, List.length_cons, List.length_nil, List.cons_append, List.nil_append, Nat.sub_self, Nat.reduceSub, Nat.reduceAdd, ↓sSeq, ↓sIf_eq, ↓sSet, ↓sRet, ↓sRetN, ↓sExpr, ↓sNil, ↓sNever, ↓sFor, ↓sAsg, ↓sFldS, ↓sAugIx, ↓sSetIx, ↓putIx, ↓sPar2, ↓sPar3, ↓M.then, ↓bind_eq, ↓M.ret, ↓M.bad, ↓M.get, ↓M.esc, ↓M.arg, ↓M.nrm, ↓M.res, ↓M.wipe, look, getE, ↓put, isMu_eq, muB_none, muB_sh, muB_ow, muB_mu, ↓eVar, ↓eC, ↓eOp1, ↓eOp2, ↓eBool_eq, ↓eAnd_eq, ↓eOr_eq, ↓eNot, ↓eAndV_eq, ↓eOrV_eq, ↓eNotV_eq, ↓eIf_eq, ↓eChain, ↓aNil, ↓aCons, ↓lCons, ↓kCons, ↓sCons, ↓eTup_eq, ↓eLst_eq, ↓eLc_eq, ↓eLc2_eq, ↓iSeq_eq, ↓Cw.iEnum, ↓iZipD_eq, ↓iRng1D_eq, ↓iRng2D, ↓eLRg, ↓eTRg, ↓rg1_eq, ↓rg2, ↓eSl, ↓oNone, ↓oSome_eq, ↓eCallB, ↓getAll, ↓eCall, ↓callM, gather, scatter, muI, toRV, ↓eMake, ↓makeM, ↓eMeth_eq, ↓eFld_eq, ↓eMut_eq, ↓eMutG_eq, ↓eDnew, finR, muOf, List.set, ↓gN, ↓fstep, ↓gT, ↓gsCons, ↓gsNil, noMu, wipeE, ↓sPre_eq, ↓iPre_eq, ↓sFgt, ↓sFrz, fgt_nx, fgt_ct, fgt_rt, fgt_bk, fgt_exc, fgt_bad, frz_nx, frz_ct, frz_rt, frz_bk, frz_exc, frz_bad, frzE_nil, frzE_cons, ↓sRaise, ↓sTry, fixT, List.all_cons, List.all_nil, Bool.and_true, Bool.true_and, Bool.not_false, Bool.not_true, if_true, if_false, ite_true, ite_false, Bool.false_eq_true, reduceIte, reduceCtorEq, List.nodup_cons, List.nodup_nil, List.not_mem_nil, not_false_eq_true, and_self, and_true, true_and, List.mem_cons, List.mem_singleton, or_false, decide_true, decide_false, List.getElem?_cons_zero, List.getElem?_cons_succ, dEq_int, dNe_int, dEq_str, dCmp_int, dAdd_int, dSub_int, dInt_int, dAbs_int, dLen_lst, dLen_tup, dList_lst, dList_tup, dTuple_lst, dTuple_tup, dIxD_lst, dIxD_tup, dInD_lst, dInD_tup, z0, q1, hne, ix_last hl, okL_last hl]
        · simp only [↓fnOf, initE, List.replicate, List.length_cons, List.length_nil, List.cons_append, List.nil_append, Nat.sub_self, Nat.reduceSub, Nat.reduceAdd, ↓sSeq, ↓sIf_eq, ↓sSet, ↓sRet, ↓sRetN, ↓sExpr, ↓sNil, ↓sNever, ↓sFor, ↓sAsg, ↓sFldS, ↓sAugIx, ↓sSetIx, ↓putIx, ↓sPar2, ↓sPar3, ↓M.then, ↓bind_eq, ↓M.ret, ↓M.bad, ↓M.get, ↓M.esc, ↓M.arg, ↓M.nrm, ↓M.res, ↓M.wipe, look, getE, ↓put, isMu_eq, muB_none, muB_sh, muB_ow, muB_mu, ↓eVar, ↓eC, ↓eOp1, ↓eOp2, ↓eBool_eq, ↓eAnd_eq, ↓eOr_eq, ↓eNot, ↓eAndV_eq, ↓eOrV_eq, ↓eNotV_eq, ↓eIf_eq, ↓eChain, ↓aNil, ↓aCons, ↓lCons, ↓kCons, ↓sCons, ↓eTup_eq, ↓eLst_eq, ↓eLc_eq, ↓eLc2_eq, ↓iSeq_eq, ↓Cw.iEnum, ↓iZipD_eq, ↓iRng1D_eq, ↓iRng2D, ↓eLRg, ↓eTRg, ↓rg1_eq, ↓rg2, ↓eSl, ↓oNone, ↓oSome_eq, ↓eCallB, ↓getAll, ↓eCall, ↓callM, gather, scatter, muI, toRV, ↓eMake, ↓makeM, ↓eMeth_eq, ↓eFld_eq, ↓eMut_eq, ↓eMutG_eq, ↓eDnew, finR, muOf, List.set, ↓gN, ↓fstep, ↓gT, ↓gsCons, ↓gsNil, noMu, wipeE, ↓sPre_eq, ↓iPre_eq, ↓sFgt, ↓sFrz, fgt_nx, fgt_ct, fgt_rt, fgt_bk, fgt_exc, fgt_bad, frz_nx, frz_ct, frz_rt, frz_bk, frz_exc, frz_bad, frzE_nil, frzE_cons, ↓sRaise, ↓sTry, fixT, List.all_cons, List.all_nil, Bool.and_true, Bool.true_and, Bool.not_false, Bool.not_true, if_true, if_false, ite_true, ite_false, Bool.false_eq_true, reduceIte, reduceCtorEq, List.nodup_cons, List.nodup_nil, List.not_mem_nil, not_false_eq_true, and_self, and_true, true_and, List.mem_cons, List.mem_singleton, or_false, decide_true, decide_false, List.getElem?_cons_zero, List.getElem?_cons_succ, dEq_int, dNe_int, dEq_str, dCmp_int, dAdd_int, dSub_int, dInt_int, dAbs_int, dLen_lst, dLen_tup, dList_lst, dList_tup, dTuple_lst, dTuple_tup, dIxD_lst, dIxD_tup, dInD_lst, dInD_tup, z1, q3]
  have h1 : forL (gN 3) (b_groups_0 a) (ii (rg n)) [some (Fl.sh, .int (n : Int)), some (Fl.ow, .lst [.tup []]), some (Fl.sh, .lst [.tup []]), none, none, none] = .nx [some (Fl.sh, .int (n : Int)), some (Fl.ow, .lst (gs (grps n))), some (Fl.sh, .lst (gs (lvl n n))), none, none, none] := by
    rw [ii_length, rg_length] at h1
    exact h1
  simp only [m_groups, g_groups, ↓fnOf, initE, List.replicate, List.length_cons, List.length_nil, List.cons_append, List.nil_append, Nat.sub_self, Nat.reduceSub, Nat.reduceAdd, ↓sSeq, ↓sIf_eq, ↓sSet, ↓sRet, ↓sRetN, ↓sExpr, ↓sNil, ↓sNever, ↓sFor, ↓sAsg, ↓sFldS, ↓sAugIx, ↓sSetIx, ↓putIx, ↓sPar2, ↓sPar3, ↓M.then, ↓bind_eq, ↓M.ret, ↓M.bad, ↓M.get, ↓M.esc, ↓M.arg, ↓M.nrm, ↓M.res, ↓M.wipe, look, getE, ↓put, isMu_eq, muB_none, muB_sh, muB_ow, muB_mu, ↓eVar, ↓eC, ↓eOp1, ↓eOp2, ↓eBool_eq, ↓eAnd_eq, ↓eOr_eq, ↓eNot, ↓eAndV_eq, ↓eOrV_eq, ↓eNotV_eq, ↓eIf_eq, ↓eChain, ↓aNil, ↓aCons, ↓lCons, ↓kCons, ↓sCons, ↓eTup_eq, ↓eLst_eq, ↓eLc_eq, ↓eLc2_eq, ↓iSeq_eq, ↓Cw.iEnum, ↓iZipD_eq, ↓iRng1D_eq, ↓iRng2D, ↓eLRg, ↓eTRg, ↓rg1_eq, ↓rg2, ↓eSl, ↓oNone, ↓oSome_eq, ↓eCallB, ↓getAll, ↓eCall, ↓callM, gather, scatter, muI, toRV, ↓eMake, ↓makeM, ↓eMeth_eq, ↓eFld_eq, ↓eMut_eq, ↓eMutG_eq, ↓eDnew, finR, muOf, List.set, ↓gN, ↓fstep, ↓gT, ↓gsCons, ↓gsNil, noMu, wipeE, ↓sPre_eq, ↓iPre_eq, ↓sFgt, ↓sFrz, fgt_nx, fgt_ct, fgt_rt, fgt_bk, fgt_exc, fgt_bad, frz_nx, frz_ct, frz_rt, frz_bk, frz_exc, frz_bad, frzE_nil, frzE_cons, ↓sRaise, ↓sTry, fixT, List.all_cons, List.all_nil, Bool.and_true, Bool.true_and, Bool.not_false, Bool.not_true, if_true, if_false, ite_true, ite_false, Bool.false_eq_true, reduceIte, reduceCtorEq, List.nodup_cons, List.nodup_nil, List.not_mem_nil, not_false_eq_true, and_self, and_true, true_and, List.mem_cons, List.mem_singleton, or_false, decide_true, decide_false, List.getElem?_cons_zero, List.getElem?_cons_succ, dEq_int, dNe_int, dEq_str, dCmp_int, dAdd_int, dSub_int, dInt_int, dAbs_int, dLen_lst, dLen_tup, dList_lst, dList_tup, dTuple_lst, dTuple_tup, dIxD_lst, dIxD_tup, dInD_lst, dInD_tup, z0, z1, h62, Int.toNat_natCast, rangeD_rg, ↓h1]
end Cw

namespace Cw
open PySem L2
theorem prts_len {g : List Int} (h : g.length ≤ 7) : (prts g).length ≤ 6588344 := by
  unfold prts
  rw [List.length_map]; exact grps_len h
theorem ix_getD {g : List Int} {i : Int} (h : 0 ≤ i ∧ i < (g.length : Int)) : dIx (.tup (ii g)) (.int i) = some (false, .int (g.getD i.toNat 0)) := by
  obtain ⟨k, rfl⟩ := Int.eq_ofNat_of_zero_le h.1
  have hk : k < g.length := by omega
  rw [ix_ii hk, Int.toNat_natCast, List.getD_eq_getElem?_getD, List.getElem?_eq_getElem hk]
  rfl
theorem map_pk (g pl : List Int) : (pl.map fun i => D.int (g.getD i.toNat 0)) = ii (pk g pl) := by
  unfold ii pk
  rw [List.map_map]; rfl
theorem map_prts (g : List Int) : ((grps g.length).map fun pl => D.tup (ii (pk g pl))) = gs (prts g) := by
  unfold gs prts
  rw [List.map_map]; rfl
variable (a : Nat → Addr)
theorem parts_ok {g : List Int} (hg : g.length ≤ 7) : m_parts a [.tup (ii g)] = .ok (true, .lst (gs (prts g))) [] := by
  have h1 := groups_ok a hg
  have hz : (gs (prts g)).length ≤ sizeLine := szB (by rw [gs_length]; exact prts_len hg)
  simp only [m_parts, g_parts, ↓fnOf, initE, List.replicate, List.length_cons, List.length_nil, List.cons_append, List.nil_append, Nat.sub_self, Nat.reduceSub, Nat.reduceAdd, ↓sSeq, ↓sIf_eq, ↓sSet, ↓sRet, ↓sRetN, ↓sExpr, ↓sNil, ↓sNever, ↓sFor, ↓sAsg, ↓sFldS, ↓sAugIx, ↓sSetIx, ↓putIx, ↓sPar2, ↓sPar3, ↓M.then, ↓bind_eq, ↓M.ret, ↓M.bad, ↓M.get, ↓M.esc, ↓M.arg, ↓M.nrm, ↓M.res, ↓M.wipe, look, getE, ↓put, isMu_eq, muB_none, muB_sh, muB_ow, muB_mu, ↓eVar, ↓eC, ↓eOp1, ↓eOp2, ↓eBool_eq, ↓eAnd_eq, ↓eOr_eq, ↓eNot, ↓eAndV_eq, ↓eOrV_eq, ↓eNotV_eq, ↓eIf_eq, ↓eChain, ↓aNil, ↓aCons, ↓lCons, ↓kCons, ↓sCons, ↓eTup_eq, ↓eLst_eq, ↓eLc_eq, ↓eLc2_eq, ↓iSeq_eq, ↓Cw.iEnum, ↓iZipD_eq, ↓iRng1D_eq, ↓iRng2D, ↓eLRg, ↓eTRg, ↓rg1_eq, ↓rg2, ↓eSl, ↓oNone, ↓oSome_eq, ↓eCallB, ↓getAll, ↓eCall, ↓callM, gather, scatter, muI, toRV, ↓eMake, ↓makeM, ↓eMeth_eq, ↓eFld_eq, ↓eMut_eq, ↓eMutG_eq, ↓eDnew, finR, muOf, List.set, ↓gN, ↓fstep, ↓gT, ↓gsCons, ↓gsNil, noMu, wipeE, ↓sPre_eq, ↓iPre_eq, ↓sFgt, ↓sFrz, fgt_nx, fgt_ct, fgt_rt, fgt_bk, fgt_exc, fgt_bad, frz_nx, frz_ct, frz_rt, frz_bk, frz_exc, frz_bad, frzE_nil, frzE_cons, ↓sRaise, ↓sTry, fixT, List.all_cons, List.all_nil, Bool.and_true, Bool.true_and, Bool.not_false, Bool.not_true, if_true, if_false, ite_true, ite_false, Bool.false_eq_true, reduceIte, reduceCtorEq, List.nodup_cons, List.nodup_nil, List.not_mem_nil, not_false_eq_true, and_self, and_true, true_and, List.mem_cons, List.mem_singleton, or_false, decide_true, decide_false, List.getElem?_cons_zero, List.getElem?_cons_succ, dEq_int, dNe_int, dEq_str, dCmp_int, dAdd_int, dSub_int, dInt_int, dAbs_int, dLen_lst, dLen_tup, dList_lst, dList_tup, dTuple_lst, dTuple_tup, dIxD_lst, dIxD_tup, dInD_lst, dInD_tup, ii_length, h1]
  rw [lcG_map fun pl => D.tup (ii (pk g pl))]
  · simp only [↓fnOf, initE, List.replicate, List.length_cons, List.length_nil, List.cons_append, List.nil_append, Nat.sub_self, Nat.reduceSub, Nat.reduceAdd, ↓sSeq, ↓sIf_eq, ↓sSet, ↓sRet, ↓sRetN, ↓sExpr, ↓sNil, ↓sNever, ↓sFor, ↓sAsg, ↓sFldS, ↓sAugIx, ↓sSetIx, ↓putIx, ↓sPar2, ↓sPar3, ↓M.then, ↓bind_eq, ↓M.ret, ↓M.bad, ↓M.get, ↓M.esc, ↓M.arg, ↓M.nrm, ↓M.res, ↓M.wipe, look, getE, ↓put, isMu_eq, muB_none, muB_sh, muB_ow, muB_mu, ↓eVar, ↓eC, ↓eOp1, ↓eOp2, ↓eBool_eq, ↓eAnd_eq, ↓eOr_eq, ↓eNot, ↓eAndV_eq, ↓eOrV_eq, ↓eNotV_eq, ↓eIf_eq, ↓eChain, ↓aNil, ↓aCons, ↓lCons, ↓kCons, ↓sCons, ↓eTup_eq, ↓eLst_eq, ↓eLc_eq, ↓eLc2_eq, ↓iSeq_eq, ↓Cw.iEnum, ↓iZipD_eq, ↓iRng1D_eq, ↓iRng2D, ↓eLRg, ↓eTRg, ↓rg1_eq, ↓rg2, ↓eSl, ↓oNone, ↓oSome_eq, ↓eCallB, ↓getAll, ↓eCall, ↓callM, gather, scatter, muI, toRV, ↓eMake, ↓makeM, ↓eMeth_eq, ↓eFld_eq, ↓eMut_eq, ↓eMutG_eq, ↓eDnew, finR, muOf, List.set, ↓gN, ↓fstep, ↓gT, ↓gsCons, ↓gsNil, noMu, wipeE, ↓sPre_eq, ↓iPre_eq, ↓sFgt, ↓sFrz, fgt_nx, fgt_ct, fgt_rt, fgt_bk, fgt_exc, fgt_bad, frz_nx, frz_ct, frz_rt, frz_bk, frz_exc, frz_bad, frzE_nil, frzE_cons, ↓sRaise, ↓sTry, fixT, List.all_cons, List.all_nil, Bool.and_true, Bool.true_and, Bool.not_false, Bool.not_true, if_true, if_false, ite_true, ite_false, Bool.false_eq_true, reduceIte, reduceCtorEq, List.nodup_cons, List.nodup_nil, List.not_mem_nil, not_false_eq_true, and_self, and_true, true_and, List.mem_cons, List.mem_singleton, or_false, decide_true, decide_false, List.getElem?_cons_zero, List.getElem?_cons_succ, dEq_int, dNe_int, dEq_str, dCmp_int, dAdd_int, dSub_int, dInt_int, dAbs_int, dLen_lst, dLen_tup, dList_lst, dList_tup, dTuple_lst, dTuple_tup, dIxD_lst, dIxD_tup, dInD_lst, dInD_tup, map_prts, hz]
  · intro pl hpl
    have hr := mem_grps.mp hpl
    have hz2 : (ii (pk g pl)).length ≤ sizeLine := szL (by
      rw [ii_length]; unfold pk; rw [List.length_map]; have := hr.len; omega)
    refine ⟨_, rfl, rfl, rfl, ?_⟩
    simp only [v_parts_1, ↓fnOf, initE, List.replicate, List.length_cons, List.length_nil, List.cons_append, List.nil_append, Nat.sub_self, Nat.reduceSub, Nat.reduceAdd, ↓sSeq, ↓sIf_eq, ↓sSet, ↓sRet, ↓sRetN, ↓sExpr, ↓sNil, ↓sNever, ↓sFor, ↓sAsg, ↓sFldS, ↓sAugIx, ↓sSetIx, ↓putIx, ↓sPar2, ↓sPar3, ↓M.then, ↓bind_eq, ↓M.ret, ↓M.bad, ↓M.get, ↓M.esc, ↓M.arg, ↓M.nrm, ↓M.res, ↓M.wipe, look, getE, ↓put, isMu_eq, muB_none, muB_sh, muB_ow, muB_mu, ↓eVar, ↓eC, ↓eOp1, ↓eOp2, ↓eBool_eq, ↓eAnd_eq, ↓eOr_eq, ↓eNot, ↓eAndV_eq, ↓eOrV_eq, ↓eNotV_eq, ↓eIf_eq, ↓eChain, ↓aNil, ↓aCons, ↓lCons, ↓kCons, ↓sCons, ↓eTup_eq, ↓eLst_eq, ↓eLc_eq, ↓eLc2_eq, ↓iSeq_eq, ↓Cw.iEnum, ↓iZipD_eq, ↓iRng1D_eq, ↓iRng2D, ↓eLRg, ↓eTRg, ↓rg1_eq, ↓rg2, ↓eSl, ↓oNone, ↓oSome_eq, ↓eCallB, ↓getAll, ↓eCall, ↓callM, gather, scatter, muI, toRV, ↓eMake, ↓makeM, ↓eMeth_eq, ↓eFld_eq, ↓eMut_eq, ↓eMutG_eq, ↓eDnew, finR, muOf, List.set, ↓gN, ↓fstep, ↓gT, ↓gsCons, ↓gsNil, noMu, wipeE, ↓sPre_eq, ↓iPre_eq, ↓sFgt, ↓sFrz, fgt_nx, fgt_ct, fgt_rt, fgt_bk, fgt_exc, fgt_bad, frz_nx, frz_ct, frz_rt, frz_bk, frz_exc, frz_bad, frzE_nil, frzE_cons, ↓sRaise, ↓sTry, fixT, List.all_cons, List.all_nil, Bool.and_true, Bool.true_and, Bool.not_false, Bool.not_true, if_true, if_false, ite_true, ite_false, Bool.false_eq_true, reduceIte, reduceCtorEq, List.nodup_cons, List.nodup_nil, List.not_mem_nil, not_false_eq_true, and_self, and_true, true_and, List.mem_cons, List.mem_singleton, or_false, decide_true, decide_false, List.getElem?_cons_zero, List.getElem?_cons_succ, dEq_int, dNe_int, dEq_str, dCmp_int, dAdd_int, dSub_int, dInt_int, dAbs_int, dLen_lst, dLen_tup, dList_lst, dList_tup, dTuple_lst, dTuple_tup, dIxD_lst, dIxD_tup, dInD_lst, dInD_tup]
    rw [lcI_map fun i => D.int (g.getD i.toNat 0)]
    · simp only [↓fnOf, initE, List.replicate, List.length_cons, List.length_nil, List.cons_append, List.nil_append, Nat.sub_self, Nat.reduceSub, Nat.reduceAdd, ↓sSeq, ↓sIf_eq, ↓sSet, ↓sRet, ↓sRetN, ↓sExpr, ↓sNil, ↓sNever, ↓sFor, ↓sAsg, ↓sFldS, ↓sAugIx, ↓sSetIx, ↓putIx, ↓sPar2, ↓sPar3, ↓M.then, ↓bind_eq, ↓M.ret, ↓M.bad, ↓M.get, ↓M.esc, ↓M.arg, ↓M.nrm, ↓M.res, ↓M.wipe, look, getE, ↓put, isMu_eq, muB_none, muB_sh, muB_ow, muB_mu, ↓eVar, ↓eC, ↓eOp1, ↓eOp2, ↓eBool_eq, ↓eAnd_eq, ↓eOr_eq, ↓eNot, ↓eAndV_eq, ↓eOrV_eq, ↓eNotV_eq, ↓eIf_eq, ↓eChain, ↓aNil, ↓aCons, ↓lCons, ↓kCons, ↓sCons, ↓eTup_eq, ↓eLst_eq, ↓eLc_eq, ↓eLc2_eq, ↓iSeq_eq, ↓Cw.iEnum, ↓iZipD_eq, ↓iRng1D_eq, ↓iRng2D, ↓eLRg, ↓eTRg, ↓rg1_eq, ↓rg2, ↓eSl, ↓oNone, ↓oSome_eq, ↓eCallB, ↓getAll, ↓eCall, ↓callM, gather, scatter, muI, toRV, ↓eMake, ↓makeM, ↓eMeth_eq, ↓eFld_eq, ↓eMut_eq, ↓eMutG_eq, ↓eDnew, finR, muOf, List.set, ↓gN, ↓fstep, ↓gT, ↓gsCons, ↓gsNil, noMu, wipeE, ↓sPre_eq, ↓iPre_eq, ↓sFgt, ↓sFrz, fgt_nx, fgt_ct, fgt_rt, fgt_bk, fgt_exc, fgt_bad, frz_nx, frz_ct, frz_rt, frz_bk, frz_exc, frz_bad, frzE_nil, frzE_cons, ↓sRaise, ↓sTry, fixT, List.all_cons, List.all_nil, Bool.and_true, Bool.true_and, Bool.not_false, Bool.not_true, if_true, if_false, ite_true, ite_false, Bool.false_eq_true, reduceIte, reduceCtorEq, List.nodup_cons, List.nodup_nil, List.not_mem_nil, not_false_eq_true, and_self, and_true, true_and, List.mem_cons, List.mem_singleton, or_false, decide_true, decide_false, List.getElem?_cons_zero, List.getElem?_cons_succ, dEq_int, dNe_int, dEq_str, dCmp_int, dAdd_int, dSub_int, dInt_int, dAbs_int, dLen_lst, dLen_tup, dList_lst, dList_tup, dTuple_lst, dTuple_tup, dIxD_lst, dIxD_tup, dInD_lst, dInD_tup, map_pk, hz2]
    · intro i hi
      have q := ix_getD (hr.lt hi)
      refine ⟨_, rfl, rfl, rfl, ?_⟩
      simp only [v_parts_0, ↓fnOf, initE, List.replicate, List.length_cons, List.length_nil, List.cons_append, List.nil_append, Nat.sub_self, Nat.reduceSub, Nat.reduceAdd, ↓sSeq, ↓sIf_eq, ↓sSet, ↓sRet, ↓sRetN, ↓sExpr, ↓sNil, ↓sNever, ↓sFor, ↓sAsg, ↓sFldS, ↓sAugIx, ↓sSetIx, ↓putIx, ↓sPar2, ↓sPar3, ↓M.then, ↓bind_eq, ↓M.ret, ↓M.bad, ↓M.get, ↓M.esc, ↓M.arg, ↓M.nrm, ↓M.res, ↓M.wipe, look, getE, ↓put, isMu_eq, muB_none, muB_sh, muB_ow, muB_mu, ↓eVar, ↓eC, ↓eOp1, ↓eOp2, ↓eBool_eq, ↓eAnd_eq, ↓eOr_eq, ↓eNot, ↓eAndV_eq, ↓eOrV_eq, ↓eNotV_eq, ↓eIf_eq, ↓eChain, ↓aNil, ↓aCons, ↓lCons, ↓kCons, ↓sCons, ↓eTup_eq, ↓eLst_eq, ↓eLc_eq, ↓eLc2_eq, ↓iSeq_eq, ↓Cw.iEnum, ↓iZipD_eq, ↓iRng1D_eq, ↓iRng2D, ↓eLRg, ↓eTRg, ↓rg1_eq, ↓rg2, ↓eSl, ↓oNone, ↓oSome_eq, ↓eCallB, ↓getAll, ↓eCall, ↓callM, gather, scatter, muI, toRV, ↓eMake, ↓makeM, ↓eMeth_eq, ↓eFld_eq, ↓eMut_eq, ↓eMutG_eq, ↓eDnew, finR, muOf, List.set, ↓gN, ↓fstep, ↓gT, ↓gsCons, ↓gsNil, noMu, wipeE, ↓sPre_eq, ↓iPre_eq, ↓sFgt, ↓sFrz, fgt_nx, fgt_ct, fgt_rt, fgt_bk, fgt_exc, fgt_bad, frz_nx, frz_ct, frz_rt, frz_bk, frz_exc, frz_bad, frzE_nil, frzE_cons, ↓sRaise, ↓sTry, fixT, List.all_cons, List.all_nil, Bool.and_true, Bool.true_and, Bool.not_false, Bool.not_true, if_true, if_false, ite_true, ite_false, Bool.false_eq_true, reduceIte, reduceCtorEq, List.nodup_cons, List.nodup_nil, List.not_mem_nil, not_false_eq_true, and_self, and_true, true_and, List.mem_cons, List.mem_singleton, or_false, decide_true, decide_false, List.getElem?_cons_zero, List.getElem?_cons_succ, dEq_int, dNe_int, dEq_str, dCmp_int, dAdd_int, dSub_int, dInt_int, dAbs_int, dLen_lst, dLen_tup, dList_lst, dList_tup, dTuple_lst, dTuple_tup, dIxD_lst, dIxD_tup, dInD_lst, dInD_tup, q]
theorem gs_get {l : List (List Int)} {k : Nat} (h : k < (gs l).length) : (gs l)[k] = .tup (ii (l[k]'(by rwa [gs_length] at h))) := by
  simp [gs]
/-- the state of short_part behind k parts -/
def spK (rs : List (List Int)) (g : List Int) (k : Nat) : List Int × Int := ((prts g).take k).foldl (spStep rs) ([], 0)
theorem spK_succ (rs : List (List Int)) (g : List Int) {k : Nat} (h : k < (prts g).length) : spK rs g (k + 1) = spStep rs (spK rs g k) (prts g)[k] := by
  unfold spK
  rw [List.take_add_one, List.getElem?_eq_getElem h, List.foldl_append]
  rfl
theorem short_part_ok {n : Nat} {rs : List (List Int)} {g : List Int} (hl : rs.length ≤ 64) (hg : g.length ≤ 7) (hn : g.Nodup) : m_short_part a [job a n rs, .tup (ii g)] = .ok (false, .tup (ii (spF rs g))) [] := by
  have h1 := parts_ok a hg
  have h2 := forS_fold (a := gN 4) (b := b_short_part_0 a) (fun k => [some (Fl.sh, job a n rs), none, some (Fl.sh, .tup (ii (spK rs g k).1)), some (Fl.sh, .int (spK rs g k).2), none, none]) (ds := gs (prts g)) fun k hk => by
    have hk' : k < (prts g).length := by rwa [gs_length] at hk
    have hs := mem_prts.mp (List.getElem_mem hk')
    have hsl : (prts g)[k].length ≤ 64 := Nat.le_trans hs.length_le (by omega)
    have q := shortage_ok a (rs := rs) (g := (prts g)[k]) hl hsl
    rw [gs_get hk, spK_succ rs g hk']
    generalize spK rs g k = st
    unfold spStep
    by_cases c : st.2 < df rs (prts g)[k]
    · simp only [b_short_part_0, job, ↓fnOf, initE, List.replicate, List.length_cons, List.length_nil, List.cons_append, List.nil_append, Nat.sub_self, Nat.reduceSub, Nat.reduceAdd, ↓sSeq, ↓sIf_eq, ↓sSet, ↓sRet, ↓sRetN, ↓sExpr, ↓sNil, ↓sNever, ↓sFor, ↓sAsg, ↓sFldS, ↓sAugIx, ↓sSetIx, ↓putIx, ↓sPar2, ↓sPar3, ↓M.then, ↓bind_eq, ↓M.ret, ↓M.bad, ↓M.get, ↓M.esc, ↓M.arg, ↓M.nrm, ↓M.res, ↓M.wipe, look, getE, ↓put, isMu_eq, muB_none, muB_sh, muB_ow, muB_mu, ↓eVar, ↓eC, ↓eOp1, ↓eOp2, ↓eBool_eq, ↓eAnd_eq, ↓eOr_eq, ↓eNot, ↓eAndV_eq, ↓eOrV_eq, ↓eNotV_eq, ↓eIf_eq, ↓eChain, ↓aNil, ↓aCons, ↓lCons, ↓kCons, ↓sCons, ↓eTup_eq, ↓eLst_eq, ↓eLc_eq, ↓eLc2_eq, ↓iSeq_eq, ↓Cw.iEnum, ↓iZipD_eq, ↓iRng1D_eq, ↓iRng2D, ↓eLRg, ↓eTRg, ↓rg1_eq, ↓rg2, ↓eSl, ↓oNone, ↓oSome_eq, ↓eCallB, ↓getAll, ↓eCall, ↓callM, gather, scatter, muI, toRV, ↓eMake, ↓makeM, ↓eMeth_eq, ↓eFld_eq, ↓eMut_eq, ↓eMutG_eq, ↓eDnew, finR, muOf, List.set, ↓gN, ↓fstep, ↓gT, ↓gsCons, ↓gsNil, noMu, wipeE, ↓sPre_eq, ↓iPre_eq, ↓sFgt, ↓sFrz, fgt_nx, fgt_ct, fgt_rt, fgt_bk, fgt_exc, fgt_bad, frz_nx, frz_ct, frz_rt, frz_bk, frz_exc, frz_bad, frzE_nil, frzE_cons, ↓sRaise, ↓sTry, fixT, List.all_cons, List.all_nil, Bool.and_true, Bool.true_and, Bool.not_false, Bool.not_true, if_true, if_false, ite_true, ite_false, Bool.false_eq_true, reduceIte, reduceCtorEq, List.nodup_cons, List.nodup_nil, List.not_mem_nil, not_false_eq_true, and_self, and_true, true_and, List.mem_cons, List.mem_singleton, or_false, decide_true, decide_false, List.getElem?_cons_zero, List.getElem?_cons_succ, dEq_int, dNe_int, dEq_str, dCmp_int, dAdd_int, dSub_int, dInt_int, dAbs_int, dLen_lst, dLen_tup, dList_lst, dList_tup, dTuple_lst, dTuple_tup, dIxD_lst, dIxD_tup, dInD_lst, dInD_tup, fld_jobs, q, c, if_pos]
    · simp only [b_short_part_0, job, ↓fnOf, initE, List.replicate, List.length_cons, List.length_nil, List.cons_append, List.nil_append, Nat.sub_self, Nat.reduceSub, Nat.reduceAdd, ↓sSeq, ↓sIf_eq, ↓sSet, ↓sRet, ↓sRetN, ↓sExpr, ↓sNil, ↓sNever, ↓sFor, ↓sAsg, ↓sFldS, ↓sAugIx, ↓sSetIx, ↓putIx, ↓sPar2, ↓sPar3, ↓M.then, ↓bind_eq, ↓M.ret, ↓M.bad, ↓M.get, ↓M.esc, ↓M.arg, ↓M.nrm, ↓M.res, ↓M.wipe, look, getE, ↓put, isMu_eq, muB_none, muB_sh, muB_ow, muB_mu, ↓eVar, ↓eC, ↓eOp1, ↓eOp2, ↓eBool_eq, ↓eAnd_eq, ↓eOr_eq, ↓eNot, ↓eAndV_eq, ↓eOrV_eq, ↓eNotV_eq, ↓eIf_eq, ↓eChain, ↓aNil, ↓aCons, ↓lCons, ↓kCons, ↓sCons, ↓eTup_eq, ↓eLst_eq, ↓eLc_eq, ↓eLc2_eq, ↓iSeq_eq, ↓Cw.iEnum, ↓iZipD_eq, ↓iRng1D_eq, ↓iRng2D, ↓eLRg, ↓eTRg, ↓rg1_eq, ↓rg2, ↓eSl, ↓oNone, ↓oSome_eq, ↓eCallB, ↓getAll, ↓eCall, ↓callM, gather, scatter, muI, toRV, ↓eMake, ↓makeM, ↓eMeth_eq, ↓eFld_eq, ↓eMut_eq, ↓eMutG_eq, ↓eDnew, finR, muOf, List.set, ↓gN, ↓fstep, ↓gT, ↓gsCons, ↓gsNil, noMu, wipeE, ↓sPre_eq, ↓iPre_eq, ↓sFgt, ↓sFrz, fgt_nx, fgt_ct, fgt_rt, fgt_bk, fgt_exc, fgt_bad, frz_nx, frz_ct, frz_rt, frz_bk, frz_exc, frz_bad, frzE_nil, frzE_cons, ↓sRaise, ↓sTry, fixT, List.all_cons, List.all_nil, Bool.and_true, Bool.true_and, Bool.not_false, Bool.not_true, if_true, if_false, ite_true, ite_false, Bool.false_eq_true, reduceIte, reduceCtorEq, List.nodup_cons, List.nodup_nil, List.not_mem_nil, not_false_eq_true, and_self, and_true, true_and, List.mem_cons, List.mem_singleton, or_false, decide_true, decide_false, List.getElem?_cons_zero, List.getElem?_cons_succ, dEq_int, dNe_int, dEq_str, dCmp_int, dAdd_int, dSub_int, dInt_int, dAbs_int, dLen_lst, dLen_tup, dList_lst, dList_tup, dTuple_lst, dTuple_tup, dIxD_lst, dIxD_tup, dInD_lst, dInD_tup, fld_jobs, q, c, if_neg, if_false]
  have h3 : forL (gN 4) (b_short_part_0 a) (gs (prts g)) [some (Fl.sh, job a n rs), none, some (Fl.sh, .tup []), some (Fl.sh, .int 0), none, none] = .nx [some (Fl.sh, job a n rs), none, some (Fl.sh, .tup (ii (spF rs g))), some (Fl.sh, .int (spK rs g (prts g).length).2), none, none] := by
    rw [gs_length] at h2
    have e : (spK rs g (prts g).length).1 = spF rs g := by unfold spK spF; rw [List.take_length]
    rw [e] at h2
    exact h2
  simp only [m_short_part, g_short_part, ↓fnOf, initE, List.replicate, List.length_cons, List.length_nil, List.cons_append, List.nil_append, Nat.sub_self, Nat.reduceSub, Nat.reduceAdd, ↓sSeq, ↓sIf_eq, ↓sSet, ↓sRet, ↓sRetN, ↓sExpr, ↓sNil, ↓sNever, ↓sFor, ↓sAsg, ↓sFldS, ↓sAugIx, ↓sSetIx, ↓putIx, ↓sPar2, ↓sPar3, ↓M.then, ↓bind_eq, ↓M.ret, ↓M.bad, ↓M.get, ↓M.esc, ↓M.arg, ↓M.nrm, ↓M.res, ↓M.wipe, look, getE, ↓put, isMu_eq, muB_none, muB_sh, muB_ow, muB_mu, ↓eVar, ↓eC, ↓eOp1, ↓eOp2, ↓eBool_eq, ↓eAnd_eq, ↓eOr_eq, ↓eNot, ↓eAndV_eq, ↓eOrV_eq, ↓eNotV_eq, ↓eIf_eq, ↓eChain, ↓aNil, ↓aCons, ↓lCons, ↓kCons, ↓sCons, ↓eTup_eq, ↓eLst_eq, ↓eLc_eq, ↓eLc2_eq, ↓iSeq_eq, ↓Cw.iEnum, ↓iZipD_eq, ↓iRng1D_eq, ↓iRng2D, ↓eLRg, ↓eTRg, ↓rg1_eq, ↓rg2, ↓eSl, ↓oNone, ↓oSome_eq, ↓eCallB, ↓getAll, ↓eCall, ↓callM, gather, scatter, muI, toRV, ↓eMake, ↓makeM, ↓eMeth_eq, ↓eFld_eq, ↓eMut_eq, ↓eMutG_eq, ↓eDnew, finR, muOf, List.set, ↓gN, ↓fstep, ↓gT, ↓gsCons, ↓gsNil, noMu, wipeE, ↓sPre_eq, ↓iPre_eq, ↓sFgt, ↓sFrz, fgt_nx, fgt_ct, fgt_rt, fgt_bk, fgt_exc, fgt_bad, frz_nx, frz_ct, frz_rt, frz_bk, frz_exc, frz_bad, frzE_nil, frzE_cons, ↓sRaise, ↓sTry, fixT, List.all_cons, List.all_nil, Bool.and_true, Bool.true_and, Bool.not_false, Bool.not_true, if_true, if_false, ite_true, ite_false, Bool.false_eq_true, reduceIte, reduceCtorEq, List.nodup_cons, List.nodup_nil, List.not_mem_nil, not_false_eq_true, and_self, and_true, true_and, List.mem_cons, List.mem_singleton, or_false, decide_true, decide_false, List.getElem?_cons_zero, List.getElem?_cons_succ, dEq_int, dNe_int, dEq_str, dCmp_int, dAdd_int, dSub_int, dInt_int, dAbs_int, dLen_lst, dLen_tup, dList_lst, dList_tup, dTuple_lst, dTuple_tup, dIxD_lst, dIxD_tup, dInD_lst, dInD_tup, z0, z2, h1, ↓h3]
theorem strength_ok {n : Nat} {rs : List (List Int)} {g : List Int} (hl : rs.length ≤ 64) (hg : g.length ≤ 7) (hn : g.Nodup) : m_strength a [job a n rs, .tup (ii g)] = .ok (false, .int (stg rs g)) [] := by
  have h1 := short_part_ok a (n := n) hl hg hn
  have hs := (spF_lst (rs := rs) hn).sub
  have h2 := shortage_ok a (rs := rs) (g := spF rs g) hl (Nat.le_trans hs.length_le (by omega))
  have h1 : m_short_part a [.ins (a 0) [("size", .int (n : Int)), ("jobs", .tup (gs rs))], .tup (ii g)] = .ok (false, .tup (ii (spF rs g))) [] := h1
  simp only [m_strength, g_strength, job, ↓fnOf, initE, List.replicate, List.length_cons, List.length_nil, List.cons_append, List.nil_append, Nat.sub_self, Nat.reduceSub, Nat.reduceAdd, ↓sSeq, ↓sIf_eq, ↓sSet, ↓sRet, ↓sRetN, ↓sExpr, ↓sNil, ↓sNever, ↓sFor, ↓sAsg, ↓sFldS, ↓sAugIx, ↓sSetIx, ↓putIx, ↓sPar2, ↓sPar3, ↓M.then, ↓bind_eq, ↓M.ret, ↓M.bad, ↓M.get, ↓M.esc, ↓M.arg, ↓M.nrm, ↓M.res, ↓M.wipe, look, getE, ↓put, isMu_eq, muB_none, muB_sh, muB_ow, muB_mu, ↓eVar, ↓eC, ↓eOp1, ↓eOp2, ↓eBool_eq, ↓eAnd_eq, ↓eOr_eq, ↓eNot, ↓eAndV_eq, ↓eOrV_eq, ↓eNotV_eq, ↓eIf_eq, ↓eChain, ↓aNil, ↓aCons, ↓lCons, ↓kCons, ↓sCons, ↓eTup_eq, ↓eLst_eq, ↓eLc_eq, ↓eLc2_eq, ↓iSeq_eq, ↓Cw.iEnum, ↓iZipD_eq, ↓iRng1D_eq, ↓iRng2D, ↓eLRg, ↓eTRg, ↓rg1_eq, ↓rg2, ↓eSl, ↓oNone, ↓oSome_eq, ↓eCallB, ↓getAll, ↓eCall, ↓callM, gather, scatter, muI, toRV, ↓eMake, ↓makeM, ↓eMeth_eq, ↓eFld_eq, ↓eMut_eq, ↓eMutG_eq, ↓eDnew, finR, muOf, List.set, ↓gN, ↓fstep, ↓gT, ↓gsCons, ↓gsNil, noMu, wipeE, ↓sPre_eq, ↓iPre_eq, ↓sFgt, ↓sFrz, fgt_nx, fgt_ct, fgt_rt, fgt_bk, fgt_exc, fgt_bad, frz_nx, frz_ct, frz_rt, frz_bk, frz_exc, frz_bad, frzE_nil, frzE_cons, ↓sRaise, ↓sTry, fixT, List.all_cons, List.all_nil, Bool.and_true, Bool.true_and, Bool.not_false, Bool.not_true, if_true, if_false, ite_true, ite_false, Bool.false_eq_true, reduceIte, reduceCtorEq, List.nodup_cons, List.nodup_nil, List.not_mem_nil, not_false_eq_true, and_self, and_true, true_and, List.mem_cons, List.mem_singleton, or_false, decide_true, decide_false, List.getElem?_cons_zero, List.getElem?_cons_succ, dEq_int, dNe_int, dEq_str, dCmp_int, dAdd_int, dSub_int, dInt_int, dAbs_int, dLen_lst, dLen_tup, dList_lst, dList_tup, dTuple_lst, dTuple_tup, dIxD_lst, dIxD_tup, dInD_lst, dInD_tup, fld_jobs, h1, h2, ii_length]
  rfl
/-! ### the law's own groups -/
/-- found behind j items of the level that begins at the start -/
theorem take_succ' {α : Type} {l : List α} {k : Nat} (h : k < l.length) : l.take (k + 1) = l.take k ++ [l[k]] := by
  rw [List.take_add_one, List.getElem?_eq_getElem h]; rfl
def lgK (n k j : Nat) : List (List Int) := upto n k ++ ((lvl n k).take j).flatMap (extG n)
theorem lgK_zero (n k : Nat) : lgK n k 0 = upto n k := by unfold lgK; simp
theorem lgK_full (n k : Nat) : lgK n k (lvl n k).length = upto n (k + 1) := by
  unfold lgK
  rw [List.take_length]; rfl
/-- where level k begins -/
def lgS (n : Nat) : Nat → Nat
  | 0 => 0
  | k + 1 => (upto n k).length
theorem lgS_len (n : Nat) : ∀ k, lgS n k + (lvl n k).length = (upto n k).length
  | 0 => rfl
  | k + 1 => (List.length_append (as := upto n k) (bs := lvl n (k + 1))).symm
theorem lgK_at {n k j : Nat} (h : j < (lvl n k).length) : (lgK n k j)[lgS n k + j]? = some (lvl n k)[j] := by
  have e : (upto n k)[lgS n k + j]? = some (lvl n k)[j] := by
    cases k with
    | zero =>
      show (lvl n 0)[0 + j]? = _
      rw [Nat.zero_add]
      exact List.getElem?_eq_getElem h
    | succ k =>
      show (upto n k ++ lvl n (k + 1))[(upto n k).length + j]? = _
      rw [List.getElem?_append_right (Nat.le_add_right _ _), Nat.add_sub_cancel_left]
      exact List.getElem?_eq_getElem h
  unfold lgK
  rw [List.getElem?_append_left (by
    have := lgS_len n k
    omega)]
  exact e
theorem rangeD_len (lo : Int) (m : Nat) : (rangeD lo m).length = m := by unfold rangeD; simp
theorem rangeD_get (lo : Int) (m : Nat) {k : Nat} (h : k < (rangeD lo m).length) : (rangeD lo m)[k] = .int (lo + k) := by
  have h' : k < m := by rwa [rangeD_len] at h
  have : (rangeD lo m)[k]? = some (.int (lo + k)) := by
    unfold rangeD
    rw [List.getElem?_map, List.getElem?_range h']; rfl
  exact Option.some.inj ((List.getElem?_eq_getElem h).symm.trans this)
theorem law_groups_ok {n : Nat} (hn : n ≤ 7) : m_law_groups a [.int (n : Int)] = .ok (true, .lst (gs (grps n))) [] := by
  have h62 := in62_nat n (by omega)
  have h1 := forS_fold (a := gN 3) (b := b_law_groups_3 a) (fun k => [some (Fl.sh, .int (n : Int)), some (Fl.ow, .lst (gs (upto n k))), some (Fl.sh, .int (lgS n k : Int)), none, none, none, none, none]) (ds := ii (rg n)) fun k hk => by
    have hk : k < n := by simpa [ii_length, rg_length] using hk
    have hu := upto_len hn (k + 1) (by omega)
    have hul : (upto n (k + 1)).length = (upto n k).length + (lvl n (k + 1)).length := List.length_append
    have hub : (k + 1 + 1) * 823543 ≤ 8 * 823543 := Nat.mul_le_mul_right _ (by omega)
    have hS := lgS_len n k
    have r1 := forS_fold (a := gN 5) (b := b_law_groups_2 a) (fun j => [some (Fl.sh, .int (n : Int)), some (Fl.ow, .lst (gs (lgK n k j))), none, none, some (Fl.sh, .int ((upto n k).length : Int)), none, none, none]) (ds := rangeD (lgS n k : Int) (lvl n k).length) fun j hj => by
      rw [rangeD_get _ _ hj]
      have hj : j < (lvl n k).length := by rwa [rangeD_len] at hj
      have hmem := mem_lvl.mp (List.getElem_mem hj)
      have q1 : dIx (.lst (gs (lgK n k j))) (.int ((lgS n k : Int) + (j : Int))) = some (false, .tup (ii (lvl n k)[j])) := by
        have := dIx_lst (xs := gs (lgK n k j)) (k := lgS n k + j) (d := .tup (ii (lvl n k)[j])) (by
          unfold gs
          rw [List.getElem?_map, lgK_at hj]; rfl)
        simpa using this
      have e0 : lgK n k (j + 1) = lgK n k j ++ extG n (lvl n k)[j] := by
        unfold lgK
        rw [take_succ' hj, List.flatMap_append, List.append_assoc]
        simp
      have hle : (lgK n k (j + 1)).length ≤ (upto n (k + 1)).length := by
        unfold lgK
        rw [List.length_append, hul]
        have : (((lvl n k).take (j + 1)).flatMap (extG n)).length ≤ ((lvl n k).flatMap (extG n)).length := by
          conv => rhs; rw [← List.take_append_drop (j + 1) (lvl n k), List.flatMap_append, List.length_append]
          omega
        exact Nat.add_le_add_left this _
      have hlen : (gs (lgK n k j)).length + (gs (extG n (lvl n k)[j])).length ≤ sizeLine := by
        rw [gs_length, gs_length, ← List.length_append, ← e0]
        exact Nat.le_trans (show _ ≤ 8 * 823543 by omega) (by decide)
      have hx : dExt (gs (lgK n k j)) [.lst (gs (extG n (lvl n k)[j]))] = some (.non, gs (lgK n k (j + 1))) := by
        unfold dExt
        simp only [hlen, if_true]
        have e : gs (lgK n k j) ++ gs (extG n (lvl n k)[j]) = gs (lgK n k (j + 1)) := by rw [e0]; simp [gs]
        rw [e]
      have hz : (gs (extG n (lvl n k)[j])).length ≤ sizeLine := by omega
      have e2 : ((rg n).filter (okL (lvl n k)[j])).map (fun p => D.tup (ii ((lvl n k)[j] ++ [p]))) = gs (extG n (lvl n k)[j]) := by
        unfold extG gs
        rw [List.map_map]; rfl
      simp only [b_law_groups_2, ↓fnOf, initE, List.replicate, List.length_cons, List.length_nil, List.cons_append, List.nil_append, Nat.sub_self, Nat.reduceSub, Nat.reduceAdd, ↓sSeq, ↓sIf_eq, ↓sSet, ↓sRet, ↓sRetN, ↓sExpr, ↓sNil, ↓sNever, ↓sFor, ↓sAsg, ↓sFldS, ↓sAugIx, ↓sSetIx, ↓putIx, ↓sPar2, ↓sPar3, ↓M.then, ↓bind_eq, ↓M.ret, ↓M.bad, ↓M.get, ↓M.esc, ↓M.arg, ↓M.nrm, ↓M.res, ↓M.wipe, look, getE, ↓put, isMu_eq, muB_none, muB_sh, muB_ow, muB_mu, ↓eVar, ↓eC, ↓eOp1, ↓eOp2, ↓eBool_eq, ↓eAnd_eq, ↓eOr_eq, ↓eNot, ↓eAndV_eq, ↓eOrV_eq, ↓eNotV_eq, ↓eIf_eq, ↓eChain, ↓aNil, ↓aCons, ↓lCons, ↓kCons, ↓sCons, ↓eTup_eq, ↓eLst_eq, ↓eLc_eq, ↓eLc2_eq, ↓iSeq_eq, ↓Cw.iEnum, ↓iZipD_eq, ↓iRng1D_eq, ↓iRng2D, ↓eLRg, ↓eTRg, ↓rg1_eq, ↓rg2, ↓eSl, ↓oNone, ↓oSome_eq, ↓eCallB, ↓getAll, ↓eCall, ↓callM, gather, scatter, muI, toRV, ↓eMake, ↓makeM, ↓eMeth_eq, ↓eFld_eq, ↓eMut_eq, ↓eMutG_eq, ↓eDnew, finR, muOf, List.set, ↓gN, ↓fstep, ↓gT, ↓gsCons, ↓gsNil, noMu, wipeE, ↓sPre_eq, ↓iPre_eq, ↓sFgt, ↓sFrz, fgt_nx, fgt_ct, fgt_rt, fgt_bk, fgt_exc, fgt_bad, frz_nx, frz_ct, frz_rt, frz_bk, frz_exc, frz_bad, frzE_nil, frzE_cons, ↓sRaise, ↓sTry, fixT, List.all_cons, List.all_nil, Bool.and_true, Bool.true_and, Bool.not_false, Bool.not_true, if_true, if_false, ite_true, ite_false, Bool.false_eq_true, reduceIte, reduceCtorEq, List.nodup_cons, List.nodup_nil, List.not_mem_nil, not_false_eq_true, and_self, and_true, true_and, List.mem_cons, List.mem_singleton, or_false, decide_true, decide_false, List.getElem?_cons_zero, List.getElem?_cons_succ, dEq_int, dNe_int, dEq_str, dCmp_int, dAdd_int, dSub_int, dInt_int, dAbs_int, dLen_lst, dLen_tup, dList_lst, dList_tup, dTuple_lst, dTuple_tup, dIxD_lst, dIxD_tup, dInD_lst, dInD_tup, q1, h62, Int.toNat_natCast, rangeD_rg]
      rw [lcI_fm (okL (lvl n k)[j]) fun p => D.tup (ii ((lvl n k)[j] ++ [p]))]
      · simp only [↓fnOf, initE, List.replicate, List.length_cons, List.length_nil, List.cons_append, List.nil_append, Nat.sub_self, Nat.reduceSub, Nat.reduceAdd, ↓sSeq, ↓sIf_eq, ↓sSet, ↓sRet, ↓sRetN, ↓sExpr, ↓sNil, ↓sNever, ↓sFor, ↓sAsg, ↓sFldS, ↓sAugIx, ↓sSetIx, ↓putIx, ↓sPar2, ↓sPar3, ↓M.then, ↓bind_eq, ↓M.ret, ↓M.bad, ↓M.get, ↓M.esc, ↓M.arg, ↓M.nrm, ↓M.res, ↓M.wipe, look, getE, ↓put, isMu_eq, muB_none, muB_sh, muB_ow, muB_mu, ↓eVar, ↓eC, ↓eOp1, ↓eOp2, ↓eBool_eq, ↓eAnd_eq, ↓eOr_eq, ↓eNot, ↓eAndV_eq, ↓eOrV_eq, ↓eNotV_eq, ↓eIf_eq, ↓eChain, ↓aNil, ↓aCons, ↓lCons, ↓kCons, ↓sCons, ↓eTup_eq, ↓eLst_eq, ↓eLc_eq, ↓eLc2_eq, ↓iSeq_eq, ↓Cw.iEnum, ↓iZipD_eq, ↓iRng1D_eq, ↓iRng2D, ↓eLRg, ↓eTRg, ↓rg1_eq, ↓rg2, ↓eSl, ↓oNone, ↓oSome_eq, ↓eCallB, ↓getAll, ↓eCall, ↓callM, gather, scatter, muI, toRV, ↓eMake, ↓makeM, ↓eMeth_eq, ↓eFld_eq, ↓eMut_eq, ↓eMutG_eq, ↓eDnew, finR, muOf, List.set, ↓gN, ↓fstep, ↓gT, ↓gsCons, ↓gsNil, noMu, wipeE, ↓sPre_eq, ↓iPre_eq, ↓sFgt, ↓sFrz, fgt_nx, fgt_ct, fgt_rt, fgt_bk, fgt_exc, fgt_bad, frz_nx, frz_ct, frz_rt, frz_bk, frz_exc, frz_bad, frzE_nil, frzE_cons, ↓sRaise, ↓sTry, fixT, List.all_cons, List.all_nil, Bool.and_true, Bool.true_and, Bool.not_false, Bool.not_true, if_true, if_false, ite_true, ite_false, Bool.false_eq_true, reduceIte, reduceCtorEq, List.nodup_cons, List.nodup_nil, List.not_mem_nil, not_false_eq_true, and_self, and_true, true_and, List.mem_cons, List.mem_singleton, or_false, decide_true, decide_false, List.getElem?_cons_zero, List.getElem?_cons_succ, dEq_int, dNe_int, dEq_str, dCmp_int, dAdd_int, dSub_int, dInt_int, dAbs_int, dLen_lst, dLen_tup, dList_lst, dList_tup, dTuple_lst, dTuple_tup, dIxD_lst, dIxD_tup, dInD_lst, dInD_tup, e2, hz, hx]
      · intro p hp
        obtain ⟨hgl, hr⟩ := hmem
        generalize (lvl n k)[j] = g at hgl hr
        have q2 := dEq_nilI hr (by omega)
        have q3 := add_one (g := g) (p := p) (by omega)
        refine ⟨_, rfl, ?_, rfl, rfl, fun _ => ?_⟩
        · cases hl : g.getLast? with
          | none =>
            have : g = [] := List.getLast?_eq_none_iff.mp hl
            subst this
            simp only [t_law_groups_0, ↓fnOf, initE, List.replicate, List.length_cons, List.length_nil, List.cons_append, List.nil_append, Nat.sub_self, Nat.reduceSub, Nat.reduceAdd, ↓sSeq, ↓sIf_eq, ↓sSet, ↓sRet, ↓sRetN, ↓sExpr, ↓sNil, ↓sNever, ↓sFor, ↓sAsg, ↓sFldS, ↓sAugIx, ↓sSetIx, ↓putIx, ↓sPar2, ↓sPar3, ↓M.then, ↓bind_eq, ↓M.ret, ↓M.bad, ↓M.get, ↓M.esc, ↓M.arg, ↓M.nrm, ↓M.res, ↓M.wipe, look, getE, ↓put, isMu_eq, muB_none, muB_sh, muB_ow, muB_mu, ↓eVar, ↓eC, ↓eOp1, ↓eOp2, ↓eBool_eq, ↓eAnd_eq, ↓eOr_eq, ↓eNot, ↓eAndV_eq, ↓eOrV_eq, ↓eNotV_eq, ↓eIf_eq, ↓eChain, ↓aNil, ↓aCons, ↓lCons, ↓kCons, ↓sCons, ↓eTup_eq, ↓eLst_eq, ↓eLc_eq, ↓eLc2_eq, ↓iSeq_eq, ↓Cw.iEnum, ↓iZipD_eq, ↓iRng1D_eq, ↓iRng2D, ↓eLRg, ↓eTRg, ↓rg1_eq, ↓rg2, ↓eSl, ↓oNone, ↓oSome_eq, ↓eCallB, ↓getAll, ↓eCall, ↓callM, gather, scatter, muI, toRV, ↓eMake, ↓makeM, ↓eMeth_eq, ↓eFld_eq, ↓eMut_eq, ↓eMutG_eq, ↓eDnew, finR, muOf, List.set, ↓gN, ↓fstep, ↓gT, ↓gsCons, ↓gsNil, noMu, wipeE, ↓sPre_eq, ↓iPre_eq, ↓sFgt, ↓sFrz, fgt_nx, fgt_ct, fgt_rt, fgt_bk, fgt_exc, fgt_bad, frz_nx, frz_ct, frz_rt, frz_bk, frz_exc, frz_bad, frzE_nil, frzE_cons, ↓sRaise, ↓sTry, fixT, List.all_cons, List.all_nil, Bool.and_true, Bool.true_and, Bool.not_false, Bool.not_true, if_true, if_false, ite_true, ite_false, Bool.false_eq_true, reduceIte, reduceCtorEq, List.nodup_cons, List.nodup_nil, List.not_mem_nil, not_false_eq_true, and_self, and_true, true_and, List.mem_cons, List.mem_singleton, or_false, decide_true, decide_false, List.getElem?_cons_zero, List.getElem?_cons_succ, dEq_int, dNe_int, dEq_str, dCmp_int, dAdd_int, dSub_int, dInt_int, dAbs_int, dLen_lst, dLen_tup, dList_lst, dList_tup, dTuple_lst, dTuple_tup, dIxD_lst, dIxD_tup, dInD_lst, dInD_tup, z0, q2, List.isEmpty_nil, okL_nil]
          | some q =>
            have hne : g.isEmpty = false := by
              cases g with
              | nil => cases hl
              | cons _ _ => rfl
            simp only [t_law_groups_0, ↓fnOf, initE, List.replicate, List.length_cons, List.length_nil, List.cons_append, List.nil_append, Nat.sub_self, Nat.reduceSub, Nat.reduceAdd, ↓sSeq, ↓sIf_eq, ↓sSet, ↓sRet, ↓sRetN, ↓sExpr, ↓sNil, ↓sNever, ↓sFor, ↓sAsg, ↓sFldS, ↓sAugIx, ↓sSetIx, ↓putIx, ↓sPar2, ↓sPar3, ↓M.then, ↓bind_eq, ↓M.ret, ↓M.bad, ↓M.get, ↓M.esc, ↓M.arg, ↓M.nrm, ↓M.res, ↓M.wipe, look, getE, ↓put, isMu_eq, muB_none, muB_sh, muB_ow, muB_mu, ↓eVar, ↓eC, ↓eOp1, ↓eOp2, ↓eBool_eq, ↓eAnd_eq, ↓eOr_eq, ↓eNot, ↓eAndV_eq, ↓eOrV_eq, ↓eNotV_eq, ↓eIf_eq, ↓eChain, ↓aNil, ↓aCons, ↓lCons, ↓kCons, ↓sCons, ↓eTup_eq, ↓eLst_eq, ↓eLc_eq, ↓eLc2_eq, ↓iSeq_eq, ↓Cw.iEnum, ↓iZipD_eq, ↓iRng1D_eq, ↓iRng2D, ↓eLRg, ↓eTRg, ↓rg1_eq, ↓rg2, ↓eSl, ↓oNone, ↓oSome_eq, ↓eCallB, ↓getAll, ↓eCall, ↓callM, gather, scatter, muI, toRV, ↓eMake, ↓makeM, ↓eMeth_eq, ↓eFld_eq, ↓eMut_eq, ↓eMutG_eq, ↓eDnew, finR, muOf, List.set, ↓gN, ↓fstep, ↓gT, ↓gsCons, ↓gsNil, noMu, wipeE, ↓sPre_eq, ↓iPre_eq, ↓sFgt, ↓sFrz, fgt_nx, fgt_ct, fgt_rt, fgt_bk, fgt_exc, fgt_bad, frz_nx, frz_ct, frz_rt, frz_bk, frz_exc, frz_bad, frzE_nil, frzE_cons, ↓sRaise, ↓sTry, fixT, List.all_cons, List.all_nil, Bool.and_true, Bool.true_and, Bool.not_false, Bool.not_true, if_true, if_false, ite_true, ite_false, Bool.false_eq_true, reduceIte, reduceCtorEq, List.nodup_cons, List.nodup_nil, List.not_mem_nil, not_false_eq_true, and_self, and_true, true_and, List.mem_cons, List.mem_singleton, or_false, decide_true, decide_false, List.getElem?_cons_zero, List.getElem?_cons_succ, dEq_int, dNe_int, dEq_str, dCmp_int, dAdd_int, dSub_int, dInt_int, dAbs_int, dLen_lst, dLen_tup, dList_lst, dList_tup, dTuple_lst, dTuple_tup, dIxD_lst, dIxD_tup, dInD_lst, dInD_tup, z0, q2, hne, ix_last hl, okL_last hl]
        · simp only [v_law_groups_1, ↓fnOf, initE, List.replicate, List.length_cons, List.length_nil, List.cons_append, List.nil_append, Nat.sub_self, Nat.reduceSub, Nat.reduceAdd, ↓sSeq, ↓sIf_eq, ↓sSet, ↓sRet, ↓sRetN, ↓sExpr, ↓sNil, ↓sNever, ↓sFor, ↓sAsg, ↓sFldS, ↓sAugIx, ↓sSetIx, ↓putIx, ↓sPar2, ↓sPar3, ↓M.then, ↓bind_eq, ↓M.ret, ↓M.bad, ↓M.get, ↓M.esc, ↓M.arg, ↓M.nrm, ↓M.res, ↓M.wipe, look, getE, ↓put, isMu_eq, muB_none, muB_sh, muB_ow, muB_mu, ↓eVar, ↓eC, ↓eOp1, ↓eOp2, ↓eBool_eq, ↓eAnd_eq, ↓eOr_eq, ↓eNot, ↓eAndV_eq, ↓eOrV_eq, ↓eNotV_eq, ↓eIf_eq, ↓eChain, ↓aNil, ↓aCons, ↓lCons, ↓kCons, ↓sCons, ↓eTup_eq, ↓eLst_eq, ↓eLc_eq, ↓eLc2_eq, ↓iSeq_eq, ↓Cw.iEnum, ↓iZipD_eq, ↓iRng1D_eq, ↓iRng2D, ↓eLRg, ↓eTRg, ↓rg1_eq, ↓rg2, ↓eSl, ↓oNone, ↓oSome_eq, ↓eCallB, ↓getAll, ↓eCall, ↓callM, gather, scatter, muI, toRV, ↓eMake, ↓makeM, ↓eMeth_eq, ↓eFld_eq, ↓eMut_eq, ↓eMutG_eq, ↓eDnew, finR, muOf, List.set, ↓gN, ↓fstep, ↓gT, ↓gsCons, ↓gsNil, noMu, wipeE, ↓sPre_eq, ↓iPre_eq, ↓sFgt, ↓sFrz, fgt_nx, fgt_ct, fgt_rt, fgt_bk, fgt_exc, fgt_bad, frz_nx, frz_ct, frz_rt, frz_bk, frz_exc, frz_bad, frzE_nil, frzE_cons, ↓sRaise, ↓sTry, fixT, List.all_cons, List.all_nil, Bool.and_true, Bool.true_and, Bool.not_false, Bool.not_true, if_true, if_false, ite_true, ite_false, Bool.false_eq_true, reduceIte, reduceCtorEq, List.nodup_cons, List.nodup_nil, List.not_mem_nil, not_false_eq_true, and_self, and_true, true_and, List.mem_cons, List.mem_singleton, or_false, decide_true, decide_false, List.getElem?_cons_zero, List.getElem?_cons_succ, dEq_int, dNe_int, dEq_str, dCmp_int, dAdd_int, dSub_int, dInt_int, dAbs_int, dLen_lst, dLen_tup, dList_lst, dList_tup, dTuple_lst, dTuple_tup, dIxD_lst, dIxD_tup, dInD_lst, dInD_tup, z1, q3]
    have r2 : forL (gN 5) (b_law_groups_2 a) (rangeD (lgS n k : Int) (lvl n k).length) [some (Fl.sh, .int (n : Int)), some (Fl.ow, .lst (gs (upto n k))), none, none, some (Fl.sh, .int ((upto n k).length : Int)), none, none, none] = .nx [some (Fl.sh, .int (n : Int)), some (Fl.ow, .lst (gs (upto n (k + 1)))), none, none, some (Fl.sh, .int ((upto n k).length : Int)), none, none, none] := by
      rw [rangeD_len, lgK_full] at r1
      have e : lgK n k 0 = upto n k := lgK_zero n k
      simp only [e] at r1
      exact r1
    have b1 : rgOk (lgS n k : Int) ((upto n k).length : Int) = true := rgOk_iff.mpr ⟨by omega, by omega, by omega, by omega, by omega⟩
    have b2 : (((upto n k).length : Int) - (lgS n k : Int)).toNat = (lvl n k).length := by omega
    have i1 := in62_nat (lgS n k) (by omega)
    have i2 := in62_nat (upto n k).length (by omega)
    simp only [b_law_groups_3, ↓fnOf, initE, List.replicate, List.length_cons, List.length_nil, List.cons_append, List.nil_append, Nat.sub_self, Nat.reduceSub, Nat.reduceAdd, ↓sSeq, ↓sIf_eq, ↓sSet, ↓sRet, ↓sRetN, ↓sExpr, ↓sNil, ↓sNever, ↓sFor, ↓sAsg, ↓sFldS, ↓sAugIx, ↓sSetIx, ↓putIx, ↓sPar2, ↓sPar3, ↓M.then, ↓bind_eq, ↓M.ret, ↓M.bad, ↓M.get, ↓M.esc, ↓M.arg, ↓M.nrm, ↓M.res, ↓M.wipe, look, getE, ↓put, isMu_eq, muB_none, muB_sh, muB_ow, muB_mu, ↓eVar, ↓eC, ↓eOp1, ↓eOp2, ↓eBool_eq, ↓eAnd_eq, ↓eOr_eq, ↓eNot, ↓eAndV_eq, ↓eOrV_eq, ↓eNotV_eq, ↓eIf_eq, ↓eChain, ↓aNil, ↓aCons, ↓lCons, ↓kCons, ↓sCons, ↓eTup_eq, ↓eLst_eq, ↓eLc_eq, ↓eLc2_eq, ↓iSeq_eq, ↓Cw.iEnum, ↓iZipD_eq, ↓iRng1D_eq, ↓iRng2D, ↓eLRg, ↓eTRg, ↓rg1_eq, ↓rg2, ↓eSl, ↓oNone, ↓oSome_eq, ↓eCallB, ↓getAll, ↓eCall, ↓callM, gather, scatter, muI, toRV, ↓eMake, ↓makeM, ↓eMeth_eq, ↓eFld_eq, ↓eMut_eq, ↓eMutG_eq, ↓eDnew, finR, muOf, List.set, ↓gN, ↓fstep, ↓gT, ↓gsCons, ↓gsNil, noMu, wipeE, ↓sPre_eq, ↓iPre_eq, ↓sFgt, ↓sFrz, fgt_nx, fgt_ct, fgt_rt, fgt_bk, fgt_exc, fgt_bad, frz_nx, frz_ct, frz_rt, frz_bk, frz_exc, frz_bad, frzE_nil, frzE_cons, ↓sRaise, ↓sTry, fixT, List.all_cons, List.all_nil, Bool.and_true, Bool.true_and, Bool.not_false, Bool.not_true, if_true, if_false, ite_true, ite_false, Bool.false_eq_true, reduceIte, reduceCtorEq, List.nodup_cons, List.nodup_nil, List.not_mem_nil, not_false_eq_true, and_self, and_true, true_and, List.mem_cons, List.mem_singleton, or_false, decide_true, decide_false, List.getElem?_cons_zero, List.getElem?_cons_succ, dEq_int, dNe_int, dEq_str, dCmp_int, dAdd_int, dSub_int, dInt_int, dAbs_int, dLen_lst, dLen_tup, dList_lst, dList_tup, dTuple_lst, dTuple_tup, dIxD_lst, dIxD_tup, dInD_lst, dInD_tup, gs_length, i1, i2, b1, b2, ↓r2]
    rfl
  have h1 : forL (gN 3) (b_law_groups_3 a) (ii (rg n)) [some (Fl.sh, .int (n : Int)), some (Fl.ow, .lst [.tup []]), some (Fl.sh, .int 0), none, none, none, none, none] = .nx [some (Fl.sh, .int (n : Int)), some (Fl.ow, .lst (gs (grps n))), some (Fl.sh, .int (lgS n n : Int)), none, none, none, none, none] := by
    rw [ii_length, rg_length] at h1
    exact h1
  simp only [m_law_groups, g_law_groups, ↓fnOf, initE, List.replicate, List.length_cons, List.length_nil, List.cons_append, List.nil_append, Nat.sub_self, Nat.reduceSub, Nat.reduceAdd, ↓sSeq, ↓sIf_eq, ↓sSet, ↓sRet, ↓sRetN, ↓sExpr, ↓sNil, ↓sNever, ↓sFor, ↓sAsg, ↓sFldS, ↓sAugIx, ↓sSetIx, ↓putIx, ↓sPar2, ↓sPar3, ↓M.then, ↓bind_eq, ↓M.ret, ↓M.bad, ↓M.get, ↓M.esc, ↓M.arg, ↓M.nrm, ↓M.res, ↓M.wipe, look, getE, ↓put, isMu_eq, muB_none, muB_sh, muB_ow, muB_mu, ↓eVar, ↓eC, ↓eOp1, ↓eOp2, ↓eBool_eq, ↓eAnd_eq, ↓eOr_eq, ↓eNot, ↓eAndV_eq, ↓eOrV_eq, ↓eNotV_eq, ↓eIf_eq, ↓eChain, ↓aNil, ↓aCons, ↓lCons, ↓kCons, ↓sCons, ↓eTup_eq, ↓eLst_eq, ↓eLc_eq, ↓eLc2_eq, ↓iSeq_eq, ↓Cw.iEnum, ↓iZipD_eq, ↓iRng1D_eq, ↓iRng2D, ↓eLRg, ↓eTRg, ↓rg1_eq, ↓rg2, ↓eSl, ↓oNone, ↓oSome_eq, ↓eCallB, ↓getAll, ↓eCall, ↓callM, gather, scatter, muI, toRV, ↓eMake, ↓makeM, ↓eMeth_eq, ↓eFld_eq, ↓eMut_eq, ↓eMutG_eq, ↓eDnew, finR, muOf, List.set, ↓gN, ↓fstep, ↓gT, ↓gsCons, ↓gsNil, noMu, wipeE, ↓sPre_eq, ↓iPre_eq, ↓sFgt, ↓sFrz, fgt_nx, fgt_ct, fgt_rt, fgt_bk, fgt_exc, fgt_bad, frz_nx, frz_ct, frz_rt, frz_bk, frz_exc, frz_bad, frzE_nil, frzE_cons, ↓sRaise, ↓sTry, fixT, List.all_cons, List.all_nil, Bool.and_true, Bool.true_and, Bool.not_false, Bool.not_true, if_true, if_false, ite_true, ite_false, Bool.false_eq_true, reduceIte, reduceCtorEq, List.nodup_cons, List.nodup_nil, List.not_mem_nil, not_false_eq_true, and_self, and_true, true_and, List.mem_cons, List.mem_singleton, or_false, decide_true, decide_false, List.getElem?_cons_zero, List.getElem?_cons_succ, dEq_int, dNe_int, dEq_str, dCmp_int, dAdd_int, dSub_int, dInt_int, dAbs_int, dLen_lst, dLen_tup, dList_lst, dList_tup, dTuple_lst, dTuple_tup, dIxD_lst, dIxD_tup, dInD_lst, dInD_tup, z0, z1, h62, Int.toNat_natCast, rangeD_rg, ↓h1]
end Cw

namespace Cw
open PySem L2
theorem ext_nodup (n : Nat) (g : List Int) : (extG n g).Nodup := by
  unfold extG
  refine List.Pairwise.map (R := fun a b => a ≠ b) (S := fun a b => a ≠ b) _ (fun p q h e => h (by simpa using e)) ?_
  exact List.Pairwise.filter _ ((rg_pw n).imp fun h => by omega)
theorem lvl_nodup (n : Nat) : ∀ k, (lvl n k).Nodup
  | 0 => by show [[]].Nodup; simp
  | k + 1 => by
    show ((lvl n k).flatMap (extG n)).Nodup
    refine List.pairwise_flatMap.mpr ⟨fun g _ => ext_nodup n g, (lvl_nodup n k).imp fun {g1 g2} hne x hx y hy e => ?_⟩
    subst e
    unfold extG at hx hy
    obtain ⟨p, _, e1⟩ := List.mem_map.mp hx
    obtain ⟨q, _, e2⟩ := List.mem_map.mp hy
    have e3 := e1.trans e2.symm
    have := List.append_inj' e3 rfl
    exact hne this.1
theorem upto_nodup (n : Nat) : ∀ k, (upto n k).Nodup
  | 0 => by show [[]].Nodup; simp
  | k + 1 => by
    show (upto n k ++ lvl n (k + 1)).Nodup
    refine List.nodup_append.mpr ⟨upto_nodup n k, lvl_nodup n (k + 1), fun g h1 g2 h2 e => ?_⟩
    subst e
    have := (mem_upto.mp h1).1
    have := (mem_lvl.mp h2).1
    omega
theorem grps_nodup (n : Nat) : (grps n).Nodup := upto_nodup n n
/-- a shorter group stands ahead -/
theorem mem_take {n k : Nat} (hk : k < (grps n).length) {h : List Int} (hm : h ∈ grps n) (hl : h.length < (grps n)[k].length) : h ∈ (grps n).take k := by
  obtain ⟨j, hj, rfl⟩ := List.mem_iff_getElem.mp hm
  have hjk : j < k := by
    apply Classical.byContradiction
    intro z
    by_cases e : j = k
    · subst e; omega
    · have := (List.pairwise_iff_getElem.mp (upto_asc n n)) k j hk hj (by omega)
      have : (grps n)[k].length ≤ (grps n)[j].length := this
      omega
  exact List.mem_iff_getElem.mpr ⟨j, by rw [List.length_take]; omega, by rw [List.getElem_take]⟩
theorem not_mem_take {l : List (List Int)} (h : l.Nodup) {k : Nat} (hk : k < l.length) : l[k] ∉ l.take k := fun z => by
  obtain ⟨j, hj, e⟩ := List.mem_iff_getElem.mp z
  rw [List.getElem_take] at e
  rw [List.length_take] at hj
  have := (List.getElem_inj h).mp e
  omega
/-! ### tables by groups -/
def tabD (l : List (List Int)) (f : List Int → D) : List (D × D) := l.map fun g => (.tup (ii g), f g)
theorem keyL_ii : ∀ g : List Int, keyL (ii g) = some (g.map Sum.inl)
  | [] => rfl
  | x :: g => by
    show keyL (D.int x :: ii g) = _
    unfold keyL
    rw [keyL_ii g]
    rfl
theorem keyT_ii (g : List Int) : keyT (.tup (ii g)) = some (g.map Sum.inl) := keyL_ii g
theorem inl_inj {g h : List Int} : (some (g.map (Sum.inl : Int → Key)) = some (h.map Sum.inl)) ↔ g = h := by
  constructor
  · intro e
    exact (List.map_inj_right fun x y q => Sum.inl.inj q).mp (Option.some.inj e)
  · rintro rfl; rfl
theorem find_tab {f : List Int → D} {g : List Int} : ∀ {l : List (List Int)}, g ∈ l → dFind keyT (tabD l f) (g.map Sum.inl) = some (f g)
  | h :: l, hm => by
    unfold tabD dFind
    rw [List.map_cons, List.find?_cons]
    simp only [keyT_ii, inl_inj]
    by_cases e : h = g
    · subst e; simp
    · have hm := (List.mem_cons.mp hm).resolve_left fun z => e z.symm
      simp only [decide_eq_false e]
      exact find_tab hm
theorem dGet_tab {l : List (List Int)} {f : List Int → D} {g : List Int} (h : g ∈ l) : dGet true (tabD l f) (.tup (ii g)) = some (some (f g)) := by
  unfold dGet
  simp only [keyT_ii, find_tab h]
theorem ix_tab {l : List (List Int)} {f : List Int → D} {g : List Int} (h : g ∈ l) : dIxD (.dic true (tabD l f)) (.tup (ii g)) = some (false, f g) := by
  unfold dIxD
  simp only [dGet_tab h]
theorem put_tab {l : List (List Int)} {f : List Int → D} {g : List Int} (h : g ∉ l) (hl : l.length < sizeLine) : dPut true (tabD l f) (.tup (ii g)) (f g) = some (tabD (l ++ [g]) f) := by
  have e : ((tabD l f).any fun p => decide (keyT p.1 = some (g.map Sum.inl))) = false := by
    unfold tabD
    rw [List.any_map, List.any_eq_false]
    intro x hx
    simp only [Function.comp, keyT_ii, inl_inj, decide_eq_true_iff]
    exact fun z => h (z ▸ hx)
  unfold dPut
  have hl : (tabD l f).length < sizeLine := by unfold tabD; rw [List.length_map]; exact hl
  simp only [hl, if_true, keyT_ii]
  unfold dPutK
  rw [e]
  simp [tabD]
theorem grps_lt {n : Nat} (hn : n ≤ 7) (k : Nat) : ((grps n).take k).length < sizeLine := by
  have := grps_len hn
  exact Nat.lt_of_le_of_lt (show _ ≤ 6588344 by rw [List.length_take]; omega) (by decide)
theorem tab_next {n : Nat} (hn : n ≤ 7) (f : List Int → D) {k : Nat} (hk : k < (grps n).length) : dPut true (tabD ((grps n).take k) f) (.tup (ii (grps n)[k])) (f (grps n)[k]) = some (tabD ((grps n).take (k + 1)) f) := by
  rw [put_tab (not_mem_take (grps_nodup n) hk) (grps_lt hn k), ← take_succ' hk]
/-! ### g without its k-th -/
theorem cut_erase {g : List Int} {k : Nat} (hk : k < g.length) (hg : g.length ≤ 64) : dAdd (.tup (cutG (ii g) none (some (k : Int)))) (.tup (cutG (ii g) (some ((k : Int) + 1)) none)) = some (false, .tup (ii (g.eraseIdx k))) := by
  have e1 := cut_to (ii g) k
  have e2 := cut_from (ii g) (k + 1)
  have e2 : cutG (ii g) (some ((k : Int) + 1)) none = (ii g).drop (k + 1) := by simpa using e2
  rw [e1, e2, dAdd_tup _ _ (by
    rw [List.length_take, List.length_drop, ii_length]
    exact Nat.le_trans (show _ ≤ 64 by omega) (by decide)), List.eraseIdx_eq_take_drop_succ]
  unfold ii
  rw [List.map_append, List.map_take, List.map_drop]
theorem getD_ge {g : List Int} {k : Nat} (h : k < g.length) : g[k] = g.getD k 0 := by
  rw [List.getD_eq_getElem?_getD, List.getElem?_eq_getElem h]; rfl
/-- those whose k-th may do the job -/
def fewer (job g : List Int) : List (List Int) := ((List.range g.length).filter fun k => decide (g.getD k 0 ∈ job)).map fun k => g.eraseIdx k
theorem fewer_any (job g : List Int) (T : List Int → Bool) : (fewer job g).any T = (List.range g.length).any fun k => decide (g.getD k 0 ∈ job) && T (g.eraseIdx k) := by
  unfold fewer
  rw [List.any_map, List.any_filter]
  rfl
theorem fewer_mem {job g s : List Int} (h : s ∈ fewer job g) : ∃ k, k < g.length ∧ s = g.eraseIdx k := by
  unfold fewer at h
  obtain ⟨k, hk, rfl⟩ := List.mem_map.mp h
  exact ⟨k, List.mem_range.mp (List.mem_filter.mp hk).1, rfl⟩
theorem canG_step (rs : List (List Int)) {j : Nat} (h : j < rs.length) (g : List Int) : canG (rs.take (j + 1)).reverse g = (canG (rs.take j).reverse g || (fewer rs[j] g).any (canG (rs.take j).reverse)) := by
  rw [take_succ' h, List.reverse_append, fewer_any]
  rfl
theorem bl_dec (b : Bool) : D.bl b = D.bl b := rfl
variable (a : Nat → Addr)
theorem law_can_ok {n : Nat} {rs : List (List Int)} {R : D} (hn : n ≤ 7) (hR : R = .lst (gs rs) ∨ R = .tup (gs rs)) :
    ∃ fl, m_law_can a [.int (n : Int), R] = .ok (fl, .dic true (tabD (grps n) fun g => .bl (canF rs g))) [] := by
  have h0 := law_groups_ok a hn
  have hL1 := forS_fold (a := gN 4) (b := b_law_can_0 a) (fun k => [none, some (Fl.sh, R), some (Fl.sh, .lst (gs (grps n))), some (Fl.ow, .dic true (tabD ((grps n).take k) fun g => .bl g.isEmpty)), none, none, none, none, none, none]) (ds := gs (grps n)) fun k hk => by
    have hk' : k < (grps n).length := by rwa [gs_length] at hk
    rw [gs_get hk]
    have hr := mem_grps.mp (List.getElem_mem hk')
    have q1 := dEq_nilI hr (by omega)
    have q2 := tab_next hn (fun g => .bl g.isEmpty) hk'
    simp only [b_law_can_0, ↓fnOf, initE, List.replicate, List.length_cons, List.length_nil, List.cons_append, List.nil_append, Nat.sub_self, Nat.reduceSub, Nat.reduceAdd, ↓sSeq, ↓sIf_eq, ↓sSet, ↓sRet, ↓sRetN, ↓sExpr, ↓sNil, ↓sNever, ↓sFor, ↓sAsg, ↓sFldS, ↓sAugIx, ↓sSetIx, ↓putIx, ↓sPar2, ↓sPar3, ↓M.then, ↓bind_eq, ↓M.ret, ↓M.bad, ↓M.get, ↓M.esc, ↓M.arg, ↓M.nrm, ↓M.res, ↓M.wipe, look, getE, ↓put, isMu_eq, muB_none, muB_sh, muB_ow, muB_mu, ↓eVar, ↓eC, ↓eOp1, ↓eOp2, ↓eBool_eq, ↓eAnd_eq, ↓eOr_eq, ↓eNot, ↓eAndV_eq, ↓eOrV_eq, ↓eNotV_eq, ↓eIf_eq, ↓eChain, ↓aNil, ↓aCons, ↓lCons, ↓kCons, ↓sCons, ↓eTup_eq, ↓eLst_eq, ↓eLc_eq, ↓eLc2_eq, ↓iSeq_eq, ↓Cw.iEnum, ↓iZipD_eq, ↓iRng1D_eq, ↓iRng2D, ↓eLRg, ↓eTRg, ↓rg1_eq, ↓rg2, ↓eSl, ↓oNone, ↓oSome_eq, ↓eCallB, ↓getAll, ↓eCall, ↓callM, gather, scatter, muI, toRV, ↓eMake, ↓makeM, ↓eMeth_eq, ↓eFld_eq, ↓eMut_eq, ↓eMutG_eq, ↓eDnew, finR, muOf, List.set, ↓gN, ↓fstep, ↓gT, ↓gsCons, ↓gsNil, noMu, wipeE, ↓sPre_eq, ↓iPre_eq, ↓sFgt, ↓sFrz, fgt_nx, fgt_ct, fgt_rt, fgt_bk, fgt_exc, fgt_bad, frz_nx, frz_ct, frz_rt, frz_bk, frz_exc, frz_bad, frzE_nil, frzE_cons, ↓sRaise, ↓sTry, fixT, List.all_cons, List.all_nil, Bool.and_true, Bool.true_and, Bool.not_false, Bool.not_true, if_true, if_false, ite_true, ite_false, Bool.false_eq_true, reduceIte, reduceCtorEq, List.nodup_cons, List.nodup_nil, List.not_mem_nil, not_false_eq_true, and_self, and_true, true_and, List.mem_cons, List.mem_singleton, or_false, decide_true, decide_false, List.getElem?_cons_zero, List.getElem?_cons_succ, dEq_int, dNe_int, dEq_str, dCmp_int, dAdd_int, dSub_int, dInt_int, dAbs_int, dLen_lst, dLen_tup, dList_lst, dList_tup, dTuple_lst, dTuple_tup, dIxD_lst, dIxD_tup, dInD_lst, dInD_tup, z0, q1, q2]
  have hL1 : forL (gN 4) (b_law_can_0 a) (gs (grps n)) [none, some (Fl.sh, R), some (Fl.sh, .lst (gs (grps n))), some (Fl.ow, .dic true []), none, none, none, none, none, none] = .nx [none, some (Fl.sh, R), some (Fl.sh, .lst (gs (grps n))), some (Fl.ow, .dic true (tabD (grps n) fun g => .bl g.isEmpty)), none, none, none, none, none, none] := by
    rw [gs_length, List.take_length] at hL1
    exact hL1
  have hL2 := forS_fold (a := gN 5) (b := b_law_can_5 a) (fun j => [none, none, some (Fl.sh, .lst (gs (grps n))), some (Fl.sh, .dic true (tabD (grps n) fun g => .bl (canG (rs.take j).reverse g))), none, none, none, none, none, none]) (ds := gs rs) fun j hj => by
    have hj' : j < rs.length := by rwa [gs_length] at hj
    rw [gs_get hj]
    have hM := forS_fold (a := gN 4) (b := b_law_can_4 a) (fun k => [none, none, some (Fl.sh, .lst (gs (grps n))), some (Fl.sh, .dic true (tabD (grps n) fun g => .bl (canG (rs.take j).reverse g))), none, some (Fl.sh, .tup (ii rs[j])), some (Fl.ow, .dic true (tabD ((grps n).take k) fun g => .bl (canG (rs.take (j + 1)).reverse g))), none, none, none]) (ds := gs (grps n)) fun k hk => by
      have hk' : k < (grps n).length := by rwa [gs_length] at hk
      rw [gs_get hk]
      have hm := List.getElem_mem hk'
      have hr := mem_grps.mp hm
      have q2 := tab_next hn (fun g => .bl (canG (rs.take (j + 1)).reverse g)) hk'
      generalize (grps n)[k] = g at hm hr q2
      have hgl : g.length ≤ 7 := Nat.le_trans hr.len hn
      have q3 : dIxD (.dic true (tabD (grps n) fun g => .bl (canG (rs.take j).reverse g))) (.tup (ii g)) = some (false, .bl (canG (rs.take j).reverse g)) := ix_tab hm
      have h62 := in62_nat g.length (by omega)
      have e1 : (((List.range g.length).filter fun k => decide (g.getD k 0 ∈ rs[j])).map fun k => D.tup (ii (g.eraseIdx k))) = gs (fewer rs[j] g) := by
        unfold fewer gs
        rw [List.map_map]; rfl
      have hz : (gs (fewer rs[j] g)).length ≤ sizeLine := szL (by
        rw [gs_length]; unfold fewer; rw [List.length_map]
        have := List.length_filter_le (fun k => decide (g.getD k 0 ∈ rs[j])) (List.range g.length)
        rw [List.length_range] at this
        omega)
      have hz2 : ((fewer rs[j] g).map fun s => D.bl (canG (rs.take j).reverse s)).length ≤ sizeLine := by rw [List.length_map, ← gs_length]; exact hz
      have e2 : ii (rg g.length) = (List.range g.length).map fun (k : Nat) => D.int (k : Int) := by unfold ii rg; rw [List.map_map]; rfl
      rw [canG_step rs hj' g] at q2
      simp only [b_law_can_4, ↓fnOf, initE, List.replicate, List.length_cons, List.length_nil, List.cons_append, List.nil_append, Nat.sub_self, Nat.reduceSub, Nat.reduceAdd, ↓sSeq, ↓sIf_eq, ↓sSet, ↓sRet, ↓sRetN, ↓sExpr, ↓sNil, ↓sNever, ↓sFor, ↓sAsg, ↓sFldS, ↓sAugIx, ↓sSetIx, ↓putIx, ↓sPar2, ↓sPar3, ↓M.then, ↓bind_eq, ↓M.ret, ↓M.bad, ↓M.get, ↓M.esc, ↓M.arg, ↓M.nrm, ↓M.res, ↓M.wipe, look, getE, ↓put, isMu_eq, muB_none, muB_sh, muB_ow, muB_mu, ↓eVar, ↓eC, ↓eOp1, ↓eOp2, ↓eBool_eq, ↓eAnd_eq, ↓eOr_eq, ↓eNot, ↓eAndV_eq, ↓eOrV_eq, ↓eNotV_eq, ↓eIf_eq, ↓eChain, ↓aNil, ↓aCons, ↓lCons, ↓kCons, ↓sCons, ↓eTup_eq, ↓eLst_eq, ↓eLc_eq, ↓eLc2_eq, ↓iSeq_eq, ↓Cw.iEnum, ↓iZipD_eq, ↓iRng1D_eq, ↓iRng2D, ↓eLRg, ↓eTRg, ↓rg1_eq, ↓rg2, ↓eSl, ↓oNone, ↓oSome_eq, ↓eCallB, ↓getAll, ↓eCall, ↓callM, gather, scatter, muI, toRV, ↓eMake, ↓makeM, ↓eMeth_eq, ↓eFld_eq, ↓eMut_eq, ↓eMutG_eq, ↓eDnew, finR, muOf, List.set, ↓gN, ↓fstep, ↓gT, ↓gsCons, ↓gsNil, noMu, wipeE, ↓sPre_eq, ↓iPre_eq, ↓sFgt, ↓sFrz, fgt_nx, fgt_ct, fgt_rt, fgt_bk, fgt_exc, fgt_bad, frz_nx, frz_ct, frz_rt, frz_bk, frz_exc, frz_bad, frzE_nil, frzE_cons, ↓sRaise, ↓sTry, fixT, List.all_cons, List.all_nil, Bool.and_true, Bool.true_and, Bool.not_false, Bool.not_true, if_true, if_false, ite_true, ite_false, Bool.false_eq_true, reduceIte, reduceCtorEq, List.nodup_cons, List.nodup_nil, List.not_mem_nil, not_false_eq_true, and_self, and_true, true_and, List.mem_cons, List.mem_singleton, or_false, decide_true, decide_false, List.getElem?_cons_zero, List.getElem?_cons_succ, dEq_int, dNe_int, dEq_str, dCmp_int, dAdd_int, dSub_int, dInt_int, dAbs_int, dLen_lst, dLen_tup, dList_lst, dList_tup, dTuple_lst, dTuple_tup, dIxD_lst, dIxD_tup, dInD_lst, dInD_tup, ii_length, h62, Int.toNat_natCast, rangeD_rg, e2]
      rw [lcE (fun (k : Nat) => D.int (k : Int)) (fun k => decide (g.getD k 0 ∈ rs[j])) (fun k => D.tup (ii (g.eraseIdx k)))]
      · cases w : canG (rs.take j).reverse g with
        | true =>
          rw [w] at q2 q3
          simp only [↓fnOf, initE, List.replicate, List.length_cons, List.length_nil, List.cons_append, List.nil_append, Nat.sub_self, Nat.reduceSub, Nat.reduceAdd, ↓sSeq, ↓sIf_eq, ↓sSet, ↓sRet, ↓sRetN, ↓sExpr, ↓sNil, ↓sNever, ↓sFor, ↓sAsg, ↓sFldS, ↓sAugIx, ↓sSetIx, ↓putIx, ↓sPar2, ↓sPar3, ↓M.then, ↓bind_eq, ↓M.ret, ↓M.bad, ↓M.get, ↓M.esc, ↓M.arg, ↓M.nrm, ↓M.res, ↓M.wipe, look, getE, ↓put, isMu_eq, muB_none, muB_sh, muB_ow, muB_mu, ↓eVar, ↓eC, ↓eOp1, ↓eOp2, ↓eBool_eq, ↓eAnd_eq, ↓eOr_eq, ↓eNot, ↓eAndV_eq, ↓eOrV_eq, ↓eNotV_eq, ↓eIf_eq, ↓eChain, ↓aNil, ↓aCons, ↓lCons, ↓kCons, ↓sCons, ↓eTup_eq, ↓eLst_eq, ↓eLc_eq, ↓eLc2_eq, ↓iSeq_eq, ↓Cw.iEnum, ↓iZipD_eq, ↓iRng1D_eq, ↓iRng2D, ↓eLRg, ↓eTRg, ↓rg1_eq, ↓rg2, ↓eSl, ↓oNone, ↓oSome_eq, ↓eCallB, ↓getAll, ↓eCall, ↓callM, gather, scatter, muI, toRV, ↓eMake, ↓makeM, ↓eMeth_eq, ↓eFld_eq, ↓eMut_eq, ↓eMutG_eq, ↓eDnew, finR, muOf, List.set, ↓gN, ↓fstep, ↓gT, ↓gsCons, ↓gsNil, noMu, wipeE, ↓sPre_eq, ↓iPre_eq, ↓sFgt, ↓sFrz, fgt_nx, fgt_ct, fgt_rt, fgt_bk, fgt_exc, fgt_bad, frz_nx, frz_ct, frz_rt, frz_bk, frz_exc, frz_bad, frzE_nil, frzE_cons, ↓sRaise, ↓sTry, fixT, List.all_cons, List.all_nil, Bool.and_true, Bool.true_and, Bool.not_false, Bool.not_true, if_true, if_false, ite_true, ite_false, Bool.false_eq_true, reduceIte, reduceCtorEq, List.nodup_cons, List.nodup_nil, List.not_mem_nil, not_false_eq_true, and_self, and_true, true_and, List.mem_cons, List.mem_singleton, or_false, decide_true, decide_false, List.getElem?_cons_zero, List.getElem?_cons_succ, dEq_int, dNe_int, dEq_str, dCmp_int, dAdd_int, dSub_int, dInt_int, dAbs_int, dLen_lst, dLen_tup, dList_lst, dList_tup, dTuple_lst, dTuple_tup, dIxD_lst, dIxD_tup, dInD_lst, dInD_tup, e1, hz, q3]
          simp only [Bool.true_or] at q2
          simp only [↓fnOf, initE, List.replicate, List.length_cons, List.length_nil, List.cons_append, List.nil_append, Nat.sub_self, Nat.reduceSub, Nat.reduceAdd, ↓sSeq, ↓sIf_eq, ↓sSet, ↓sRet, ↓sRetN, ↓sExpr, ↓sNil, ↓sNever, ↓sFor, ↓sAsg, ↓sFldS, ↓sAugIx, ↓sSetIx, ↓putIx, ↓sPar2, ↓sPar3, ↓M.then, ↓bind_eq, ↓M.ret, ↓M.bad, ↓M.get, ↓M.esc, ↓M.arg, ↓M.nrm, ↓M.res, ↓M.wipe, look, getE, ↓put, isMu_eq, muB_none, muB_sh, muB_ow, muB_mu, ↓eVar, ↓eC, ↓eOp1, ↓eOp2, ↓eBool_eq, ↓eAnd_eq, ↓eOr_eq, ↓eNot, ↓eAndV_eq, ↓eOrV_eq, ↓eNotV_eq, ↓eIf_eq, ↓eChain, ↓aNil, ↓aCons, ↓lCons, ↓kCons, ↓sCons, ↓eTup_eq, ↓eLst_eq, ↓eLc_eq, ↓eLc2_eq, ↓iSeq_eq, ↓Cw.iEnum, ↓iZipD_eq, ↓iRng1D_eq, ↓iRng2D, ↓eLRg, ↓eTRg, ↓rg1_eq, ↓rg2, ↓eSl, ↓oNone, ↓oSome_eq, ↓eCallB, ↓getAll, ↓eCall, ↓callM, gather, scatter, muI, toRV, ↓eMake, ↓makeM, ↓eMeth_eq, ↓eFld_eq, ↓eMut_eq, ↓eMutG_eq, ↓eDnew, finR, muOf, List.set, ↓gN, ↓fstep, ↓gT, ↓gsCons, ↓gsNil, noMu, wipeE, ↓sPre_eq, ↓iPre_eq, ↓sFgt, ↓sFrz, fgt_nx, fgt_ct, fgt_rt, fgt_bk, fgt_exc, fgt_bad, frz_nx, frz_ct, frz_rt, frz_bk, frz_exc, frz_bad, frzE_nil, frzE_cons, ↓sRaise, ↓sTry, fixT, List.all_cons, List.all_nil, Bool.and_true, Bool.true_and, Bool.not_false, Bool.not_true, if_true, if_false, ite_true, ite_false, Bool.false_eq_true, reduceIte, reduceCtorEq, List.nodup_cons, List.nodup_nil, List.not_mem_nil, not_false_eq_true, and_self, and_true, true_and, List.mem_cons, List.mem_singleton, or_false, decide_true, decide_false, List.getElem?_cons_zero, List.getElem?_cons_succ, dEq_int, dNe_int, dEq_str, dCmp_int, dAdd_int, dSub_int, dInt_int, dAbs_int, dLen_lst, dLen_tup, dList_lst, dList_tup, dTuple_lst, dTuple_tup, dIxD_lst, dIxD_tup, dInD_lst, dInD_tup, q2]
        | false =>
          rw [w] at q2 q3
          simp only [Bool.false_or] at q2
          simp only [↓fnOf, initE, List.replicate, List.length_cons, List.length_nil, List.cons_append, List.nil_append, Nat.sub_self, Nat.reduceSub, Nat.reduceAdd, ↓sSeq, ↓sIf_eq, ↓sSet, ↓sRet, ↓sRetN, ↓sExpr, ↓sNil, ↓sNever, ↓sFor, ↓sAsg, ↓sFldS, ↓sAugIx, ↓sSetIx, ↓putIx, ↓sPar2, ↓sPar3, ↓M.then, ↓bind_eq, ↓M.ret, ↓M.bad, ↓M.get, ↓M.esc, ↓M.arg, ↓M.nrm, ↓M.res, ↓M.wipe, look, getE, ↓put, isMu_eq, muB_none, muB_sh, muB_ow, muB_mu, ↓eVar, ↓eC, ↓eOp1, ↓eOp2, ↓eBool_eq, ↓eAnd_eq, ↓eOr_eq, ↓eNot, ↓eAndV_eq, ↓eOrV_eq, ↓eNotV_eq, ↓eIf_eq, ↓eChain, ↓aNil, ↓aCons, ↓lCons, ↓kCons, ↓sCons, ↓eTup_eq, ↓eLst_eq, ↓eLc_eq, ↓eLc2_eq, ↓iSeq_eq, ↓Cw.iEnum, ↓iZipD_eq, ↓iRng1D_eq, ↓iRng2D, ↓eLRg, ↓eTRg, ↓rg1_eq, ↓rg2, ↓eSl, ↓oNone, ↓oSome_eq, ↓eCallB, ↓getAll, ↓eCall, ↓callM, gather, scatter, muI, toRV, ↓eMake, ↓makeM, ↓eMeth_eq, ↓eFld_eq, ↓eMut_eq, ↓eMutG_eq, ↓eDnew, finR, muOf, List.set, ↓gN, ↓fstep, ↓gT, ↓gsCons, ↓gsNil, noMu, wipeE, ↓sPre_eq, ↓iPre_eq, ↓sFgt, ↓sFrz, fgt_nx, fgt_ct, fgt_rt, fgt_bk, fgt_exc, fgt_bad, frz_nx, frz_ct, frz_rt, frz_bk, frz_exc, frz_bad, frzE_nil, frzE_cons, ↓sRaise, ↓sTry, fixT, List.all_cons, List.all_nil, Bool.and_true, Bool.true_and, Bool.not_false, Bool.not_true, if_true, if_false, ite_true, ite_false, Bool.false_eq_true, reduceIte, reduceCtorEq, List.nodup_cons, List.nodup_nil, List.not_mem_nil, not_false_eq_true, and_self, and_true, true_and, List.mem_cons, List.mem_singleton, or_false, decide_true, decide_false, List.getElem?_cons_zero, List.getElem?_cons_succ, dEq_int, dNe_int, dEq_str, dCmp_int, dAdd_int, dSub_int, dInt_int, dAbs_int, dLen_lst, dLen_tup, dList_lst, dList_tup, dTuple_lst, dTuple_tup, dIxD_lst, dIxD_tup, dInD_lst, dInD_tup, e1, hz, q3]
          rw [lcG_map fun s => D.bl (canG (rs.take j).reverse s)]
          · simp only [↓fnOf, initE, List.replicate, List.length_cons, List.length_nil, List.cons_append, List.nil_append, Nat.sub_self, Nat.reduceSub, Nat.reduceAdd, ↓sSeq, ↓sIf_eq, ↓sSet, ↓sRet, ↓sRetN, ↓sExpr, ↓sNil, ↓sNever, ↓sFor, ↓sAsg, ↓sFldS, ↓sAugIx, ↓sSetIx, ↓putIx, ↓sPar2, ↓sPar3, ↓M.then, ↓bind_eq, ↓M.ret, ↓M.bad, ↓M.get, ↓M.esc, ↓M.arg, ↓M.nrm, ↓M.res, ↓M.wipe, look, getE, ↓put, isMu_eq, muB_none, muB_sh, muB_ow, muB_mu, ↓eVar, ↓eC, ↓eOp1, ↓eOp2, ↓eBool_eq, ↓eAnd_eq, ↓eOr_eq, ↓eNot, ↓eAndV_eq, ↓eOrV_eq, ↓eNotV_eq, ↓eIf_eq, ↓eChain, ↓aNil, ↓aCons, ↓lCons, ↓kCons, ↓sCons, ↓eTup_eq, ↓eLst_eq, ↓eLc_eq, ↓eLc2_eq, ↓iSeq_eq, ↓Cw.iEnum, ↓iZipD_eq, ↓iRng1D_eq, ↓iRng2D, ↓eLRg, ↓eTRg, ↓rg1_eq, ↓rg2, ↓eSl, ↓oNone, ↓oSome_eq, ↓eCallB, ↓getAll, ↓eCall, ↓callM, gather, scatter, muI, toRV, ↓eMake, ↓makeM, ↓eMeth_eq, ↓eFld_eq, ↓eMut_eq, ↓eMutG_eq, ↓eDnew, finR, muOf, List.set, ↓gN, ↓fstep, ↓gT, ↓gsCons, ↓gsNil, noMu, wipeE, ↓sPre_eq, ↓iPre_eq, ↓sFgt, ↓sFrz, fgt_nx, fgt_ct, fgt_rt, fgt_bk, fgt_exc, fgt_bad, frz_nx, frz_ct, frz_rt, frz_bk, frz_exc, frz_bad, frzE_nil, frzE_cons, ↓sRaise, ↓sTry, fixT, List.all_cons, List.all_nil, Bool.and_true, Bool.true_and, Bool.not_false, Bool.not_true, if_true, if_false, ite_true, ite_false, Bool.false_eq_true, reduceIte, reduceCtorEq, List.nodup_cons, List.nodup_nil, List.not_mem_nil, not_false_eq_true, and_self, and_true, true_and, List.mem_cons, List.mem_singleton, or_false, decide_true, decide_false, List.getElem?_cons_zero, List.getElem?_cons_succ, dEq_int, dNe_int, dEq_str, dCmp_int, dAdd_int, dSub_int, dInt_int, dAbs_int, dLen_lst, dLen_tup, dList_lst, dList_tup, dTuple_lst, dTuple_tup, dIxD_lst, dIxD_tup, dInD_lst, dInD_tup, hz2, dAny_f, q2]
          · intro s hs
            obtain ⟨i, hi, rfl⟩ := fewer_mem hs
            have q4 : dIxD (.dic true (tabD (grps n) fun g => .bl (canG (rs.take j).reverse g))) (.tup (ii (g.eraseIdx i))) = some (false, .bl (canG (rs.take j).reverse (g.eraseIdx i))) := ix_tab (mem_grps.mpr (hr.sub (List.eraseIdx_sublist _ _)))
            refine ⟨_, rfl, rfl, rfl, ?_⟩
            simp only [v_law_can_3, ↓fnOf, initE, List.replicate, List.length_cons, List.length_nil, List.cons_append, List.nil_append, Nat.sub_self, Nat.reduceSub, Nat.reduceAdd, ↓sSeq, ↓sIf_eq, ↓sSet, ↓sRet, ↓sRetN, ↓sExpr, ↓sNil, ↓sNever, ↓sFor, ↓sAsg, ↓sFldS, ↓sAugIx, ↓sSetIx, ↓putIx, ↓sPar2, ↓sPar3, ↓M.then, ↓bind_eq, ↓M.ret, ↓M.bad, ↓M.get, ↓M.esc, ↓M.arg, ↓M.nrm, ↓M.res, ↓M.wipe, look, getE, ↓put, isMu_eq, muB_none, muB_sh, muB_ow, muB_mu, ↓eVar, ↓eC, ↓eOp1, ↓eOp2, ↓eBool_eq, ↓eAnd_eq, ↓eOr_eq, ↓eNot, ↓eAndV_eq, ↓eOrV_eq, ↓eNotV_eq, ↓eIf_eq, ↓eChain, ↓aNil, ↓aCons, ↓lCons, ↓kCons, ↓sCons, ↓eTup_eq, ↓eLst_eq, ↓eLc_eq, ↓eLc2_eq, ↓iSeq_eq, ↓Cw.iEnum, ↓iZipD_eq, ↓iRng1D_eq, ↓iRng2D, ↓eLRg, ↓eTRg, ↓rg1_eq, ↓rg2, ↓eSl, ↓oNone, ↓oSome_eq, ↓eCallB, ↓getAll, ↓eCall, ↓callM, gather, scatter, muI, toRV, ↓eMake, ↓makeM, ↓eMeth_eq, ↓eFld_eq, ↓eMut_eq, ↓eMutG_eq, ↓eDnew, finR, muOf, List.set, ↓gN, ↓fstep, ↓gT, ↓gsCons, ↓gsNil, noMu, wipeE, ↓sPre_eq, ↓iPre_eq, ↓sFgt, ↓sFrz, fgt_nx, fgt_ct, fgt_rt, fgt_bk, fgt_exc, fgt_bad, frz_nx, frz_ct, frz_rt, frz_bk, frz_exc, frz_bad, frzE_nil, frzE_cons, ↓sRaise, ↓sTry, fixT, List.all_cons, List.all_nil, Bool.and_true, Bool.true_and, Bool.not_false, Bool.not_true, if_true, if_false, ite_true, ite_false, Bool.false_eq_true, reduceIte, reduceCtorEq, List.nodup_cons, List.nodup_nil, List.not_mem_nil, not_false_eq_true, and_self, and_true, true_and, List.mem_cons, List.mem_singleton, or_false, decide_true, decide_false, List.getElem?_cons_zero, List.getElem?_cons_succ, dEq_int, dNe_int, dEq_str, dCmp_int, dAdd_int, dSub_int, dInt_int, dAbs_int, dLen_lst, dLen_tup, dList_lst, dList_tup, dTuple_lst, dTuple_tup, dIxD_lst, dIxD_tup, dInD_lst, dInD_tup, q4]
      · intro i hi
        have hi := List.mem_range.mp hi
        have q4 := ix_ii hi
        rw [getD_ge hi] at q4
        have q5 := cut_erase hi (by omega)
        refine ⟨_, rfl, ?_, rfl, rfl, fun _ => ?_⟩
        · simp only [t_law_can_1, ↓fnOf, initE, List.replicate, List.length_cons, List.length_nil, List.cons_append, List.nil_append, Nat.sub_self, Nat.reduceSub, Nat.reduceAdd, ↓sSeq, ↓sIf_eq, ↓sSet, ↓sRet, ↓sRetN, ↓sExpr, ↓sNil, ↓sNever, ↓sFor, ↓sAsg, ↓sFldS, ↓sAugIx, ↓sSetIx, ↓putIx, ↓sPar2, ↓sPar3, ↓M.then, ↓bind_eq, ↓M.ret, ↓M.bad, ↓M.get, ↓M.esc, ↓M.arg, ↓M.nrm, ↓M.res, ↓M.wipe, look, getE, ↓put, isMu_eq, muB_none, muB_sh, muB_ow, muB_mu, ↓eVar, ↓eC, ↓eOp1, ↓eOp2, ↓eBool_eq, ↓eAnd_eq, ↓eOr_eq, ↓eNot, ↓eAndV_eq, ↓eOrV_eq, ↓eNotV_eq, ↓eIf_eq, ↓eChain, ↓aNil, ↓aCons, ↓lCons, ↓kCons, ↓sCons, ↓eTup_eq, ↓eLst_eq, ↓eLc_eq, ↓eLc2_eq, ↓iSeq_eq, ↓Cw.iEnum, ↓iZipD_eq, ↓iRng1D_eq, ↓iRng2D, ↓eLRg, ↓eTRg, ↓rg1_eq, ↓rg2, ↓eSl, ↓oNone, ↓oSome_eq, ↓eCallB, ↓getAll, ↓eCall, ↓callM, gather, scatter, muI, toRV, ↓eMake, ↓makeM, ↓eMeth_eq, ↓eFld_eq, ↓eMut_eq, ↓eMutG_eq, ↓eDnew, finR, muOf, List.set, ↓gN, ↓fstep, ↓gT, ↓gsCons, ↓gsNil, noMu, wipeE, ↓sPre_eq, ↓iPre_eq, ↓sFgt, ↓sFrz, fgt_nx, fgt_ct, fgt_rt, fgt_bk, fgt_exc, fgt_bad, frz_nx, frz_ct, frz_rt, frz_bk, frz_exc, frz_bad, frzE_nil, frzE_cons, ↓sRaise, ↓sTry, fixT, List.all_cons, List.all_nil, Bool.and_true, Bool.true_and, Bool.not_false, Bool.not_true, if_true, if_false, ite_true, ite_false, Bool.false_eq_true, reduceIte, reduceCtorEq, List.nodup_cons, List.nodup_nil, List.not_mem_nil, not_false_eq_true, and_self, and_true, true_and, List.mem_cons, List.mem_singleton, or_false, decide_true, decide_false, List.getElem?_cons_zero, List.getElem?_cons_succ, dEq_int, dNe_int, dEq_str, dCmp_int, dAdd_int, dSub_int, dInt_int, dAbs_int, dLen_lst, dLen_tup, dList_lst, dList_tup, dTuple_lst, dTuple_tup, dIxD_lst, dIxD_tup, dInD_lst, dInD_tup, q4, dIn_tup]
        · simp only [v_law_can_2, ↓fnOf, initE, List.replicate, List.length_cons, List.length_nil, List.cons_append, List.nil_append, Nat.sub_self, Nat.reduceSub, Nat.reduceAdd, ↓sSeq, ↓sIf_eq, ↓sSet, ↓sRet, ↓sRetN, ↓sExpr, ↓sNil, ↓sNever, ↓sFor, ↓sAsg, ↓sFldS, ↓sAugIx, ↓sSetIx, ↓putIx, ↓sPar2, ↓sPar3, ↓M.then, ↓bind_eq, ↓M.ret, ↓M.bad, ↓M.get, ↓M.esc, ↓M.arg, ↓M.nrm, ↓M.res, ↓M.wipe, look, getE, ↓put, isMu_eq, muB_none, muB_sh, muB_ow, muB_mu, ↓eVar, ↓eC, ↓eOp1, ↓eOp2, ↓eBool_eq, ↓eAnd_eq, ↓eOr_eq, ↓eNot, ↓eAndV_eq, ↓eOrV_eq, ↓eNotV_eq, ↓eIf_eq, ↓eChain, ↓aNil, ↓aCons, ↓lCons, ↓kCons, ↓sCons, ↓eTup_eq, ↓eLst_eq, ↓eLc_eq, ↓eLc2_eq, ↓iSeq_eq, ↓Cw.iEnum, ↓iZipD_eq, ↓iRng1D_eq, ↓iRng2D, ↓eLRg, ↓eTRg, ↓rg1_eq, ↓rg2, ↓eSl, ↓oNone, ↓oSome_eq, ↓eCallB, ↓getAll, ↓eCall, ↓callM, gather, scatter, muI, toRV, ↓eMake, ↓makeM, ↓eMeth_eq, ↓eFld_eq, ↓eMut_eq, ↓eMutG_eq, ↓eDnew, finR, muOf, List.set, ↓gN, ↓fstep, ↓gT, ↓gsCons, ↓gsNil, noMu, wipeE, ↓sPre_eq, ↓iPre_eq, ↓sFgt, ↓sFrz, fgt_nx, fgt_ct, fgt_rt, fgt_bk, fgt_exc, fgt_bad, frz_nx, frz_ct, frz_rt, frz_bk, frz_exc, frz_bad, frzE_nil, frzE_cons, ↓sRaise, ↓sTry, fixT, List.all_cons, List.all_nil, Bool.and_true, Bool.true_and, Bool.not_false, Bool.not_true, if_true, if_false, ite_true, ite_false, Bool.false_eq_true, reduceIte, reduceCtorEq, List.nodup_cons, List.nodup_nil, List.not_mem_nil, not_false_eq_true, and_self, and_true, true_and, List.mem_cons, List.mem_singleton, or_false, decide_true, decide_false, List.getElem?_cons_zero, List.getElem?_cons_succ, dEq_int, dNe_int, dEq_str, dCmp_int, dAdd_int, dSub_int, dInt_int, dAbs_int, dLen_lst, dLen_tup, dList_lst, dList_tup, dTuple_lst, dTuple_tup, dIxD_lst, dIxD_tup, dInD_lst, dInD_tup, dSl, q5]
    have hM : forL (gN 4) (b_law_can_4 a) (gs (grps n)) [none, none, some (Fl.sh, .lst (gs (grps n))), some (Fl.sh, .dic true (tabD (grps n) fun g => .bl (canG (rs.take j).reverse g))), none, some (Fl.sh, .tup (ii rs[j])), some (Fl.ow, .dic true []), none, none, none] = .nx [none, none, some (Fl.sh, .lst (gs (grps n))), some (Fl.sh, .dic true (tabD (grps n) fun g => .bl (canG (rs.take j).reverse g))), none, some (Fl.sh, .tup (ii rs[j])), some (Fl.ow, .dic true (tabD (grps n) fun g => .bl (canG (rs.take (j + 1)).reverse g))), none, none, none] := by
      rw [gs_length, List.take_length] at hM
      exact hM
    simp only [b_law_can_5, ↓fnOf, initE, List.replicate, List.length_cons, List.length_nil, List.cons_append, List.nil_append, Nat.sub_self, Nat.reduceSub, Nat.reduceAdd, ↓sSeq, ↓sIf_eq, ↓sSet, ↓sRet, ↓sRetN, ↓sExpr, ↓sNil, ↓sNever, ↓sFor, ↓sAsg, ↓sFldS, ↓sAugIx, ↓sSetIx, ↓putIx, ↓sPar2, ↓sPar3, ↓M.then, ↓bind_eq, ↓M.ret, ↓M.bad, ↓M.get, ↓M.esc, ↓M.arg, ↓M.nrm, ↓M.res, ↓M.wipe, look, getE, ↓put, isMu_eq, muB_none, muB_sh, muB_ow, muB_mu, ↓eVar, ↓eC, ↓eOp1, ↓eOp2, ↓eBool_eq, ↓eAnd_eq, ↓eOr_eq, ↓eNot, ↓eAndV_eq, ↓eOrV_eq, ↓eNotV_eq, ↓eIf_eq, ↓eChain, ↓aNil, ↓aCons, ↓lCons, ↓kCons, ↓sCons, ↓eTup_eq, ↓eLst_eq, ↓eLc_eq, ↓eLc2_eq, ↓iSeq_eq, ↓Cw.iEnum, ↓iZipD_eq, ↓iRng1D_eq, ↓iRng2D, ↓eLRg, ↓eTRg, ↓rg1_eq, ↓rg2, ↓eSl, ↓oNone, ↓oSome_eq, ↓eCallB, ↓getAll, ↓eCall, ↓callM, gather, scatter, muI, toRV, ↓eMake, ↓makeM, ↓eMeth_eq, ↓eFld_eq, ↓eMut_eq, ↓eMutG_eq, ↓eDnew, finR, muOf, List.set, ↓gN, ↓fstep, ↓gT, ↓gsCons, ↓gsNil, noMu, wipeE, ↓sPre_eq, ↓iPre_eq, ↓sFgt, ↓sFrz, fgt_nx, fgt_ct, fgt_rt, fgt_bk, fgt_exc, fgt_bad, frz_nx, frz_ct, frz_rt, frz_bk, frz_exc, frz_bad, frzE_nil, frzE_cons, ↓sRaise, ↓sTry, fixT, List.all_cons, List.all_nil, Bool.and_true, Bool.true_and, Bool.not_false, Bool.not_true, if_true, if_false, ite_true, ite_false, Bool.false_eq_true, reduceIte, reduceCtorEq, List.nodup_cons, List.nodup_nil, List.not_mem_nil, not_false_eq_true, and_self, and_true, true_and, List.mem_cons, List.mem_singleton, or_false, decide_true, decide_false, List.getElem?_cons_zero, List.getElem?_cons_succ, dEq_int, dNe_int, dEq_str, dCmp_int, dAdd_int, dSub_int, dInt_int, dAbs_int, dLen_lst, dLen_tup, dList_lst, dList_tup, dTuple_lst, dTuple_tup, dIxD_lst, dIxD_tup, dInD_lst, dInD_tup, ↓hM]
  have hL2 : forL (gN 5) (b_law_can_5 a) (gs rs) [none, none, some (Fl.sh, .lst (gs (grps n))), some (Fl.sh, .dic true (tabD (grps n) fun g => .bl g.isEmpty)), none, none, none, none, none, none] = .nx [none, none, some (Fl.sh, .lst (gs (grps n))), some (Fl.sh, .dic true (tabD (grps n) fun g => .bl (canF rs g))), none, none, none, none, none, none] := by
    rw [gs_length, List.take_length] at hL2
    exact hL2
  refine ⟨false, ?_⟩
  rcases hR with rfl | rfl
  · simp only [m_law_can, g_law_can, ↓fnOf, initE, List.replicate, List.length_cons, List.length_nil, List.cons_append, List.nil_append, Nat.sub_self, Nat.reduceSub, Nat.reduceAdd, ↓sSeq, ↓sIf_eq, ↓sSet, ↓sRet, ↓sRetN, ↓sExpr, ↓sNil, ↓sNever, ↓sFor, ↓sAsg, ↓sFldS, ↓sAugIx, ↓sSetIx, ↓putIx, ↓sPar2, ↓sPar3, ↓M.then, ↓bind_eq, ↓M.ret, ↓M.bad, ↓M.get, ↓M.esc, ↓M.arg, ↓M.nrm, ↓M.res, ↓M.wipe, look, getE, ↓put, isMu_eq, muB_none, muB_sh, muB_ow, muB_mu, ↓eVar, ↓eC, ↓eOp1, ↓eOp2, ↓eBool_eq, ↓eAnd_eq, ↓eOr_eq, ↓eNot, ↓eAndV_eq, ↓eOrV_eq, ↓eNotV_eq, ↓eIf_eq, ↓eChain, ↓aNil, ↓aCons, ↓lCons, ↓kCons, ↓sCons, ↓eTup_eq, ↓eLst_eq, ↓eLc_eq, ↓eLc2_eq, ↓iSeq_eq, ↓Cw.iEnum, ↓iZipD_eq, ↓iRng1D_eq, ↓iRng2D, ↓eLRg, ↓eTRg, ↓rg1_eq, ↓rg2, ↓eSl, ↓oNone, ↓oSome_eq, ↓eCallB, ↓getAll, ↓eCall, ↓callM, gather, scatter, muI, toRV, ↓eMake, ↓makeM, ↓eMeth_eq, ↓eFld_eq, ↓eMut_eq, ↓eMutG_eq, ↓eDnew, finR, muOf, List.set, ↓gN, ↓fstep, ↓gT, ↓gsCons, ↓gsNil, noMu, wipeE, ↓sPre_eq, ↓iPre_eq, ↓sFgt, ↓sFrz, fgt_nx, fgt_ct, fgt_rt, fgt_bk, fgt_exc, fgt_bad, frz_nx, frz_ct, frz_rt, frz_bk, frz_exc, frz_bad, frzE_nil, frzE_cons, ↓sRaise, ↓sTry, fixT, List.all_cons, List.all_nil, Bool.and_true, Bool.true_and, Bool.not_false, Bool.not_true, if_true, if_false, ite_true, ite_false, Bool.false_eq_true, reduceIte, reduceCtorEq, List.nodup_cons, List.nodup_nil, List.not_mem_nil, not_false_eq_true, and_self, and_true, true_and, List.mem_cons, List.mem_singleton, or_false, decide_true, decide_false, List.getElem?_cons_zero, List.getElem?_cons_succ, dEq_int, dNe_int, dEq_str, dCmp_int, dAdd_int, dSub_int, dInt_int, dAbs_int, dLen_lst, dLen_tup, dList_lst, dList_tup, dTuple_lst, dTuple_tup, dIxD_lst, dIxD_tup, dInD_lst, dInD_tup, h0, ↓hL1, ↓hL2]
  · simp only [m_law_can, g_law_can, ↓fnOf, initE, List.replicate, List.length_cons, List.length_nil, List.cons_append, List.nil_append, Nat.sub_self, Nat.reduceSub, Nat.reduceAdd, ↓sSeq, ↓sIf_eq, ↓sSet, ↓sRet, ↓sRetN, ↓sExpr, ↓sNil, ↓sNever, ↓sFor, ↓sAsg, ↓sFldS, ↓sAugIx, ↓sSetIx, ↓putIx, ↓sPar2, ↓sPar3, ↓M.then, ↓bind_eq, ↓M.ret, ↓M.bad, ↓M.get, ↓M.esc, ↓M.arg, ↓M.nrm, ↓M.res, ↓M.wipe, look, getE, ↓put, isMu_eq, muB_none, muB_sh, muB_ow, muB_mu, ↓eVar, ↓eC, ↓eOp1, ↓eOp2, ↓eBool_eq, ↓eAnd_eq, ↓eOr_eq, ↓eNot, ↓eAndV_eq, ↓eOrV_eq, ↓eNotV_eq, ↓eIf_eq, ↓eChain, ↓aNil, ↓aCons, ↓lCons, ↓kCons, ↓sCons, ↓eTup_eq, ↓eLst_eq, ↓eLc_eq, ↓eLc2_eq, ↓iSeq_eq, ↓Cw.iEnum, ↓iZipD_eq, ↓iRng1D_eq, ↓iRng2D, ↓eLRg, ↓eTRg, ↓rg1_eq, ↓rg2, ↓eSl, ↓oNone, ↓oSome_eq, ↓eCallB, ↓getAll, ↓eCall, ↓callM, gather, scatter, muI, toRV, ↓eMake, ↓makeM, ↓eMeth_eq, ↓eFld_eq, ↓eMut_eq, ↓eMutG_eq, ↓eDnew, finR, muOf, List.set, ↓gN, ↓fstep, ↓gT, ↓gsCons, ↓gsNil, noMu, wipeE, ↓sPre_eq, ↓iPre_eq, ↓sFgt, ↓sFrz, fgt_nx, fgt_ct, fgt_rt, fgt_bk, fgt_exc, fgt_bad, frz_nx, frz_ct, frz_rt, frz_bk, frz_exc, frz_bad, frzE_nil, frzE_cons, ↓sRaise, ↓sTry, fixT, List.all_cons, List.all_nil, Bool.and_true, Bool.true_and, Bool.not_false, Bool.not_true, if_true, if_false, ite_true, ite_false, Bool.false_eq_true, reduceIte, reduceCtorEq, List.nodup_cons, List.nodup_nil, List.not_mem_nil, not_false_eq_true, and_self, and_true, true_and, List.mem_cons, List.mem_singleton, or_false, decide_true, decide_false, List.getElem?_cons_zero, List.getElem?_cons_succ, dEq_int, dNe_int, dEq_str, dCmp_int, dAdd_int, dSub_int, dInt_int, dAbs_int, dLen_lst, dLen_tup, dList_lst, dList_tup, dTuple_lst, dTuple_tup, dIxD_lst, dIxD_tup, dInD_lst, dInD_tup, h0, ↓hL1, ↓hL2]
end Cw

namespace Cw
open PySem L2
theorem intL_ii : ∀ xs : List Int, intL (ii xs) = some xs
  | [] => rfl
  | x :: xs => by
    show intL (D.int x :: ii xs) = _
    unfold intL
    rw [intL_ii xs]
theorem dMax_ii {xs : List Int} (h : xs ≠ []) : dMax [.lst (ii xs)] = some (false, .int (maxI xs)) := by
  cases xs with
  | nil => exact absurd rfl h
  | cons x xs =>
    have q := intL_ii (x :: xs)
    show (match intL (ii (x :: xs)) with
      | some (a :: r) => some (false, D.int (maxI (a :: r)))
      | _ => none) = _
    rw [q]
theorem dMax_f {α : Type} (f : α → Int) {xs : List α} (h : xs ≠ []) : dMax [.lst (xs.map fun x => D.int (f x))] = some (false, .int (maxI (xs.map f))) := by
  have e : (xs.map fun x => D.int (f x)) = ii (xs.map f) := by unfold ii; rw [List.map_map]; rfl
  rw [e, dMax_ii (by simpa using h)]
/-! ### comprehensions that change the slots -/
theorem lcS {vs : List Nat} {a : G} {tt : M Bool} {te : M RV} {α : Type} (enc : α → D) (q : α → Bool) (f : α → D) (I : En → Prop) : ∀ {xs : List α} {e : En}, I e →
    (∀ x e, x ∈ xs → I e → ∃ e1 e2, a (enc x) e = some e1 ∧ tt e1 = .ok (q x) e2 ∧ (q x = false → noMu e2 vs = true ∧ I (wipeE e2 vs)) ∧ (q x = true → ∃ e3, M.bind te M.esc e2 = .ok (f x) e3 ∧ noMu e3 vs = true ∧ I (wipeE e3 vs))) →
    ∃ e', lcL vs a tt te (xs.map enc) e = .ok ((xs.filter q).map f) e' ∧ I e'
  | [], e, i, _ => ⟨e, rfl, i⟩
  | x :: xs, e, i, h => by
    obtain ⟨e1, e2, h1, h2, h3, h4⟩ := h x e List.mem_cons_self i
    rw [List.map_cons]
    unfold lcL
    simp only [h1, h2]
    cases w : q x with
    | false =>
      obtain ⟨h5, h6⟩ := h3 w
      obtain ⟨e', k1, k2⟩ := lcS enc q f I (xs := xs) h6 fun x e hx => h x e (List.mem_cons_of_mem _ hx)
      exact ⟨e', by simp only [h5, if_true, k1, List.filter_cons, w, Bool.false_eq_true, if_false], k2⟩
    | true =>
      obtain ⟨e3, h5, h6, h7⟩ := h4 w
      obtain ⟨e', k1, k2⟩ := lcS enc q f I (xs := xs) h7 fun x e hx => h x e (List.mem_cons_of_mem _ hx)
      exact ⟨e', by simp only [h5, h6, if_true, k1, List.filter_cons, w, List.map_cons], k2⟩
/-- each item gives one that is good -/
theorem lcP {vs : List Nat} {a : G} {te : M RV} (I : En → Prop) (P : D → Prop) : ∀ {ds : List D} {e : En}, I e →
    (∀ d e, d ∈ ds → I e → ∃ e1 y e3, a d e = some e1 ∧ M.bind te M.esc e1 = .ok y e3 ∧ noMu e3 vs = true ∧ I (wipeE e3 vs) ∧ P y) →
    ∃ ys e', lcL vs a eYes te ds e = .ok ys e' ∧ I e' ∧ ys.length = ds.length ∧ ∀ y, y ∈ ys → P y
  | [], e, i, _ => ⟨[], e, rfl, i, rfl, fun _ h => absurd h List.not_mem_nil⟩
  | d :: ds, e, i, h => by
    obtain ⟨e1, y, e3, h1, h2, h3, h4, h5⟩ := h d e List.mem_cons_self i
    obtain ⟨ys, e', k1, k2, k3, k4⟩ := lcP I P (ds := ds) h4 fun d e hd => h d e (List.mem_cons_of_mem _ hd)
    refine ⟨y :: ys, e', ?_, k2, by simp [k3], fun z hz => ?_⟩
    · unfold lcL
      simp only [h1, eYes, M.ret, h2, h3, if_true]
      have k1 : lcL vs a (M.ret true) te ds (wipeE e3 vs) = .ok ys e' := k1
      show (match lcL vs a (M.ret true) te ds (wipeE e3 vs) with
        | .ok ys e4 => R.ok (y :: ys) e4
        | .exc x e4 => .exc x e4
        | .bad => .bad) = _
      rw [k1]
    · rcases List.mem_cons.mp hz with rfl | hz
      · exact h5
      · exact k4 z hz
variable (a : Nat → Addr)
theorem law_ranks_ok {n : Nat} {rs : List (List Int)} (hn : n ≤ 7) : ∃ fl, m_law_ranks a [.int (n : Int), .dic true (tabD (grps n) fun g => .bl (canF rs g))] = .ok (fl, .dic true (tabD (grps n) fun g => .int (stg rs g))) [] := by
  have h0 := law_groups_ok a hn
  have hL1 := forS_fold (a := gN 3) (b := b_law_ranks_1 a) (fun k => [none, some (Fl.sh, .dic true (tabD (grps n) fun g => .bl (canF rs g))), some (Fl.ow, .dic true (tabD ((grps n).take k) fun g => .int (stg rs g))), none, none]) (ds := gs (grps n)) fun k hk => by
    have hk' : k < (grps n).length := by rwa [gs_length] at hk
    rw [gs_get hk]
    have hm := List.getElem_mem hk'
    have hr := mem_grps.mp hm
    have hlt := fun (h : List Int) (q : Row n h) (w : h.length < (grps n)[k].length) => ix_tab (f := fun g => .int (stg rs g)) (mem_take hk' (mem_grps.mpr q) w)
    have q2 := tab_next hn (fun g => .int (stg rs g)) hk'
    generalize (grps n)[k] = g at hm hr q2 hlt
    generalize (grps n).take k = tk at q2 hlt
    have hgl : g.length ≤ 7 := Nat.le_trans hr.len hn
    have q3 : dIxD (.dic true (tabD (grps n) fun g => .bl (canF rs g))) (.tup (ii g)) = some (false, .bl (canF rs g)) := ix_tab hm
    have h62 := in62_nat g.length (by omega)
    have e2 : ii (rg g.length) = (List.range g.length).map fun (k : Nat) => D.int (k : Int) := by unfold ii rg; rw [List.map_map]; rfl
    cases w : canF rs g with
    | true =>
      rw [w] at q3
      have e := (stg_can hr.nodup).mp w
      rw [e] at q2
      simp only [b_law_ranks_1, ↓fnOf, initE, List.replicate, List.length_cons, List.length_nil, List.cons_append, List.nil_append, Nat.sub_self, Nat.reduceSub, Nat.reduceAdd, ↓sSeq, ↓sIf_eq, ↓sSet, ↓sRet, ↓sRetN, ↓sExpr, ↓sNil, ↓sNever, ↓sFor, ↓sAsg, ↓sFldS, ↓sAugIx, ↓sSetIx, ↓putIx, ↓sPar2, ↓sPar3, ↓M.then, ↓bind_eq, ↓M.ret, ↓M.bad, ↓M.get, ↓M.esc, ↓M.arg, ↓M.nrm, ↓M.res, ↓M.wipe, look, getE, ↓put, isMu_eq, muB_none, muB_sh, muB_ow, muB_mu, ↓eVar, ↓eC, ↓eOp1, ↓eOp2, ↓eBool_eq, ↓eAnd_eq, ↓eOr_eq, ↓eNot, ↓eAndV_eq, ↓eOrV_eq, ↓eNotV_eq, ↓eIf_eq, ↓eChain, ↓aNil, ↓aCons, ↓lCons, ↓kCons, ↓sCons, ↓eTup_eq, ↓eLst_eq, ↓eLc_eq, ↓eLc2_eq, ↓iSeq_eq, ↓Cw.iEnum, ↓iZipD_eq, ↓iRng1D_eq, ↓iRng2D, ↓eLRg, ↓eTRg, ↓rg1_eq, ↓rg2, ↓eSl, ↓oNone, ↓oSome_eq, ↓eCallB, ↓getAll, ↓eCall, ↓callM, gather, scatter, muI, toRV, ↓eMake, ↓makeM, ↓eMeth_eq, ↓eFld_eq, ↓eMut_eq, ↓eMutG_eq, ↓eDnew, finR, muOf, List.set, ↓gN, ↓fstep, ↓gT, ↓gsCons, ↓gsNil, noMu, wipeE, ↓sPre_eq, ↓iPre_eq, ↓sFgt, ↓sFrz, fgt_nx, fgt_ct, fgt_rt, fgt_bk, fgt_exc, fgt_bad, frz_nx, frz_ct, frz_rt, frz_bk, frz_exc, frz_bad, frzE_nil, frzE_cons, ↓sRaise, ↓sTry, fixT, List.all_cons, List.all_nil, Bool.and_true, Bool.true_and, Bool.not_false, Bool.not_true, if_true, if_false, ite_true, ite_false, Bool.false_eq_true, reduceIte, reduceCtorEq, List.nodup_cons, List.nodup_nil, List.not_mem_nil, not_false_eq_true, and_self, and_true, true_and, List.mem_cons, List.mem_singleton, or_false, decide_true, decide_false, List.getElem?_cons_zero, List.getElem?_cons_succ, dEq_int, dNe_int, dEq_str, dCmp_int, dAdd_int, dSub_int, dInt_int, dAbs_int, dLen_lst, dLen_tup, dList_lst, dList_tup, dTuple_lst, dTuple_tup, dIxD_lst, dIxD_tup, dInD_lst, dInD_tup, q3, ii_length, q2]
    | false =>
      rw [w] at q3
      have hmax := stg_max hr.nodup w
      have hne : g ≠ [] := by
        rintro rfl
        have : canF rs [] = true := (canF_iff List.nodup_nil).mpr fun s hs => by
          rw [List.sublist_nil.mp hs, df_nil]; omega
        rw [this] at w; cases w
      have hne2 : List.range g.length ≠ [] := by
        intro z
        have := congrArg List.length z
        rw [List.length_range] at this
        exact hne (List.eq_nil_of_length_eq_zero this)
      have hz : ((List.range g.length).map fun k => D.int (stg rs (g.eraseIdx k))).length ≤ sizeLine := szL (by simp; omega)
      have q5 := dMax_f (fun k => stg rs (g.eraseIdx k)) hne2
      rw [hmax] at q5
      simp only [b_law_ranks_1, ↓fnOf, initE, List.replicate, List.length_cons, List.length_nil, List.cons_append, List.nil_append, Nat.sub_self, Nat.reduceSub, Nat.reduceAdd, ↓sSeq, ↓sIf_eq, ↓sSet, ↓sRet, ↓sRetN, ↓sExpr, ↓sNil, ↓sNever, ↓sFor, ↓sAsg, ↓sFldS, ↓sAugIx, ↓sSetIx, ↓putIx, ↓sPar2, ↓sPar3, ↓M.then, ↓bind_eq, ↓M.ret, ↓M.bad, ↓M.get, ↓M.esc, ↓M.arg, ↓M.nrm, ↓M.res, ↓M.wipe, look, getE, ↓put, isMu_eq, muB_none, muB_sh, muB_ow, muB_mu, ↓eVar, ↓eC, ↓eOp1, ↓eOp2, ↓eBool_eq, ↓eAnd_eq, ↓eOr_eq, ↓eNot, ↓eAndV_eq, ↓eOrV_eq, ↓eNotV_eq, ↓eIf_eq, ↓eChain, ↓aNil, ↓aCons, ↓lCons, ↓kCons, ↓sCons, ↓eTup_eq, ↓eLst_eq, ↓eLc_eq, ↓eLc2_eq, ↓iSeq_eq, ↓Cw.iEnum, ↓iZipD_eq, ↓iRng1D_eq, ↓iRng2D, ↓eLRg, ↓eTRg, ↓rg1_eq, ↓rg2, ↓eSl, ↓oNone, ↓oSome_eq, ↓eCallB, ↓getAll, ↓eCall, ↓callM, gather, scatter, muI, toRV, ↓eMake, ↓makeM, ↓eMeth_eq, ↓eFld_eq, ↓eMut_eq, ↓eMutG_eq, ↓eDnew, finR, muOf, List.set, ↓gN, ↓fstep, ↓gT, ↓gsCons, ↓gsNil, noMu, wipeE, ↓sPre_eq, ↓iPre_eq, ↓sFgt, ↓sFrz, fgt_nx, fgt_ct, fgt_rt, fgt_bk, fgt_exc, fgt_bad, frz_nx, frz_ct, frz_rt, frz_bk, frz_exc, frz_bad, frzE_nil, frzE_cons, ↓sRaise, ↓sTry, fixT, List.all_cons, List.all_nil, Bool.and_true, Bool.true_and, Bool.not_false, Bool.not_true, if_true, if_false, ite_true, ite_false, Bool.false_eq_true, reduceIte, reduceCtorEq, List.nodup_cons, List.nodup_nil, List.not_mem_nil, not_false_eq_true, and_self, and_true, true_and, List.mem_cons, List.mem_singleton, or_false, decide_true, decide_false, List.getElem?_cons_zero, List.getElem?_cons_succ, dEq_int, dNe_int, dEq_str, dCmp_int, dAdd_int, dSub_int, dInt_int, dAbs_int, dLen_lst, dLen_tup, dList_lst, dList_tup, dTuple_lst, dTuple_tup, dIxD_lst, dIxD_tup, dInD_lst, dInD_tup, q3, ii_length, h62, Int.toNat_natCast, rangeD_rg, e2]
      have hlc : lcL [4] (gN 4) eYes (v_law_ranks_0 a) ((List.range g.length).map fun (k : Nat) => D.int (k : Int)) [none, some (Fl.sh, .dic true (tabD (grps n) fun g => .bl (canF rs g))), some (Fl.ow, .dic true (tabD tk fun g => .int (stg rs g))), some (Fl.sh, .tup (ii g)), none] = .ok (((List.range g.length).filter fun _ => true).map fun k => D.int (stg rs (g.eraseIdx k))) [none, some (Fl.sh, .dic true (tabD (grps n) fun g => .bl (canF rs g))), some (Fl.ow, .dic true (tabD tk fun g => .int (stg rs g))), some (Fl.sh, .tup (ii g)), none] := by
        refine lcE (fun (k : Nat) => D.int (k : Int)) (fun _ => true) _ ?_
        intro i hi
        have hi := List.mem_range.mp hi
        have q6 := cut_erase hi (by omega)
        have q7 := hlt (g.eraseIdx i) (hr.sub (List.eraseIdx_sublist _ _)) (by rw [List.length_eraseIdx]; split <;> omega)
        refine ⟨_, rfl, rfl, rfl, rfl, fun _ => ?_⟩
        simp only [v_law_ranks_0, ↓fnOf, initE, List.replicate, List.length_cons, List.length_nil, List.cons_append, List.nil_append, Nat.sub_self, Nat.reduceSub, Nat.reduceAdd, ↓sSeq, ↓sIf_eq, ↓sSet, ↓sRet, ↓sRetN, ↓sExpr, ↓sNil, ↓sNever, ↓sFor, ↓sAsg, ↓sFldS, ↓sAugIx, ↓sSetIx, ↓putIx, ↓sPar2, ↓sPar3, ↓M.then, ↓bind_eq, ↓M.ret, ↓M.bad, ↓M.get, ↓M.esc, ↓M.arg, ↓M.nrm, ↓M.res, ↓M.wipe, look, getE, ↓put, isMu_eq, muB_none, muB_sh, muB_ow, muB_mu, ↓eVar, ↓eC, ↓eOp1, ↓eOp2, ↓eBool_eq, ↓eAnd_eq, ↓eOr_eq, ↓eNot, ↓eAndV_eq, ↓eOrV_eq, ↓eNotV_eq, ↓eIf_eq, ↓eChain, ↓aNil, ↓aCons, ↓lCons, ↓kCons, ↓sCons, ↓eTup_eq, ↓eLst_eq, ↓eLc_eq, ↓eLc2_eq, ↓iSeq_eq, ↓Cw.iEnum, ↓iZipD_eq, ↓iRng1D_eq, ↓iRng2D, ↓eLRg, ↓eTRg, ↓rg1_eq, ↓rg2, ↓eSl, ↓oNone, ↓oSome_eq, ↓eCallB, ↓getAll, ↓eCall, ↓callM, gather, scatter, muI, toRV, ↓eMake, ↓makeM, ↓eMeth_eq, ↓eFld_eq, ↓eMut_eq, ↓eMutG_eq, ↓eDnew, finR, muOf, List.set, ↓gN, ↓fstep, ↓gT, ↓gsCons, ↓gsNil, noMu, wipeE, ↓sPre_eq, ↓iPre_eq, ↓sFgt, ↓sFrz, fgt_nx, fgt_ct, fgt_rt, fgt_bk, fgt_exc, fgt_bad, frz_nx, frz_ct, frz_rt, frz_bk, frz_exc, frz_bad, frzE_nil, frzE_cons, ↓sRaise, ↓sTry, fixT, List.all_cons, List.all_nil, Bool.and_true, Bool.true_and, Bool.not_false, Bool.not_true, if_true, if_false, ite_true, ite_false, Bool.false_eq_true, reduceIte, reduceCtorEq, List.nodup_cons, List.nodup_nil, List.not_mem_nil, not_false_eq_true, and_self, and_true, true_and, List.mem_cons, List.mem_singleton, or_false, decide_true, decide_false, List.getElem?_cons_zero, List.getElem?_cons_succ, dEq_int, dNe_int, dEq_str, dCmp_int, dAdd_int, dSub_int, dInt_int, dAbs_int, dLen_lst, dLen_tup, dList_lst, dList_tup, dTuple_lst, dTuple_tup, dIxD_lst, dIxD_tup, dInD_lst, dInD_tup, dSl, q6, q7]
      rw [List.filter_eq_self.mpr fun _ _ => rfl] at hlc
      simp only [↓fnOf, initE, List.replicate, List.length_cons, List.length_nil, List.cons_append, List.nil_append, Nat.sub_self, Nat.reduceSub, Nat.reduceAdd, ↓sSeq, ↓sIf_eq, ↓sSet, ↓sRet, ↓sRetN, ↓sExpr, ↓sNil, ↓sNever, ↓sFor, ↓sAsg, ↓sFldS, ↓sAugIx, ↓sSetIx, ↓putIx, ↓sPar2, ↓sPar3, ↓M.then, ↓bind_eq, ↓M.ret, ↓M.bad, ↓M.get, ↓M.esc, ↓M.arg, ↓M.nrm, ↓M.res, ↓M.wipe, look, getE, ↓put, isMu_eq, muB_none, muB_sh, muB_ow, muB_mu, ↓eVar, ↓eC, ↓eOp1, ↓eOp2, ↓eBool_eq, ↓eAnd_eq, ↓eOr_eq, ↓eNot, ↓eAndV_eq, ↓eOrV_eq, ↓eNotV_eq, ↓eIf_eq, ↓eChain, ↓aNil, ↓aCons, ↓lCons, ↓kCons, ↓sCons, ↓eTup_eq, ↓eLst_eq, ↓eLc_eq, ↓eLc2_eq, ↓iSeq_eq, ↓Cw.iEnum, ↓iZipD_eq, ↓iRng1D_eq, ↓iRng2D, ↓eLRg, ↓eTRg, ↓rg1_eq, ↓rg2, ↓eSl, ↓oNone, ↓oSome_eq, ↓eCallB, ↓getAll, ↓eCall, ↓callM, gather, scatter, muI, toRV, ↓eMake, ↓makeM, ↓eMeth_eq, ↓eFld_eq, ↓eMut_eq, ↓eMutG_eq, ↓eDnew, finR, muOf, List.set, ↓gN, ↓fstep, ↓gT, ↓gsCons, ↓gsNil, noMu, wipeE, ↓sPre_eq, ↓iPre_eq, ↓sFgt, ↓sFrz, fgt_nx, fgt_ct, fgt_rt, fgt_bk, fgt_exc, fgt_bad, frz_nx, frz_ct, frz_rt, frz_bk, frz_exc, frz_bad, frzE_nil, frzE_cons, ↓sRaise, ↓sTry, fixT, List.all_cons, List.all_nil, Bool.and_true, Bool.true_and, Bool.not_false, Bool.not_true, if_true, if_false, ite_true, ite_false, Bool.false_eq_true, reduceIte, reduceCtorEq, List.nodup_cons, List.nodup_nil, List.not_mem_nil, not_false_eq_true, and_self, and_true, true_and, List.mem_cons, List.mem_singleton, or_false, decide_true, decide_false, List.getElem?_cons_zero, List.getElem?_cons_succ, dEq_int, dNe_int, dEq_str, dCmp_int, dAdd_int, dSub_int, dInt_int, dAbs_int, dLen_lst, dLen_tup, dList_lst, dList_tup, dTuple_lst, dTuple_tup, dIxD_lst, dIxD_tup, dInD_lst, dInD_tup, ↓hlc, hz, q5, q2]
  have hL1 : forL (gN 3) (b_law_ranks_1 a) (gs (grps n)) [none, some (Fl.sh, .dic true (tabD (grps n) fun g => .bl (canF rs g))), some (Fl.ow, .dic true []), none, none] = .nx [none, some (Fl.sh, .dic true (tabD (grps n) fun g => .bl (canF rs g))), some (Fl.ow, .dic true (tabD (grps n) fun g => .int (stg rs g))), none, none] := by
    rw [gs_length, List.take_length] at hL1
    exact hL1
  refine ⟨true, ?_⟩
  simp only [m_law_ranks, g_law_ranks, ↓fnOf, initE, List.replicate, List.length_cons, List.length_nil, List.cons_append, List.nil_append, Nat.sub_self, Nat.reduceSub, Nat.reduceAdd, ↓sSeq, ↓sIf_eq, ↓sSet, ↓sRet, ↓sRetN, ↓sExpr, ↓sNil, ↓sNever, ↓sFor, ↓sAsg, ↓sFldS, ↓sAugIx, ↓sSetIx, ↓putIx, ↓sPar2, ↓sPar3, ↓M.then, ↓bind_eq, ↓M.ret, ↓M.bad, ↓M.get, ↓M.esc, ↓M.arg, ↓M.nrm, ↓M.res, ↓M.wipe, look, getE, ↓put, isMu_eq, muB_none, muB_sh, muB_ow, muB_mu, ↓eVar, ↓eC, ↓eOp1, ↓eOp2, ↓eBool_eq, ↓eAnd_eq, ↓eOr_eq, ↓eNot, ↓eAndV_eq, ↓eOrV_eq, ↓eNotV_eq, ↓eIf_eq, ↓eChain, ↓aNil, ↓aCons, ↓lCons, ↓kCons, ↓sCons, ↓eTup_eq, ↓eLst_eq, ↓eLc_eq, ↓eLc2_eq, ↓iSeq_eq, ↓Cw.iEnum, ↓iZipD_eq, ↓iRng1D_eq, ↓iRng2D, ↓eLRg, ↓eTRg, ↓rg1_eq, ↓rg2, ↓eSl, ↓oNone, ↓oSome_eq, ↓eCallB, ↓getAll, ↓eCall, ↓callM, gather, scatter, muI, toRV, ↓eMake, ↓makeM, ↓eMeth_eq, ↓eFld_eq, ↓eMut_eq, ↓eMutG_eq, ↓eDnew, finR, muOf, List.set, ↓gN, ↓fstep, ↓gT, ↓gsCons, ↓gsNil, noMu, wipeE, ↓sPre_eq, ↓iPre_eq, ↓sFgt, ↓sFrz, fgt_nx, fgt_ct, fgt_rt, fgt_bk, fgt_exc, fgt_bad, frz_nx, frz_ct, frz_rt, frz_bk, frz_exc, frz_bad, frzE_nil, frzE_cons, ↓sRaise, ↓sTry, fixT, List.all_cons, List.all_nil, Bool.and_true, Bool.true_and, Bool.not_false, Bool.not_true, if_true, if_false, ite_true, ite_false, Bool.false_eq_true, reduceIte, reduceCtorEq, List.nodup_cons, List.nodup_nil, List.not_mem_nil, not_false_eq_true, and_self, and_true, true_and, List.mem_cons, List.mem_singleton, or_false, decide_true, decide_false, List.getElem?_cons_zero, List.getElem?_cons_succ, dEq_int, dNe_int, dEq_str, dCmp_int, dAdd_int, dSub_int, dInt_int, dAbs_int, dLen_lst, dLen_tup, dList_lst, dList_tup, dTuple_lst, dTuple_tup, dIxD_lst, dIxD_tup, dInD_lst, dInD_tup, h0, ↓hL1]
theorem law_parts_ok {g : List Int} (hg : g.length ≤ 7) : m_law_parts a [.tup (ii g)] = .ok (true, .lst (gs (prts g))) [] := by
  have h1 := law_groups_ok a hg
  have hz : (gs (prts g)).length ≤ sizeLine := szB (by rw [gs_length]; exact prts_len hg)
  simp only [m_law_parts, g_law_parts, ↓fnOf, initE, List.replicate, List.length_cons, List.length_nil, List.cons_append, List.nil_append, Nat.sub_self, Nat.reduceSub, Nat.reduceAdd, ↓sSeq, ↓sIf_eq, ↓sSet, ↓sRet, ↓sRetN, ↓sExpr, ↓sNil, ↓sNever, ↓sFor, ↓sAsg, ↓sFldS, ↓sAugIx, ↓sSetIx, ↓putIx, ↓sPar2, ↓sPar3, ↓M.then, ↓bind_eq, ↓M.ret, ↓M.bad, ↓M.get, ↓M.esc, ↓M.arg, ↓M.nrm, ↓M.res, ↓M.wipe, look, getE, ↓put, isMu_eq, muB_none, muB_sh, muB_ow, muB_mu, ↓eVar, ↓eC, ↓eOp1, ↓eOp2, ↓eBool_eq, ↓eAnd_eq, ↓eOr_eq, ↓eNot, ↓eAndV_eq, ↓eOrV_eq, ↓eNotV_eq, ↓eIf_eq, ↓eChain, ↓aNil, ↓aCons, ↓lCons, ↓kCons, ↓sCons, ↓eTup_eq, ↓eLst_eq, ↓eLc_eq, ↓eLc2_eq, ↓iSeq_eq, ↓Cw.iEnum, ↓iZipD_eq, ↓iRng1D_eq, ↓iRng2D, ↓eLRg, ↓eTRg, ↓rg1_eq, ↓rg2, ↓eSl, ↓oNone, ↓oSome_eq, ↓eCallB, ↓getAll, ↓eCall, ↓callM, gather, scatter, muI, toRV, ↓eMake, ↓makeM, ↓eMeth_eq, ↓eFld_eq, ↓eMut_eq, ↓eMutG_eq, ↓eDnew, finR, muOf, List.set, ↓gN, ↓fstep, ↓gT, ↓gsCons, ↓gsNil, noMu, wipeE, ↓sPre_eq, ↓iPre_eq, ↓sFgt, ↓sFrz, fgt_nx, fgt_ct, fgt_rt, fgt_bk, fgt_exc, fgt_bad, frz_nx, frz_ct, frz_rt, frz_bk, frz_exc, frz_bad, frzE_nil, frzE_cons, ↓sRaise, ↓sTry, fixT, List.all_cons, List.all_nil, Bool.and_true, Bool.true_and, Bool.not_false, Bool.not_true, if_true, if_false, ite_true, ite_false, Bool.false_eq_true, reduceIte, reduceCtorEq, List.nodup_cons, List.nodup_nil, List.not_mem_nil, not_false_eq_true, and_self, and_true, true_and, List.mem_cons, List.mem_singleton, or_false, decide_true, decide_false, List.getElem?_cons_zero, List.getElem?_cons_succ, dEq_int, dNe_int, dEq_str, dCmp_int, dAdd_int, dSub_int, dInt_int, dAbs_int, dLen_lst, dLen_tup, dList_lst, dList_tup, dTuple_lst, dTuple_tup, dIxD_lst, dIxD_tup, dInD_lst, dInD_tup, ii_length, h1]
  rw [lcG_map fun pl => D.tup (ii (pk g pl))]
  · simp only [↓fnOf, initE, List.replicate, List.length_cons, List.length_nil, List.cons_append, List.nil_append, Nat.sub_self, Nat.reduceSub, Nat.reduceAdd, ↓sSeq, ↓sIf_eq, ↓sSet, ↓sRet, ↓sRetN, ↓sExpr, ↓sNil, ↓sNever, ↓sFor, ↓sAsg, ↓sFldS, ↓sAugIx, ↓sSetIx, ↓putIx, ↓sPar2, ↓sPar3, ↓M.then, ↓bind_eq, ↓M.ret, ↓M.bad, ↓M.get, ↓M.esc, ↓M.arg, ↓M.nrm, ↓M.res, ↓M.wipe, look, getE, ↓put, isMu_eq, muB_none, muB_sh, muB_ow, muB_mu, ↓eVar, ↓eC, ↓eOp1, ↓eOp2, ↓eBool_eq, ↓eAnd_eq, ↓eOr_eq, ↓eNot, ↓eAndV_eq, ↓eOrV_eq, ↓eNotV_eq, ↓eIf_eq, ↓eChain, ↓aNil, ↓aCons, ↓lCons, ↓kCons, ↓sCons, ↓eTup_eq, ↓eLst_eq, ↓eLc_eq, ↓eLc2_eq, ↓iSeq_eq, ↓Cw.iEnum, ↓iZipD_eq, ↓iRng1D_eq, ↓iRng2D, ↓eLRg, ↓eTRg, ↓rg1_eq, ↓rg2, ↓eSl, ↓oNone, ↓oSome_eq, ↓eCallB, ↓getAll, ↓eCall, ↓callM, gather, scatter, muI, toRV, ↓eMake, ↓makeM, ↓eMeth_eq, ↓eFld_eq, ↓eMut_eq, ↓eMutG_eq, ↓eDnew, finR, muOf, List.set, ↓gN, ↓fstep, ↓gT, ↓gsCons, ↓gsNil, noMu, wipeE, ↓sPre_eq, ↓iPre_eq, ↓sFgt, ↓sFrz, fgt_nx, fgt_ct, fgt_rt, fgt_bk, fgt_exc, fgt_bad, frz_nx, frz_ct, frz_rt, frz_bk, frz_exc, frz_bad, frzE_nil, frzE_cons, ↓sRaise, ↓sTry, fixT, List.all_cons, List.all_nil, Bool.and_true, Bool.true_and, Bool.not_false, Bool.not_true, if_true, if_false, ite_true, ite_false, Bool.false_eq_true, reduceIte, reduceCtorEq, List.nodup_cons, List.nodup_nil, List.not_mem_nil, not_false_eq_true, and_self, and_true, true_and, List.mem_cons, List.mem_singleton, or_false, decide_true, decide_false, List.getElem?_cons_zero, List.getElem?_cons_succ, dEq_int, dNe_int, dEq_str, dCmp_int, dAdd_int, dSub_int, dInt_int, dAbs_int, dLen_lst, dLen_tup, dList_lst, dList_tup, dTuple_lst, dTuple_tup, dIxD_lst, dIxD_tup, dInD_lst, dInD_tup, map_prts, hz]
  · intro pl hpl
    have hr := mem_grps.mp hpl
    have hz2 : (ii (pk g pl)).length ≤ sizeLine := szL (by
      rw [ii_length]; unfold pk; rw [List.length_map]; have := hr.len; omega)
    refine ⟨_, rfl, rfl, rfl, ?_⟩
    simp only [v_law_parts_1, ↓fnOf, initE, List.replicate, List.length_cons, List.length_nil, List.cons_append, List.nil_append, Nat.sub_self, Nat.reduceSub, Nat.reduceAdd, ↓sSeq, ↓sIf_eq, ↓sSet, ↓sRet, ↓sRetN, ↓sExpr, ↓sNil, ↓sNever, ↓sFor, ↓sAsg, ↓sFldS, ↓sAugIx, ↓sSetIx, ↓putIx, ↓sPar2, ↓sPar3, ↓M.then, ↓bind_eq, ↓M.ret, ↓M.bad, ↓M.get, ↓M.esc, ↓M.arg, ↓M.nrm, ↓M.res, ↓M.wipe, look, getE, ↓put, isMu_eq, muB_none, muB_sh, muB_ow, muB_mu, ↓eVar, ↓eC, ↓eOp1, ↓eOp2, ↓eBool_eq, ↓eAnd_eq, ↓eOr_eq, ↓eNot, ↓eAndV_eq, ↓eOrV_eq, ↓eNotV_eq, ↓eIf_eq, ↓eChain, ↓aNil, ↓aCons, ↓lCons, ↓kCons, ↓sCons, ↓eTup_eq, ↓eLst_eq, ↓eLc_eq, ↓eLc2_eq, ↓iSeq_eq, ↓Cw.iEnum, ↓iZipD_eq, ↓iRng1D_eq, ↓iRng2D, ↓eLRg, ↓eTRg, ↓rg1_eq, ↓rg2, ↓eSl, ↓oNone, ↓oSome_eq, ↓eCallB, ↓getAll, ↓eCall, ↓callM, gather, scatter, muI, toRV, ↓eMake, ↓makeM, ↓eMeth_eq, ↓eFld_eq, ↓eMut_eq, ↓eMutG_eq, ↓eDnew, finR, muOf, List.set, ↓gN, ↓fstep, ↓gT, ↓gsCons, ↓gsNil, noMu, wipeE, ↓sPre_eq, ↓iPre_eq, ↓sFgt, ↓sFrz, fgt_nx, fgt_ct, fgt_rt, fgt_bk, fgt_exc, fgt_bad, frz_nx, frz_ct, frz_rt, frz_bk, frz_exc, frz_bad, frzE_nil, frzE_cons, ↓sRaise, ↓sTry, fixT, List.all_cons, List.all_nil, Bool.and_true, Bool.true_and, Bool.not_false, Bool.not_true, if_true, if_false, ite_true, ite_false, Bool.false_eq_true, reduceIte, reduceCtorEq, List.nodup_cons, List.nodup_nil, List.not_mem_nil, not_false_eq_true, and_self, and_true, true_and, List.mem_cons, List.mem_singleton, or_false, decide_true, decide_false, List.getElem?_cons_zero, List.getElem?_cons_succ, dEq_int, dNe_int, dEq_str, dCmp_int, dAdd_int, dSub_int, dInt_int, dAbs_int, dLen_lst, dLen_tup, dList_lst, dList_tup, dTuple_lst, dTuple_tup, dIxD_lst, dIxD_tup, dInD_lst, dInD_tup]
    rw [lcI_map fun i => D.int (g.getD i.toNat 0)]
    · simp only [↓fnOf, initE, List.replicate, List.length_cons, List.length_nil, List.cons_append, List.nil_append, Nat.sub_self, Nat.reduceSub, Nat.reduceAdd, ↓sSeq, ↓sIf_eq, ↓sSet, ↓sRet, ↓sRetN, ↓sExpr, ↓sNil, ↓sNever, ↓sFor, ↓sAsg, ↓sFldS, ↓sAugIx, ↓sSetIx, ↓putIx, ↓sPar2, ↓sPar3, ↓M.then, ↓bind_eq, ↓M.ret, ↓M.bad, ↓M.get, ↓M.esc, ↓M.arg, ↓M.nrm, ↓M.res, ↓M.wipe, look, getE, ↓put, isMu_eq, muB_none, muB_sh, muB_ow, muB_mu, ↓eVar, ↓eC, ↓eOp1, ↓eOp2, ↓eBool_eq, ↓eAnd_eq, ↓eOr_eq, ↓eNot, ↓eAndV_eq, ↓eOrV_eq, ↓eNotV_eq, ↓eIf_eq, ↓eChain, ↓aNil, ↓aCons, ↓lCons, ↓kCons, ↓sCons, ↓eTup_eq, ↓eLst_eq, ↓eLc_eq, ↓eLc2_eq, ↓iSeq_eq, ↓Cw.iEnum, ↓iZipD_eq, ↓iRng1D_eq, ↓iRng2D, ↓eLRg, ↓eTRg, ↓rg1_eq, ↓rg2, ↓eSl, ↓oNone, ↓oSome_eq, ↓eCallB, ↓getAll, ↓eCall, ↓callM, gather, scatter, muI, toRV, ↓eMake, ↓makeM, ↓eMeth_eq, ↓eFld_eq, ↓eMut_eq, ↓eMutG_eq, ↓eDnew, finR, muOf, List.set, ↓gN, ↓fstep, ↓gT, ↓gsCons, ↓gsNil, noMu, wipeE, ↓sPre_eq, ↓iPre_eq, ↓sFgt, ↓sFrz, fgt_nx, fgt_ct, fgt_rt, fgt_bk, fgt_exc, fgt_bad, frz_nx, frz_ct, frz_rt, frz_bk, frz_exc, frz_bad, frzE_nil, frzE_cons, ↓sRaise, ↓sTry, fixT, List.all_cons, List.all_nil, Bool.and_true, Bool.true_and, Bool.not_false, Bool.not_true, if_true, if_false, ite_true, ite_false, Bool.false_eq_true, reduceIte, reduceCtorEq, List.nodup_cons, List.nodup_nil, List.not_mem_nil, not_false_eq_true, and_self, and_true, true_and, List.mem_cons, List.mem_singleton, or_false, decide_true, decide_false, List.getElem?_cons_zero, List.getElem?_cons_succ, dEq_int, dNe_int, dEq_str, dCmp_int, dAdd_int, dSub_int, dInt_int, dAbs_int, dLen_lst, dLen_tup, dList_lst, dList_tup, dTuple_lst, dTuple_tup, dIxD_lst, dIxD_tup, dInD_lst, dInD_tup, map_pk, hz2]
    · intro i hi
      have q := ix_getD (hr.lt hi)
      refine ⟨_, rfl, rfl, rfl, ?_⟩
      simp only [v_law_parts_0, ↓fnOf, initE, List.replicate, List.length_cons, List.length_nil, List.cons_append, List.nil_append, Nat.sub_self, Nat.reduceSub, Nat.reduceAdd, ↓sSeq, ↓sIf_eq, ↓sSet, ↓sRet, ↓sRetN, ↓sExpr, ↓sNil, ↓sNever, ↓sFor, ↓sAsg, ↓sFldS, ↓sAugIx, ↓sSetIx, ↓putIx, ↓sPar2, ↓sPar3, ↓M.then, ↓bind_eq, ↓M.ret, ↓M.bad, ↓M.get, ↓M.esc, ↓M.arg, ↓M.nrm, ↓M.res, ↓M.wipe, look, getE, ↓put, isMu_eq, muB_none, muB_sh, muB_ow, muB_mu, ↓eVar, ↓eC, ↓eOp1, ↓eOp2, ↓eBool_eq, ↓eAnd_eq, ↓eOr_eq, ↓eNot, ↓eAndV_eq, ↓eOrV_eq, ↓eNotV_eq, ↓eIf_eq, ↓eChain, ↓aNil, ↓aCons, ↓lCons, ↓kCons, ↓sCons, ↓eTup_eq, ↓eLst_eq, ↓eLc_eq, ↓eLc2_eq, ↓iSeq_eq, ↓Cw.iEnum, ↓iZipD_eq, ↓iRng1D_eq, ↓iRng2D, ↓eLRg, ↓eTRg, ↓rg1_eq, ↓rg2, ↓eSl, ↓oNone, ↓oSome_eq, ↓eCallB, ↓getAll, ↓eCall, ↓callM, gather, scatter, muI, toRV, ↓eMake, ↓makeM, ↓eMeth_eq, ↓eFld_eq, ↓eMut_eq, ↓eMutG_eq, ↓eDnew, finR, muOf, List.set, ↓gN, ↓fstep, ↓gT, ↓gsCons, ↓gsNil, noMu, wipeE, ↓sPre_eq, ↓iPre_eq, ↓sFgt, ↓sFrz, fgt_nx, fgt_ct, fgt_rt, fgt_bk, fgt_exc, fgt_bad, frz_nx, frz_ct, frz_rt, frz_bk, frz_exc, frz_bad, frzE_nil, frzE_cons, ↓sRaise, ↓sTry, fixT, List.all_cons, List.all_nil, Bool.and_true, Bool.true_and, Bool.not_false, Bool.not_true, if_true, if_false, ite_true, ite_false, Bool.false_eq_true, reduceIte, reduceCtorEq, List.nodup_cons, List.nodup_nil, List.not_mem_nil, not_false_eq_true, and_self, and_true, true_and, List.mem_cons, List.mem_singleton, or_false, decide_true, decide_false, List.getElem?_cons_zero, List.getElem?_cons_succ, dEq_int, dNe_int, dEq_str, dCmp_int, dAdd_int, dSub_int, dInt_int, dAbs_int, dLen_lst, dLen_tup, dList_lst, dList_tup, dTuple_lst, dTuple_tup, dIxD_lst, dIxD_tup, dInD_lst, dInD_tup, q]
theorem law_shortage_ok {n : Nat} {rs : List (List Int)} {g : List Int} (hl : rs.length ≤ 64) (hn : n ≤ 7) (hr : Row n g) : m_law_shortage a [.lst (gs rs), .tup (ii g)] = .ok (false, .int (df rs g)) [] := by
  have hgl : g.length ≤ 7 := Nat.le_trans hr.len hn
  have hz : (gs (rs.filter (hitB g))).length ≤ sizeLine := szL (by
    rw [gs_length]
    exact Nat.le_trans (List.length_filter_le _ _) hl)
  simp only [m_law_shortage, g_law_shortage, ↓fnOf, initE, List.replicate, List.length_cons, List.length_nil, List.cons_append, List.nil_append, Nat.sub_self, Nat.reduceSub, Nat.reduceAdd, ↓sSeq, ↓sIf_eq, ↓sSet, ↓sRet, ↓sRetN, ↓sExpr, ↓sNil, ↓sNever, ↓sFor, ↓sAsg, ↓sFldS, ↓sAugIx, ↓sSetIx, ↓putIx, ↓sPar2, ↓sPar3, ↓M.then, ↓bind_eq, ↓M.ret, ↓M.bad, ↓M.get, ↓M.esc, ↓M.arg, ↓M.nrm, ↓M.res, ↓M.wipe, look, getE, ↓put, isMu_eq, muB_none, muB_sh, muB_ow, muB_mu, ↓eVar, ↓eC, ↓eOp1, ↓eOp2, ↓eBool_eq, ↓eAnd_eq, ↓eOr_eq, ↓eNot, ↓eAndV_eq, ↓eOrV_eq, ↓eNotV_eq, ↓eIf_eq, ↓eChain, ↓aNil, ↓aCons, ↓lCons, ↓kCons, ↓sCons, ↓eTup_eq, ↓eLst_eq, ↓eLc_eq, ↓eLc2_eq, ↓iSeq_eq, ↓Cw.iEnum, ↓iZipD_eq, ↓iRng1D_eq, ↓iRng2D, ↓eLRg, ↓eTRg, ↓rg1_eq, ↓rg2, ↓eSl, ↓oNone, ↓oSome_eq, ↓eCallB, ↓getAll, ↓eCall, ↓callM, gather, scatter, muI, toRV, ↓eMake, ↓makeM, ↓eMeth_eq, ↓eFld_eq, ↓eMut_eq, ↓eMutG_eq, ↓eDnew, finR, muOf, List.set, ↓gN, ↓fstep, ↓gT, ↓gsCons, ↓gsNil, noMu, wipeE, ↓sPre_eq, ↓iPre_eq, ↓sFgt, ↓sFrz, fgt_nx, fgt_ct, fgt_rt, fgt_bk, fgt_exc, fgt_bad, frz_nx, frz_ct, frz_rt, frz_bk, frz_exc, frz_bad, frzE_nil, frzE_cons, ↓sRaise, ↓sTry, fixT, List.all_cons, List.all_nil, Bool.and_true, Bool.true_and, Bool.not_false, Bool.not_true, if_true, if_false, ite_true, ite_false, Bool.false_eq_true, reduceIte, reduceCtorEq, List.nodup_cons, List.nodup_nil, List.not_mem_nil, not_false_eq_true, and_self, and_true, true_and, List.mem_cons, List.mem_singleton, or_false, decide_true, decide_false, List.getElem?_cons_zero, List.getElem?_cons_succ, dEq_int, dNe_int, dEq_str, dCmp_int, dAdd_int, dSub_int, dInt_int, dAbs_int, dLen_lst, dLen_tup, dList_lst, dList_tup, dTuple_lst, dTuple_tup, dIxD_lst, dIxD_tup, dInD_lst, dInD_tup, ii_length]
  rw [lcG_filt (hitB g)]
  · have e : (gs (rs.filter (hitB g))).length = cnt rs g := by rw [gs_length]; unfold cnt; rw [List.countP_eq_length_filter]
    rw [e] at hz
    simp only [↓fnOf, initE, List.replicate, List.length_cons, List.length_nil, List.cons_append, List.nil_append, Nat.sub_self, Nat.reduceSub, Nat.reduceAdd, ↓sSeq, ↓sIf_eq, ↓sSet, ↓sRet, ↓sRetN, ↓sExpr, ↓sNil, ↓sNever, ↓sFor, ↓sAsg, ↓sFldS, ↓sAugIx, ↓sSetIx, ↓putIx, ↓sPar2, ↓sPar3, ↓M.then, ↓bind_eq, ↓M.ret, ↓M.bad, ↓M.get, ↓M.esc, ↓M.arg, ↓M.nrm, ↓M.res, ↓M.wipe, look, getE, ↓put, isMu_eq, muB_none, muB_sh, muB_ow, muB_mu, ↓eVar, ↓eC, ↓eOp1, ↓eOp2, ↓eBool_eq, ↓eAnd_eq, ↓eOr_eq, ↓eNot, ↓eAndV_eq, ↓eOrV_eq, ↓eNotV_eq, ↓eIf_eq, ↓eChain, ↓aNil, ↓aCons, ↓lCons, ↓kCons, ↓sCons, ↓eTup_eq, ↓eLst_eq, ↓eLc_eq, ↓eLc2_eq, ↓iSeq_eq, ↓Cw.iEnum, ↓iZipD_eq, ↓iRng1D_eq, ↓iRng2D, ↓eLRg, ↓eTRg, ↓rg1_eq, ↓rg2, ↓eSl, ↓oNone, ↓oSome_eq, ↓eCallB, ↓getAll, ↓eCall, ↓callM, gather, scatter, muI, toRV, ↓eMake, ↓makeM, ↓eMeth_eq, ↓eFld_eq, ↓eMut_eq, ↓eMutG_eq, ↓eDnew, finR, muOf, List.set, ↓gN, ↓fstep, ↓gT, ↓gsCons, ↓gsNil, noMu, wipeE, ↓sPre_eq, ↓iPre_eq, ↓sFgt, ↓sFrz, fgt_nx, fgt_ct, fgt_rt, fgt_bk, fgt_exc, fgt_bad, frz_nx, frz_ct, frz_rt, frz_bk, frz_exc, frz_bad, frzE_nil, frzE_cons, ↓sRaise, ↓sTry, fixT, List.all_cons, List.all_nil, Bool.and_true, Bool.true_and, Bool.not_false, Bool.not_true, if_true, if_false, ite_true, ite_false, Bool.false_eq_true, reduceIte, reduceCtorEq, List.nodup_cons, List.nodup_nil, List.not_mem_nil, not_false_eq_true, and_self, and_true, true_and, List.mem_cons, List.mem_singleton, or_false, decide_true, decide_false, List.getElem?_cons_zero, List.getElem?_cons_succ, dEq_int, dNe_int, dEq_str, dCmp_int, dAdd_int, dSub_int, dInt_int, dAbs_int, dLen_lst, dLen_tup, dList_lst, dList_tup, dTuple_lst, dTuple_tup, dIxD_lst, dIxD_tup, dInD_lst, dInD_tup, e, hz]
    rfl
  · intro r hrm
    have hz2 : (ii (g.filter fun p => decide (p ∈ r))).length ≤ sizeLine := szL (by
      rw [ii_length]
      exact Nat.le_trans (List.length_filter_le _ _) (by omega))
    have q := dNe_nil (NiceL.ii (xs := g.filter fun p => decide (p ∈ r)) fun i hi => by have := hr.lt (List.mem_filter.mp hi).1; omega) (by decide)
    have e : (!(ii (g.filter fun p => decide (p ∈ r))).isEmpty) = hitB g r := by
      rw [ii_empty]
      unfold hitB
      rw [Bool.eq_iff_iff, Bool.not_eq_true', List.any_eq_true]
      constructor
      · intro h
        cases hx : g.filter fun p => decide (p ∈ r) with
        | nil => rw [hx] at h; cases h
        | cons x t =>
          have : x ∈ g.filter fun p => decide (p ∈ r) := by rw [hx]; simp
          exact ⟨x, (List.mem_filter.mp this).1, (List.mem_filter.mp this).2⟩
      · rintro ⟨x, h1, h2⟩
        have : x ∈ g.filter fun p => decide (p ∈ r) := List.mem_filter.mpr ⟨h1, h2⟩
        cases hx : g.filter fun p => decide (p ∈ r) with
        | nil => rw [hx] at this; cases this
        | cons _ _ => rfl
    rw [e] at q
    refine ⟨_, rfl, ?_, rfl, rfl, rfl⟩
    simp only [t_law_shortage_1, ↓fnOf, initE, List.replicate, List.length_cons, List.length_nil, List.cons_append, List.nil_append, Nat.sub_self, Nat.reduceSub, Nat.reduceAdd, ↓sSeq, ↓sIf_eq, ↓sSet, ↓sRet, ↓sRetN, ↓sExpr, ↓sNil, ↓sNever, ↓sFor, ↓sAsg, ↓sFldS, ↓sAugIx, ↓sSetIx, ↓putIx, ↓sPar2, ↓sPar3, ↓M.then, ↓bind_eq, ↓M.ret, ↓M.bad, ↓M.get, ↓M.esc, ↓M.arg, ↓M.nrm, ↓M.res, ↓M.wipe, look, getE, ↓put, isMu_eq, muB_none, muB_sh, muB_ow, muB_mu, ↓eVar, ↓eC, ↓eOp1, ↓eOp2, ↓eBool_eq, ↓eAnd_eq, ↓eOr_eq, ↓eNot, ↓eAndV_eq, ↓eOrV_eq, ↓eNotV_eq, ↓eIf_eq, ↓eChain, ↓aNil, ↓aCons, ↓lCons, ↓kCons, ↓sCons, ↓eTup_eq, ↓eLst_eq, ↓eLc_eq, ↓eLc2_eq, ↓iSeq_eq, ↓Cw.iEnum, ↓iZipD_eq, ↓iRng1D_eq, ↓iRng2D, ↓eLRg, ↓eTRg, ↓rg1_eq, ↓rg2, ↓eSl, ↓oNone, ↓oSome_eq, ↓eCallB, ↓getAll, ↓eCall, ↓callM, gather, scatter, muI, toRV, ↓eMake, ↓makeM, ↓eMeth_eq, ↓eFld_eq, ↓eMut_eq, ↓eMutG_eq, ↓eDnew, finR, muOf, List.set, ↓gN, ↓fstep, ↓gT, ↓gsCons, ↓gsNil, noMu, wipeE, ↓sPre_eq, ↓iPre_eq, ↓sFgt, ↓sFrz, fgt_nx, fgt_ct, fgt_rt, fgt_bk, fgt_exc, fgt_bad, frz_nx, frz_ct, frz_rt, frz_bk, frz_exc, frz_bad, frzE_nil, frzE_cons, ↓sRaise, ↓sTry, fixT, List.all_cons, List.all_nil, Bool.and_true, Bool.true_and, Bool.not_false, Bool.not_true, if_true, if_false, ite_true, ite_false, Bool.false_eq_true, reduceIte, reduceCtorEq, List.nodup_cons, List.nodup_nil, List.not_mem_nil, not_false_eq_true, and_self, and_true, true_and, List.mem_cons, List.mem_singleton, or_false, decide_true, decide_false, List.getElem?_cons_zero, List.getElem?_cons_succ, dEq_int, dNe_int, dEq_str, dCmp_int, dAdd_int, dSub_int, dInt_int, dAbs_int, dLen_lst, dLen_tup, dList_lst, dList_tup, dTuple_lst, dTuple_tup, dIxD_lst, dIxD_tup, dInD_lst, dInD_tup, z0]
    rw [lcI_filt fun p => decide (p ∈ r)]
    · simp only [↓fnOf, initE, List.replicate, List.length_cons, List.length_nil, List.cons_append, List.nil_append, Nat.sub_self, Nat.reduceSub, Nat.reduceAdd, ↓sSeq, ↓sIf_eq, ↓sSet, ↓sRet, ↓sRetN, ↓sExpr, ↓sNil, ↓sNever, ↓sFor, ↓sAsg, ↓sFldS, ↓sAugIx, ↓sSetIx, ↓putIx, ↓sPar2, ↓sPar3, ↓M.then, ↓bind_eq, ↓M.ret, ↓M.bad, ↓M.get, ↓M.esc, ↓M.arg, ↓M.nrm, ↓M.res, ↓M.wipe, look, getE, ↓put, isMu_eq, muB_none, muB_sh, muB_ow, muB_mu, ↓eVar, ↓eC, ↓eOp1, ↓eOp2, ↓eBool_eq, ↓eAnd_eq, ↓eOr_eq, ↓eNot, ↓eAndV_eq, ↓eOrV_eq, ↓eNotV_eq, ↓eIf_eq, ↓eChain, ↓aNil, ↓aCons, ↓lCons, ↓kCons, ↓sCons, ↓eTup_eq, ↓eLst_eq, ↓eLc_eq, ↓eLc2_eq, ↓iSeq_eq, ↓Cw.iEnum, ↓iZipD_eq, ↓iRng1D_eq, ↓iRng2D, ↓eLRg, ↓eTRg, ↓rg1_eq, ↓rg2, ↓eSl, ↓oNone, ↓oSome_eq, ↓eCallB, ↓getAll, ↓eCall, ↓callM, gather, scatter, muI, toRV, ↓eMake, ↓makeM, ↓eMeth_eq, ↓eFld_eq, ↓eMut_eq, ↓eMutG_eq, ↓eDnew, finR, muOf, List.set, ↓gN, ↓fstep, ↓gT, ↓gsCons, ↓gsNil, noMu, wipeE, ↓sPre_eq, ↓iPre_eq, ↓sFgt, ↓sFrz, fgt_nx, fgt_ct, fgt_rt, fgt_bk, fgt_exc, fgt_bad, frz_nx, frz_ct, frz_rt, frz_bk, frz_exc, frz_bad, frzE_nil, frzE_cons, ↓sRaise, ↓sTry, fixT, List.all_cons, List.all_nil, Bool.and_true, Bool.true_and, Bool.not_false, Bool.not_true, if_true, if_false, ite_true, ite_false, Bool.false_eq_true, reduceIte, reduceCtorEq, List.nodup_cons, List.nodup_nil, List.not_mem_nil, not_false_eq_true, and_self, and_true, true_and, List.mem_cons, List.mem_singleton, or_false, decide_true, decide_false, List.getElem?_cons_zero, List.getElem?_cons_succ, dEq_int, dNe_int, dEq_str, dCmp_int, dAdd_int, dSub_int, dInt_int, dAbs_int, dLen_lst, dLen_tup, dList_lst, dList_tup, dTuple_lst, dTuple_tup, dIxD_lst, dIxD_tup, dInD_lst, dInD_tup, hz2, z0, q]
    · intro p hp
      refine ⟨_, rfl, ?_, rfl, rfl, rfl⟩
      simp only [t_law_shortage_0, ↓fnOf, initE, List.replicate, List.length_cons, List.length_nil, List.cons_append, List.nil_append, Nat.sub_self, Nat.reduceSub, Nat.reduceAdd, ↓sSeq, ↓sIf_eq, ↓sSet, ↓sRet, ↓sRetN, ↓sExpr, ↓sNil, ↓sNever, ↓sFor, ↓sAsg, ↓sFldS, ↓sAugIx, ↓sSetIx, ↓putIx, ↓sPar2, ↓sPar3, ↓M.then, ↓bind_eq, ↓M.ret, ↓M.bad, ↓M.get, ↓M.esc, ↓M.arg, ↓M.nrm, ↓M.res, ↓M.wipe, look, getE, ↓put, isMu_eq, muB_none, muB_sh, muB_ow, muB_mu, ↓eVar, ↓eC, ↓eOp1, ↓eOp2, ↓eBool_eq, ↓eAnd_eq, ↓eOr_eq, ↓eNot, ↓eAndV_eq, ↓eOrV_eq, ↓eNotV_eq, ↓eIf_eq, ↓eChain, ↓aNil, ↓aCons, ↓lCons, ↓kCons, ↓sCons, ↓eTup_eq, ↓eLst_eq, ↓eLc_eq, ↓eLc2_eq, ↓iSeq_eq, ↓Cw.iEnum, ↓iZipD_eq, ↓iRng1D_eq, ↓iRng2D, ↓eLRg, ↓eTRg, ↓rg1_eq, ↓rg2, ↓eSl, ↓oNone, ↓oSome_eq, ↓eCallB, ↓getAll, ↓eCall, ↓callM, gather, scatter, muI, toRV, ↓eMake, ↓makeM, ↓eMeth_eq, ↓eFld_eq, ↓eMut_eq, ↓eMutG_eq, ↓eDnew, finR, muOf, List.set, ↓gN, ↓fstep, ↓gT, ↓gsCons, ↓gsNil, noMu, wipeE, ↓sPre_eq, ↓iPre_eq, ↓sFgt, ↓sFrz, fgt_nx, fgt_ct, fgt_rt, fgt_bk, fgt_exc, fgt_bad, frz_nx, frz_ct, frz_rt, frz_bk, frz_exc, frz_bad, frzE_nil, frzE_cons, ↓sRaise, ↓sTry, fixT, List.all_cons, List.all_nil, Bool.and_true, Bool.true_and, Bool.not_false, Bool.not_true, if_true, if_false, ite_true, ite_false, Bool.false_eq_true, reduceIte, reduceCtorEq, List.nodup_cons, List.nodup_nil, List.not_mem_nil, not_false_eq_true, and_self, and_true, true_and, List.mem_cons, List.mem_singleton, or_false, decide_true, decide_false, List.getElem?_cons_zero, List.getElem?_cons_succ, dEq_int, dNe_int, dEq_str, dCmp_int, dAdd_int, dSub_int, dInt_int, dAbs_int, dLen_lst, dLen_tup, dList_lst, dList_tup, dTuple_lst, dTuple_tup, dIxD_lst, dIxD_tup, dInD_lst, dInD_tup, dIn_tup]
theorem law_short_ok {n : Nat} {rs : List (List Int)} {g : List Int} (hl : rs.length ≤ 64) (hn : n ≤ 7) (hr : Row n g) : m_law_short a [.lst (gs rs), .tup (ii g)] = .ok (false, .tup (ii (spF rs g))) [] := by
  have hgl : g.length ≤ 7 := Nat.le_trans hr.len hn
  have h1 := law_parts_ok a hgl
  have hsh := fun (s : List Int) (h : s ∈ prts g) => law_shortage_ok a (rs := rs) hl hn (hr.sub (mem_prts.mp h))
  have hls := spF_lst (rs := rs) hr.nodup
  have hmx : maxI ((prts g).map (df rs)) = df rs (spF rs g) := (maxI_eq (List.mem_map.mpr ⟨_, mem_prts.mpr hls.sub, rfl⟩) fun y hy => by
    obtain ⟨s, hs, rfl⟩ := List.mem_map.mp hy
    exact hls.max s (mem_prts.mp hs)).symm
  have hcm := hls.common hr.nodup _ rfl
  have hne : prts g ≠ [] := List.ne_nil_of_mem (mem_prts.mpr (List.nil_sublist g))
  have hmx2 := dMax_f (df rs) hne
  rw [hmx] at hmx2
  have hpl := prts_len hgl
  have hz1 : ((prts g).map fun s => D.int (df rs s)).length ≤ sizeLine := szB (by rw [List.length_map]; exact hpl)
  have hfl := List.length_filter_le (fun s => decide (df rs s = df rs (spF rs g))) (prts g)
  have hz2 : (gs ((prts g).filter fun s => decide (df rs s = df rs (spF rs g)))).length ≤ sizeLine := szB (by rw [gs_length]; omega)
  have hz3 : (ii (spF rs g)).length ≤ sizeLine := szL (by rw [ii_length]; have := hls.sub.length_le; omega)
  simp only [m_law_short, g_law_short, ↓fnOf, initE, List.replicate, List.length_cons, List.length_nil, List.cons_append, List.nil_append, Nat.sub_self, Nat.reduceSub, Nat.reduceAdd, ↓sSeq, ↓sIf_eq, ↓sSet, ↓sRet, ↓sRetN, ↓sExpr, ↓sNil, ↓sNever, ↓sFor, ↓sAsg, ↓sFldS, ↓sAugIx, ↓sSetIx, ↓putIx, ↓sPar2, ↓sPar3, ↓M.then, ↓bind_eq, ↓M.ret, ↓M.bad, ↓M.get, ↓M.esc, ↓M.arg, ↓M.nrm, ↓M.res, ↓M.wipe, look, getE, ↓put, isMu_eq, muB_none, muB_sh, muB_ow, muB_mu, ↓eVar, ↓eC, ↓eOp1, ↓eOp2, ↓eBool_eq, ↓eAnd_eq, ↓eOr_eq, ↓eNot, ↓eAndV_eq, ↓eOrV_eq, ↓eNotV_eq, ↓eIf_eq, ↓eChain, ↓aNil, ↓aCons, ↓lCons, ↓kCons, ↓sCons, ↓eTup_eq, ↓eLst_eq, ↓eLc_eq, ↓eLc2_eq, ↓iSeq_eq, ↓Cw.iEnum, ↓iZipD_eq, ↓iRng1D_eq, ↓iRng2D, ↓eLRg, ↓eTRg, ↓rg1_eq, ↓rg2, ↓eSl, ↓oNone, ↓oSome_eq, ↓eCallB, ↓getAll, ↓eCall, ↓callM, gather, scatter, muI, toRV, ↓eMake, ↓makeM, ↓eMeth_eq, ↓eFld_eq, ↓eMut_eq, ↓eMutG_eq, ↓eDnew, finR, muOf, List.set, ↓gN, ↓fstep, ↓gT, ↓gsCons, ↓gsNil, noMu, wipeE, ↓sPre_eq, ↓iPre_eq, ↓sFgt, ↓sFrz, fgt_nx, fgt_ct, fgt_rt, fgt_bk, fgt_exc, fgt_bad, frz_nx, frz_ct, frz_rt, frz_bk, frz_exc, frz_bad, frzE_nil, frzE_cons, ↓sRaise, ↓sTry, fixT, List.all_cons, List.all_nil, Bool.and_true, Bool.true_and, Bool.not_false, Bool.not_true, if_true, if_false, ite_true, ite_false, Bool.false_eq_true, reduceIte, reduceCtorEq, List.nodup_cons, List.nodup_nil, List.not_mem_nil, not_false_eq_true, and_self, and_true, true_and, List.mem_cons, List.mem_singleton, or_false, decide_true, decide_false, List.getElem?_cons_zero, List.getElem?_cons_succ, dEq_int, dNe_int, dEq_str, dCmp_int, dAdd_int, dSub_int, dInt_int, dAbs_int, dLen_lst, dLen_tup, dList_lst, dList_tup, dTuple_lst, dTuple_tup, dIxD_lst, dIxD_tup, dInD_lst, dInD_tup, h1]
  rw [lcG_map fun s => D.int (df rs s)]
  · simp only [↓fnOf, initE, List.replicate, List.length_cons, List.length_nil, List.cons_append, List.nil_append, Nat.sub_self, Nat.reduceSub, Nat.reduceAdd, ↓sSeq, ↓sIf_eq, ↓sSet, ↓sRet, ↓sRetN, ↓sExpr, ↓sNil, ↓sNever, ↓sFor, ↓sAsg, ↓sFldS, ↓sAugIx, ↓sSetIx, ↓putIx, ↓sPar2, ↓sPar3, ↓M.then, ↓bind_eq, ↓M.ret, ↓M.bad, ↓M.get, ↓M.esc, ↓M.arg, ↓M.nrm, ↓M.res, ↓M.wipe, look, getE, ↓put, isMu_eq, muB_none, muB_sh, muB_ow, muB_mu, ↓eVar, ↓eC, ↓eOp1, ↓eOp2, ↓eBool_eq, ↓eAnd_eq, ↓eOr_eq, ↓eNot, ↓eAndV_eq, ↓eOrV_eq, ↓eNotV_eq, ↓eIf_eq, ↓eChain, ↓aNil, ↓aCons, ↓lCons, ↓kCons, ↓sCons, ↓eTup_eq, ↓eLst_eq, ↓eLc_eq, ↓eLc2_eq, ↓iSeq_eq, ↓Cw.iEnum, ↓iZipD_eq, ↓iRng1D_eq, ↓iRng2D, ↓eLRg, ↓eTRg, ↓rg1_eq, ↓rg2, ↓eSl, ↓oNone, ↓oSome_eq, ↓eCallB, ↓getAll, ↓eCall, ↓callM, gather, scatter, muI, toRV, ↓eMake, ↓makeM, ↓eMeth_eq, ↓eFld_eq, ↓eMut_eq, ↓eMutG_eq, ↓eDnew, finR, muOf, List.set, ↓gN, ↓fstep, ↓gT, ↓gsCons, ↓gsNil, noMu, wipeE, ↓sPre_eq, ↓iPre_eq, ↓sFgt, ↓sFrz, fgt_nx, fgt_ct, fgt_rt, fgt_bk, fgt_exc, fgt_bad, frz_nx, frz_ct, frz_rt, frz_bk, frz_exc, frz_bad, frzE_nil, frzE_cons, ↓sRaise, ↓sTry, fixT, List.all_cons, List.all_nil, Bool.and_true, Bool.true_and, Bool.not_false, Bool.not_true, if_true, if_false, ite_true, ite_false, Bool.false_eq_true, reduceIte, reduceCtorEq, List.nodup_cons, List.nodup_nil, List.not_mem_nil, not_false_eq_true, and_self, and_true, true_and, List.mem_cons, List.mem_singleton, or_false, decide_true, decide_false, List.getElem?_cons_zero, List.getElem?_cons_succ, dEq_int, dNe_int, dEq_str, dCmp_int, dAdd_int, dSub_int, dInt_int, dAbs_int, dLen_lst, dLen_tup, dList_lst, dList_tup, dTuple_lst, dTuple_tup, dIxD_lst, dIxD_tup, dInD_lst, dInD_tup, hz1, hmx2]
    rw [lcG_filt fun s => decide (df rs s = df rs (spF rs g))]
    · simp only [↓fnOf, initE, List.replicate, List.length_cons, List.length_nil, List.cons_append, List.nil_append, Nat.sub_self, Nat.reduceSub, Nat.reduceAdd, ↓sSeq, ↓sIf_eq, ↓sSet, ↓sRet, ↓sRetN, ↓sExpr, ↓sNil, ↓sNever, ↓sFor, ↓sAsg, ↓sFldS, ↓sAugIx, ↓sSetIx, ↓putIx, ↓sPar2, ↓sPar3, ↓M.then, ↓bind_eq, ↓M.ret, ↓M.bad, ↓M.get, ↓M.esc, ↓M.arg, ↓M.nrm, ↓M.res, ↓M.wipe, look, getE, ↓put, isMu_eq, muB_none, muB_sh, muB_ow, muB_mu, ↓eVar, ↓eC, ↓eOp1, ↓eOp2, ↓eBool_eq, ↓eAnd_eq, ↓eOr_eq, ↓eNot, ↓eAndV_eq, ↓eOrV_eq, ↓eNotV_eq, ↓eIf_eq, ↓eChain, ↓aNil, ↓aCons, ↓lCons, ↓kCons, ↓sCons, ↓eTup_eq, ↓eLst_eq, ↓eLc_eq, ↓eLc2_eq, ↓iSeq_eq, ↓Cw.iEnum, ↓iZipD_eq, ↓iRng1D_eq, ↓iRng2D, ↓eLRg, ↓eTRg, ↓rg1_eq, ↓rg2, ↓eSl, ↓oNone, ↓oSome_eq, ↓eCallB, ↓getAll, ↓eCall, ↓callM, gather, scatter, muI, toRV, ↓eMake, ↓makeM, ↓eMeth_eq, ↓eFld_eq, ↓eMut_eq, ↓eMutG_eq, ↓eDnew, finR, muOf, List.set, ↓gN, ↓fstep, ↓gT, ↓gsCons, ↓gsNil, noMu, wipeE, ↓sPre_eq, ↓iPre_eq, ↓sFgt, ↓sFrz, fgt_nx, fgt_ct, fgt_rt, fgt_bk, fgt_exc, fgt_bad, frz_nx, frz_ct, frz_rt, frz_bk, frz_exc, frz_bad, frzE_nil, frzE_cons, ↓sRaise, ↓sTry, fixT, List.all_cons, List.all_nil, Bool.and_true, Bool.true_and, Bool.not_false, Bool.not_true, if_true, if_false, ite_true, ite_false, Bool.false_eq_true, reduceIte, reduceCtorEq, List.nodup_cons, List.nodup_nil, List.not_mem_nil, not_false_eq_true, and_self, and_true, true_and, List.mem_cons, List.mem_singleton, or_false, decide_true, decide_false, List.getElem?_cons_zero, List.getElem?_cons_succ, dEq_int, dNe_int, dEq_str, dCmp_int, dAdd_int, dSub_int, dInt_int, dAbs_int, dLen_lst, dLen_tup, dList_lst, dList_tup, dTuple_lst, dTuple_tup, dIxD_lst, dIxD_tup, dInD_lst, dInD_tup, hz2]
      obtain ⟨e', hlc, hE⟩ := lcS (vs := [6]) (a := gN 6) (tt := t_law_short_3 a) (te := eVar 6) D.int (fun p => ((prts g).filter fun s => decide (df rs s = df rs (spF rs g))).all fun s => decide (p ∈ s)) D.int
        (fun e => e = [some (Fl.sh, .lst (gs rs)), some (Fl.sh, .tup (ii g)), some (Fl.sh, .lst (gs (prts g))), some (Fl.sh, .int (df rs (spF rs g))), some (Fl.sh, .lst (gs ((prts g).filter fun s => decide (df rs s = df rs (spF rs g))))), none, none] ∨ e = [some (Fl.sh, .lst (gs rs)), some (Fl.sh, .tup (ii g)), some (Fl.sh, .lst (gs (prts g))), some (Fl.sh, .int (df rs (spF rs g))), some (Fl.ow, .lst (gs ((prts g).filter fun s => decide (df rs s = df rs (spF rs g))))), none, none])
        (xs := g) (e := [some (Fl.sh, .lst (gs rs)), some (Fl.sh, .tup (ii g)), some (Fl.sh, .lst (gs (prts g))), some (Fl.sh, .int (df rs (spF rs g))), some (Fl.ow, .lst (gs ((prts g).filter fun s => decide (df rs s = df rs (spF rs g))))), none, none])
        (.inr rfl) (by
          intro p e hp hfl
          have hz4 : (((prts g).filter fun s => decide (df rs s = df rs (spF rs g))).map fun s => D.bl (decide (p ∈ s))).length ≤ sizeLine := szB (by rw [List.length_map]; omega)
          rcases hfl with rfl | rfl
          all_goals
            refine ⟨_, [some (Fl.sh, .lst (gs rs)), some (Fl.sh, .tup (ii g)), some (Fl.sh, .lst (gs (prts g))), some (Fl.sh, .int (df rs (spF rs g))), some (Fl.sh, .lst (gs ((prts g).filter fun s => decide (df rs s = df rs (spF rs g))))), none, some (Fl.sh, .int p)], rfl, ?_, fun _ => ⟨rfl, .inl rfl⟩, fun _ => ⟨_, rfl, rfl, .inl rfl⟩⟩
            simp only [t_law_short_3, ↓fnOf, initE, List.replicate, List.length_cons, List.length_nil, List.cons_append, List.nil_append, Nat.sub_self, Nat.reduceSub, Nat.reduceAdd, ↓sSeq, ↓sIf_eq, ↓sSet, ↓sRet, ↓sRetN, ↓sExpr, ↓sNil, ↓sNever, ↓sFor, ↓sAsg, ↓sFldS, ↓sAugIx, ↓sSetIx, ↓putIx, ↓sPar2, ↓sPar3, ↓M.then, ↓bind_eq, ↓M.ret, ↓M.bad, ↓M.get, ↓M.esc, ↓M.arg, ↓M.nrm, ↓M.res, ↓M.wipe, look, getE, ↓put, isMu_eq, muB_none, muB_sh, muB_ow, muB_mu, ↓eVar, ↓eC, ↓eOp1, ↓eOp2, ↓eBool_eq, ↓eAnd_eq, ↓eOr_eq, ↓eNot, ↓eAndV_eq, ↓eOrV_eq, ↓eNotV_eq, ↓eIf_eq, ↓eChain, ↓aNil, ↓aCons, ↓lCons, ↓kCons, ↓sCons, ↓eTup_eq, ↓eLst_eq, ↓eLc_eq, ↓eLc2_eq, ↓iSeq_eq, ↓Cw.iEnum, ↓iZipD_eq, ↓iRng1D_eq, ↓iRng2D, ↓eLRg, ↓eTRg, ↓rg1_eq, ↓rg2, ↓eSl, ↓oNone, ↓oSome_eq, ↓eCallB, ↓getAll, ↓eCall, ↓callM, gather, scatter, muI, toRV, ↓eMake, ↓makeM, ↓eMeth_eq, ↓eFld_eq, ↓eMut_eq, ↓eMutG_eq, ↓eDnew, finR, muOf, List.set, ↓gN, ↓fstep, ↓gT, ↓gsCons, ↓gsNil, noMu, wipeE, ↓sPre_eq, ↓iPre_eq, ↓sFgt, ↓sFrz, fgt_nx, fgt_ct, fgt_rt, fgt_bk, fgt_exc, fgt_bad, frz_nx, frz_ct, frz_rt, frz_bk, frz_exc, frz_bad, frzE_nil, frzE_cons, ↓sRaise, ↓sTry, fixT, List.all_cons, List.all_nil, Bool.and_true, Bool.true_and, Bool.not_false, Bool.not_true, if_true, if_false, ite_true, ite_false, Bool.false_eq_true, reduceIte, reduceCtorEq, List.nodup_cons, List.nodup_nil, List.not_mem_nil, not_false_eq_true, and_self, and_true, true_and, List.mem_cons, List.mem_singleton, or_false, decide_true, decide_false, List.getElem?_cons_zero, List.getElem?_cons_succ, dEq_int, dNe_int, dEq_str, dCmp_int, dAdd_int, dSub_int, dInt_int, dAbs_int, dLen_lst, dLen_tup, dList_lst, dList_tup, dTuple_lst, dTuple_tup, dIxD_lst, dIxD_tup, dInD_lst, dInD_tup]
            rw [lcG_map fun s => D.bl (decide (p ∈ s))]
            · simp only [↓fnOf, initE, List.replicate, List.length_cons, List.length_nil, List.cons_append, List.nil_append, Nat.sub_self, Nat.reduceSub, Nat.reduceAdd, ↓sSeq, ↓sIf_eq, ↓sSet, ↓sRet, ↓sRetN, ↓sExpr, ↓sNil, ↓sNever, ↓sFor, ↓sAsg, ↓sFldS, ↓sAugIx, ↓sSetIx, ↓putIx, ↓sPar2, ↓sPar3, ↓M.then, ↓bind_eq, ↓M.ret, ↓M.bad, ↓M.get, ↓M.esc, ↓M.arg, ↓M.nrm, ↓M.res, ↓M.wipe, look, getE, ↓put, isMu_eq, muB_none, muB_sh, muB_ow, muB_mu, ↓eVar, ↓eC, ↓eOp1, ↓eOp2, ↓eBool_eq, ↓eAnd_eq, ↓eOr_eq, ↓eNot, ↓eAndV_eq, ↓eOrV_eq, ↓eNotV_eq, ↓eIf_eq, ↓eChain, ↓aNil, ↓aCons, ↓lCons, ↓kCons, ↓sCons, ↓eTup_eq, ↓eLst_eq, ↓eLc_eq, ↓eLc2_eq, ↓iSeq_eq, ↓Cw.iEnum, ↓iZipD_eq, ↓iRng1D_eq, ↓iRng2D, ↓eLRg, ↓eTRg, ↓rg1_eq, ↓rg2, ↓eSl, ↓oNone, ↓oSome_eq, ↓eCallB, ↓getAll, ↓eCall, ↓callM, gather, scatter, muI, toRV, ↓eMake, ↓makeM, ↓eMeth_eq, ↓eFld_eq, ↓eMut_eq, ↓eMutG_eq, ↓eDnew, finR, muOf, List.set, ↓gN, ↓fstep, ↓gT, ↓gsCons, ↓gsNil, noMu, wipeE, ↓sPre_eq, ↓iPre_eq, ↓sFgt, ↓sFrz, fgt_nx, fgt_ct, fgt_rt, fgt_bk, fgt_exc, fgt_bad, frz_nx, frz_ct, frz_rt, frz_bk, frz_exc, frz_bad, frzE_nil, frzE_cons, ↓sRaise, ↓sTry, fixT, List.all_cons, List.all_nil, Bool.and_true, Bool.true_and, Bool.not_false, Bool.not_true, if_true, if_false, ite_true, ite_false, Bool.false_eq_true, reduceIte, reduceCtorEq, List.nodup_cons, List.nodup_nil, List.not_mem_nil, not_false_eq_true, and_self, and_true, true_and, List.mem_cons, List.mem_singleton, or_false, decide_true, decide_false, List.getElem?_cons_zero, List.getElem?_cons_succ, dEq_int, dNe_int, dEq_str, dCmp_int, dAdd_int, dSub_int, dInt_int, dAbs_int, dLen_lst, dLen_tup, dList_lst, dList_tup, dTuple_lst, dTuple_tup, dIxD_lst, dIxD_tup, dInD_lst, dInD_tup, hz4, dAll_f]
            · intro s hs
              refine ⟨_, rfl, rfl, rfl, ?_⟩
              simp only [v_law_short_2, ↓fnOf, initE, List.replicate, List.length_cons, List.length_nil, List.cons_append, List.nil_append, Nat.sub_self, Nat.reduceSub, Nat.reduceAdd, ↓sSeq, ↓sIf_eq, ↓sSet, ↓sRet, ↓sRetN, ↓sExpr, ↓sNil, ↓sNever, ↓sFor, ↓sAsg, ↓sFldS, ↓sAugIx, ↓sSetIx, ↓putIx, ↓sPar2, ↓sPar3, ↓M.then, ↓bind_eq, ↓M.ret, ↓M.bad, ↓M.get, ↓M.esc, ↓M.arg, ↓M.nrm, ↓M.res, ↓M.wipe, look, getE, ↓put, isMu_eq, muB_none, muB_sh, muB_ow, muB_mu, ↓eVar, ↓eC, ↓eOp1, ↓eOp2, ↓eBool_eq, ↓eAnd_eq, ↓eOr_eq, ↓eNot, ↓eAndV_eq, ↓eOrV_eq, ↓eNotV_eq, ↓eIf_eq, ↓eChain, ↓aNil, ↓aCons, ↓lCons, ↓kCons, ↓sCons, ↓eTup_eq, ↓eLst_eq, ↓eLc_eq, ↓eLc2_eq, ↓iSeq_eq, ↓Cw.iEnum, ↓iZipD_eq, ↓iRng1D_eq, ↓iRng2D, ↓eLRg, ↓eTRg, ↓rg1_eq, ↓rg2, ↓eSl, ↓oNone, ↓oSome_eq, ↓eCallB, ↓getAll, ↓eCall, ↓callM, gather, scatter, muI, toRV, ↓eMake, ↓makeM, ↓eMeth_eq, ↓eFld_eq, ↓eMut_eq, ↓eMutG_eq, ↓eDnew, finR, muOf, List.set, ↓gN, ↓fstep, ↓gT, ↓gsCons, ↓gsNil, noMu, wipeE, ↓sPre_eq, ↓iPre_eq, ↓sFgt, ↓sFrz, fgt_nx, fgt_ct, fgt_rt, fgt_bk, fgt_exc, fgt_bad, frz_nx, frz_ct, frz_rt, frz_bk, frz_exc, frz_bad, frzE_nil, frzE_cons, ↓sRaise, ↓sTry, fixT, List.all_cons, List.all_nil, Bool.and_true, Bool.true_and, Bool.not_false, Bool.not_true, if_true, if_false, ite_true, ite_false, Bool.false_eq_true, reduceIte, reduceCtorEq, List.nodup_cons, List.nodup_nil, List.not_mem_nil, not_false_eq_true, and_self, and_true, true_and, List.mem_cons, List.mem_singleton, or_false, decide_true, decide_false, List.getElem?_cons_zero, List.getElem?_cons_succ, dEq_int, dNe_int, dEq_str, dCmp_int, dAdd_int, dSub_int, dInt_int, dAbs_int, dLen_lst, dLen_tup, dList_lst, dList_tup, dTuple_lst, dTuple_tup, dIxD_lst, dIxD_tup, dInD_lst, dInD_tup, dIn_tup])
      have hlc : lcL [6] (gN 6) (t_law_short_3 a) (eVar 6) (ii g) _ = .ok (ii (g.filter _)) e' := hlc
      rw [hcm] at hlc
      rcases hE with rfl | rfl
      · simp only [↓fnOf, initE, List.replicate, List.length_cons, List.length_nil, List.cons_append, List.nil_append, Nat.sub_self, Nat.reduceSub, Nat.reduceAdd, ↓sSeq, ↓sIf_eq, ↓sSet, ↓sRet, ↓sRetN, ↓sExpr, ↓sNil, ↓sNever, ↓sFor, ↓sAsg, ↓sFldS, ↓sAugIx, ↓sSetIx, ↓putIx, ↓sPar2, ↓sPar3, ↓M.then, ↓bind_eq, ↓M.ret, ↓M.bad, ↓M.get, ↓M.esc, ↓M.arg, ↓M.nrm, ↓M.res, ↓M.wipe, look, getE, ↓put, isMu_eq, muB_none, muB_sh, muB_ow, muB_mu, ↓eVar, ↓eC, ↓eOp1, ↓eOp2, ↓eBool_eq, ↓eAnd_eq, ↓eOr_eq, ↓eNot, ↓eAndV_eq, ↓eOrV_eq, ↓eNotV_eq, ↓eIf_eq, ↓eChain, ↓aNil, ↓aCons, ↓lCons, ↓kCons, ↓sCons, ↓eTup_eq, ↓eLst_eq, ↓eLc_eq, ↓eLc2_eq, ↓iSeq_eq, ↓Cw.iEnum, ↓iZipD_eq, ↓iRng1D_eq, ↓iRng2D, ↓eLRg, ↓eTRg, ↓rg1_eq, ↓rg2, ↓eSl, ↓oNone, ↓oSome_eq, ↓eCallB, ↓getAll, ↓eCall, ↓callM, gather, scatter, muI, toRV, ↓eMake, ↓makeM, ↓eMeth_eq, ↓eFld_eq, ↓eMut_eq, ↓eMutG_eq, ↓eDnew, finR, muOf, List.set, ↓gN, ↓fstep, ↓gT, ↓gsCons, ↓gsNil, noMu, wipeE, ↓sPre_eq, ↓iPre_eq, ↓sFgt, ↓sFrz, fgt_nx, fgt_ct, fgt_rt, fgt_bk, fgt_exc, fgt_bad, frz_nx, frz_ct, frz_rt, frz_bk, frz_exc, frz_bad, frzE_nil, frzE_cons, ↓sRaise, ↓sTry, fixT, List.all_cons, List.all_nil, Bool.and_true, Bool.true_and, Bool.not_false, Bool.not_true, if_true, if_false, ite_true, ite_false, Bool.false_eq_true, reduceIte, reduceCtorEq, List.nodup_cons, List.nodup_nil, List.not_mem_nil, not_false_eq_true, and_self, and_true, true_and, List.mem_cons, List.mem_singleton, or_false, decide_true, decide_false, List.getElem?_cons_zero, List.getElem?_cons_succ, dEq_int, dNe_int, dEq_str, dCmp_int, dAdd_int, dSub_int, dInt_int, dAbs_int, dLen_lst, dLen_tup, dList_lst, dList_tup, dTuple_lst, dTuple_tup, dIxD_lst, dIxD_tup, dInD_lst, dInD_tup, ↓hlc, hz3]
      · simp only [↓fnOf, initE, List.replicate, List.length_cons, List.length_nil, List.cons_append, List.nil_append, Nat.sub_self, Nat.reduceSub, Nat.reduceAdd, ↓sSeq, ↓sIf_eq, ↓sSet, ↓sRet, ↓sRetN, ↓sExpr, ↓sNil, ↓sNever, ↓sFor, ↓sAsg, ↓sFldS, ↓sAugIx, ↓sSetIx, ↓putIx, ↓sPar2, ↓sPar3, ↓M.then, ↓bind_eq, ↓M.ret, ↓M.bad, ↓M.get, ↓M.esc, ↓M.arg, ↓M.nrm, ↓M.res, ↓M.wipe, look, getE, ↓put, isMu_eq, muB_none, muB_sh, muB_ow, muB_mu, ↓eVar, ↓eC, ↓eOp1, ↓eOp2, ↓eBool_eq, ↓eAnd_eq, ↓eOr_eq, ↓eNot, ↓eAndV_eq, ↓eOrV_eq, ↓eNotV_eq, ↓eIf_eq, ↓eChain, ↓aNil, ↓aCons, ↓lCons, ↓kCons, ↓sCons, ↓eTup_eq, ↓eLst_eq, ↓eLc_eq, ↓eLc2_eq, ↓iSeq_eq, ↓Cw.iEnum, ↓iZipD_eq, ↓iRng1D_eq, ↓iRng2D, ↓eLRg, ↓eTRg, ↓rg1_eq, ↓rg2, ↓eSl, ↓oNone, ↓oSome_eq, ↓eCallB, ↓getAll, ↓eCall, ↓callM, gather, scatter, muI, toRV, ↓eMake, ↓makeM, ↓eMeth_eq, ↓eFld_eq, ↓eMut_eq, ↓eMutG_eq, ↓eDnew, finR, muOf, List.set, ↓gN, ↓fstep, ↓gT, ↓gsCons, ↓gsNil, noMu, wipeE, ↓sPre_eq, ↓iPre_eq, ↓sFgt, ↓sFrz, fgt_nx, fgt_ct, fgt_rt, fgt_bk, fgt_exc, fgt_bad, frz_nx, frz_ct, frz_rt, frz_bk, frz_exc, frz_bad, frzE_nil, frzE_cons, ↓sRaise, ↓sTry, fixT, List.all_cons, List.all_nil, Bool.and_true, Bool.true_and, Bool.not_false, Bool.not_true, if_true, if_false, ite_true, ite_false, Bool.false_eq_true, reduceIte, reduceCtorEq, List.nodup_cons, List.nodup_nil, List.not_mem_nil, not_false_eq_true, and_self, and_true, true_and, List.mem_cons, List.mem_singleton, or_false, decide_true, decide_false, List.getElem?_cons_zero, List.getElem?_cons_succ, dEq_int, dNe_int, dEq_str, dCmp_int, dAdd_int, dSub_int, dInt_int, dAbs_int, dLen_lst, dLen_tup, dList_lst, dList_tup, dTuple_lst, dTuple_tup, dIxD_lst, dIxD_tup, dInD_lst, dInD_tup, ↓hlc, hz3]
    · intro s hs
      refine ⟨_, rfl, ?_, rfl, rfl, rfl⟩
      simp only [t_law_short_1, ↓fnOf, initE, List.replicate, List.length_cons, List.length_nil, List.cons_append, List.nil_append, Nat.sub_self, Nat.reduceSub, Nat.reduceAdd, ↓sSeq, ↓sIf_eq, ↓sSet, ↓sRet, ↓sRetN, ↓sExpr, ↓sNil, ↓sNever, ↓sFor, ↓sAsg, ↓sFldS, ↓sAugIx, ↓sSetIx, ↓putIx, ↓sPar2, ↓sPar3, ↓M.then, ↓bind_eq, ↓M.ret, ↓M.bad, ↓M.get, ↓M.esc, ↓M.arg, ↓M.nrm, ↓M.res, ↓M.wipe, look, getE, ↓put, isMu_eq, muB_none, muB_sh, muB_ow, muB_mu, ↓eVar, ↓eC, ↓eOp1, ↓eOp2, ↓eBool_eq, ↓eAnd_eq, ↓eOr_eq, ↓eNot, ↓eAndV_eq, ↓eOrV_eq, ↓eNotV_eq, ↓eIf_eq, ↓eChain, ↓aNil, ↓aCons, ↓lCons, ↓kCons, ↓sCons, ↓eTup_eq, ↓eLst_eq, ↓eLc_eq, ↓eLc2_eq, ↓iSeq_eq, ↓Cw.iEnum, ↓iZipD_eq, ↓iRng1D_eq, ↓iRng2D, ↓eLRg, ↓eTRg, ↓rg1_eq, ↓rg2, ↓eSl, ↓oNone, ↓oSome_eq, ↓eCallB, ↓getAll, ↓eCall, ↓callM, gather, scatter, muI, toRV, ↓eMake, ↓makeM, ↓eMeth_eq, ↓eFld_eq, ↓eMut_eq, ↓eMutG_eq, ↓eDnew, finR, muOf, List.set, ↓gN, ↓fstep, ↓gT, ↓gsCons, ↓gsNil, noMu, wipeE, ↓sPre_eq, ↓iPre_eq, ↓sFgt, ↓sFrz, fgt_nx, fgt_ct, fgt_rt, fgt_bk, fgt_exc, fgt_bad, frz_nx, frz_ct, frz_rt, frz_bk, frz_exc, frz_bad, frzE_nil, frzE_cons, ↓sRaise, ↓sTry, fixT, List.all_cons, List.all_nil, Bool.and_true, Bool.true_and, Bool.not_false, Bool.not_true, if_true, if_false, ite_true, ite_false, Bool.false_eq_true, reduceIte, reduceCtorEq, List.nodup_cons, List.nodup_nil, List.not_mem_nil, not_false_eq_true, and_self, and_true, true_and, List.mem_cons, List.mem_singleton, or_false, decide_true, decide_false, List.getElem?_cons_zero, List.getElem?_cons_succ, dEq_int, dNe_int, dEq_str, dCmp_int, dAdd_int, dSub_int, dInt_int, dAbs_int, dLen_lst, dLen_tup, dList_lst, dList_tup, dTuple_lst, dTuple_tup, dIxD_lst, dIxD_tup, dInD_lst, dInD_tup, hsh s hs]
  · intro s hs
    refine ⟨_, rfl, rfl, rfl, ?_⟩
    simp only [v_law_short_0, ↓fnOf, initE, List.replicate, List.length_cons, List.length_nil, List.cons_append, List.nil_append, Nat.sub_self, Nat.reduceSub, Nat.reduceAdd, ↓sSeq, ↓sIf_eq, ↓sSet, ↓sRet, ↓sRetN, ↓sExpr, ↓sNil, ↓sNever, ↓sFor, ↓sAsg, ↓sFldS, ↓sAugIx, ↓sSetIx, ↓putIx, ↓sPar2, ↓sPar3, ↓M.then, ↓bind_eq, ↓M.ret, ↓M.bad, ↓M.get, ↓M.esc, ↓M.arg, ↓M.nrm, ↓M.res, ↓M.wipe, look, getE, ↓put, isMu_eq, muB_none, muB_sh, muB_ow, muB_mu, ↓eVar, ↓eC, ↓eOp1, ↓eOp2, ↓eBool_eq, ↓eAnd_eq, ↓eOr_eq, ↓eNot, ↓eAndV_eq, ↓eOrV_eq, ↓eNotV_eq, ↓eIf_eq, ↓eChain, ↓aNil, ↓aCons, ↓lCons, ↓kCons, ↓sCons, ↓eTup_eq, ↓eLst_eq, ↓eLc_eq, ↓eLc2_eq, ↓iSeq_eq, ↓Cw.iEnum, ↓iZipD_eq, ↓iRng1D_eq, ↓iRng2D, ↓eLRg, ↓eTRg, ↓rg1_eq, ↓rg2, ↓eSl, ↓oNone, ↓oSome_eq, ↓eCallB, ↓getAll, ↓eCall, ↓callM, gather, scatter, muI, toRV, ↓eMake, ↓makeM, ↓eMeth_eq, ↓eFld_eq, ↓eMut_eq, ↓eMutG_eq, ↓eDnew, finR, muOf, List.set, ↓gN, ↓fstep, ↓gT, ↓gsCons, ↓gsNil, noMu, wipeE, ↓sPre_eq, ↓iPre_eq, ↓sFgt, ↓sFrz, fgt_nx, fgt_ct, fgt_rt, fgt_bk, fgt_exc, fgt_bad, frz_nx, frz_ct, frz_rt, frz_bk, frz_exc, frz_bad, frzE_nil, frzE_cons, ↓sRaise, ↓sTry, fixT, List.all_cons, List.all_nil, Bool.and_true, Bool.true_and, Bool.not_false, Bool.not_true, if_true, if_false, ite_true, ite_false, Bool.false_eq_true, reduceIte, reduceCtorEq, List.nodup_cons, List.nodup_nil, List.not_mem_nil, not_false_eq_true, and_self, and_true, true_and, List.mem_cons, List.mem_singleton, or_false, decide_true, decide_false, List.getElem?_cons_zero, List.getElem?_cons_succ, dEq_int, dNe_int, dEq_str, dCmp_int, dAdd_int, dSub_int, dInt_int, dAbs_int, dLen_lst, dLen_tup, dList_lst, dList_tup, dTuple_lst, dTuple_tup, dIxD_lst, dIxD_tup, dInD_lst, dInD_tup, hsh s hs]
theorem one_s {x y z : Int} {cs : List Int} {xs : List D} (h : BagOk x y z cs) (hx : 0 < xs.length) (hx2 : xs.length < 1073741824) :
    ∃ d x' y' z', m_law_one a [bagD x y z cs, .lst xs] = .ok (false, d) [bagD x' y' z' cs] ∧ d ∈ xs ∧ BagOk x' y' z' cs := by
  obtain ⟨v, x', y', z', ht, h0, h1, hb⟩ := take_ok a h (many := (xs.length : Int)) (by omega) (by omega)
  obtain ⟨k, rfl⟩ := Int.eq_ofNat_of_zero_le h0
  have hk : k < xs.length := by omega
  have hix := dIx_lst (List.getElem?_eq_getElem hk)
  refine ⟨xs[k], x', y', z', ?_, List.getElem_mem hk, hb⟩
  simp only [m_law_one, g_law_one, ↓fnOf, initE, List.replicate, List.length_cons, List.length_nil, List.cons_append, List.nil_append, Nat.sub_self, Nat.reduceSub, Nat.reduceAdd, ↓sSeq, ↓sIf_eq, ↓sSet, ↓sRet, ↓sRetN, ↓sExpr, ↓sNil, ↓sNever, ↓sFor, ↓sAsg, ↓sFldS, ↓sAugIx, ↓sSetIx, ↓putIx, ↓sPar2, ↓sPar3, ↓M.then, ↓bind_eq, ↓M.ret, ↓M.bad, ↓M.get, ↓M.esc, ↓M.arg, ↓M.nrm, ↓M.res, ↓M.wipe, look, getE, ↓put, isMu_eq, muB_none, muB_sh, muB_ow, muB_mu, ↓eVar, ↓eC, ↓eOp1, ↓eOp2, ↓eBool_eq, ↓eAnd_eq, ↓eOr_eq, ↓eNot, ↓eAndV_eq, ↓eOrV_eq, ↓eNotV_eq, ↓eIf_eq, ↓eChain, ↓aNil, ↓aCons, ↓lCons, ↓kCons, ↓sCons, ↓eTup_eq, ↓eLst_eq, ↓eLc_eq, ↓eLc2_eq, ↓iSeq_eq, ↓Cw.iEnum, ↓iZipD_eq, ↓iRng1D_eq, ↓iRng2D, ↓eLRg, ↓eTRg, ↓rg1_eq, ↓rg2, ↓eSl, ↓oNone, ↓oSome_eq, ↓eCallB, ↓getAll, ↓eCall, ↓callM, gather, scatter, muI, toRV, ↓eMake, ↓makeM, ↓eMeth_eq, ↓eFld_eq, ↓eMut_eq, ↓eMutG_eq, ↓eDnew, finR, muOf, List.set, ↓gN, ↓fstep, ↓gT, ↓gsCons, ↓gsNil, noMu, wipeE, ↓sPre_eq, ↓iPre_eq, ↓sFgt, ↓sFrz, fgt_nx, fgt_ct, fgt_rt, fgt_bk, fgt_exc, fgt_bad, frz_nx, frz_ct, frz_rt, frz_bk, frz_exc, frz_bad, frzE_nil, frzE_cons, ↓sRaise, ↓sTry, fixT, List.all_cons, List.all_nil, Bool.and_true, Bool.true_and, Bool.not_false, Bool.not_true, if_true, if_false, ite_true, ite_false, Bool.false_eq_true, reduceIte, reduceCtorEq, List.nodup_cons, List.nodup_nil, List.not_mem_nil, not_false_eq_true, and_self, and_true, true_and, List.mem_cons, List.mem_singleton, or_false, decide_true, decide_false, List.getElem?_cons_zero, List.getElem?_cons_succ, dEq_int, dNe_int, dEq_str, dCmp_int, dAdd_int, dSub_int, dInt_int, dAbs_int, dLen_lst, dLen_tup, dList_lst, dList_tup, dTuple_lst, dTuple_tup, dIxD_lst, dIxD_tup, dInD_lst, dInD_tup, ht, hix]
end Cw

namespace Cw
open PySem L2
/-! ### errors that are caught -/
theorem binM_ii {C : Addr} {G : Fn} {GR : Option Fn} {fs g2 : List (Str × D)} : binM C (some G) GR (.ins C fs) (.ins C g2) = callM [false, false] G [.sh (.ins C fs), .sh (.ins C g2)] := by
  simp [binM, biOk]
theorem binM_in {C : Addr} {G : Fn} {GR : Option Fn} {fs : List (Str × D)} {n : Int} : binM C (some G) GR (.ins C fs) (.int n) = callM [false, false] G [.sh (.ins C fs), .sh (.int n)] := by
  simp [binM, biOk]
theorem binM_it {C : Addr} {G : Fn} {GR : Option Fn} {fs : List (Str × D)} {ds : List D} : binM C (some G) GR (.ins C fs) (.tup ds) = callM [false, false] G [.sh (.ins C fs), .sh (.tup ds)] := by
  simp [binM, biOk]
theorem binM_ni {C : Addr} {G : Fn} {GL : Option Fn} {fs : List (Str × D)} {n : Int} : binM C GL (some G) (.int n) (.ins C fs) = callM [false, false] G [.sh (.ins C fs), .sh (.int n)] := by
  simp [binM]
theorem nice_str {x : Str} (h1 : (PyData.str x).canLay0 = true) (h2 : (PyData.str x).showable = true) (h3 : (PyData.str x).intsShort 13 = true) (h4 : (PyData.str x).weight ≤ 100) : Nice 0 100 (.str x) :=
  ⟨.str x, by simp [toP], h1, h2, h3, by simp [PyData.depth], h4⟩
theorem nice_unlike : Nice 0 100 (.str "unlike") := nice_str (by decide +kernel) (by decide +kernel) (by decide +kernel) (by decide +kernel)
theorem nice_many : Nice 0 100 (.str "many") := nice_str (by decide +kernel) (by decide +kernel) (by decide +kernel) (by decide +kernel)
theorem nice_made : Nice 0 100 (.str "made") := nice_str (by decide +kernel) (by decide +kernel) (by decide +kernel) (by decide +kernel)
variable (a : Nat → Addr)
theorem xT_ce {k : Nat} (h : 21 ≤ k) (h2 : k ≤ 40) : xT (Xs a) (a 20) (a 20) (.ref (a k)) = some true := by
  show (if a k ∈ Xs a then (if a 20 = a 20 then some true else if a 20 ∈ Xs a then some (decide (a k = a 20)) else none) else none) = some true
  rw [if_pos (xs_mem a k h h2), if_pos rfl]
theorem isX_ne {k j : Nat} {fs : List (Str × D)} (h : 21 ≤ k ∧ k ≤ 40) (h2 : 21 ≤ j ∧ j ≤ 40) (hc : a 20 ≠ a j) (hn : a k ≠ a j) : dIsX (Xs a) (a 20) [.xcp (.ref (a k)) fs, .raw (.ref (a j))] = some (false, .bl false) := by
  show (if a k ∈ Xs a then (if a j = a 20 then some (false, D.bl true) else if a j ∈ Xs a then some (false, .bl (decide (a k = a j))) else none) else none) = _
  rw [if_pos (xs_mem a k h.1 h.2), if_neg (fun e => hc e.symm), if_pos (xs_mem a j h2.1 h2.2), decide_eq_false hn]
theorem isX_eq {k : Nat} {fs : List (Str × D)} (h : 21 ≤ k ∧ k ≤ 40) (hc : a 20 ≠ a k) : dIsX (Xs a) (a 20) [.xcp (.ref (a k)) fs, .raw (.ref (a k))] = some (false, .bl true) := by
  show (if a k ∈ Xs a then (if a k = a 20 then some (false, D.bl true) else if a k ∈ Xs a then some (false, .bl (decide (a k = a k))) else none) else none) = _
  rw [if_pos (xs_mem a k h.1 h.2), if_neg (fun e => hc e.symm), if_pos (xs_mem a k h.1 h.2), decide_eq_true rfl]
theorem xf_one {k : Nat} {n : Str} {d : D} (h : 21 ≤ k ∧ k ≤ 40) : dXf (Xs a) n (.xcp (.ref (a k)) [(n, d)]) = some (false, d) := by
  show (if a k ∈ Xs a then (match List.lookup n [(n, d)] with
    | some d => some (false, d)
    | none => none) else none) = _
  rw [if_pos (xs_mem a k h.1 h.2), List.lookup_cons, beq_self_eq_true]
theorem isX_ve {k : Nat} {fs : List (Str × D)} (h : 21 ≤ k ∧ k ≤ 40) : dIsX (Xs a) (a 20) [.xcp (.ref (a k)) fs, .raw (.ty "ValueError")] = some (false, .bl true) := by
  show (if a k ∈ Xs a ∧ "ValueError" = "ValueError" then some (false, D.bl true) else none) = _
  rw [if_pos ⟨xs_mem a k h.1 h.2, rfl⟩]
/-! ### joined lists -/
inductive Jn where
  | unl | many | made (n : Nat) (rs : List (List Int))
def outD : Jn → D
  | .unl => .tup [.str "unlike", .int 0]
  | .many => .tup [.str "many", .int 7]
  | .made n rs => .tup [.str "made", .int (n : Int), .tup (gs rs)]
def Jn.Ok : Jn → Prop
  | .made n rs => n ≤ 14 ∧ rs.length ≤ 14 ∧ ∀ r, r ∈ rs → Row n r
  | _ => True
theorem Jn.nice : ∀ {o : Jn}, o.Ok → Nice 3 9000 (outD o)
  | .unl, _ => ((NiceL.cons nice_unlike (NiceL.cons (Nice.int (i := 0) (by decide)) NiceL.nil)).tup).mono (by decide) (by decide)
  | .many, _ => ((NiceL.cons nice_many (NiceL.cons (Nice.int (i := 7) (by decide)) NiceL.nil)).tup).mono (by decide) (by decide)
  | .made n rs, h => by
    obtain ⟨h1, h2, h3⟩ := h
    have h4 : rs.length * (n * 42 + 1) ≤ 14 * (14 * 42 + 1) := Nat.mul_le_mul h2 (by omega)
    exact ((NiceL.cons nice_made (NiceL.cons (Nice.int (i := (n : Int)) (by omega)) (NiceL.cons (rows_nice h3 (by omega)).tup NiceL.nil))).tup).mono (by decide) (by omega)
def addO (n : Nat) (rs : List (List Int)) (m : Nat) (qs : List (List Int)) : Jn := if n = m then (if 7 < rs.length + qs.length then .many else .made n (rs ++ qs)) else .unl
def up (k : Nat) (rs : List (List Int)) : List (List Int) := rs.map fun r => r.map (· + (k : Int))
def orO (n : Nat) (rs : List (List Int)) (m : Nat) (qs : List (List Int)) : Jn := if 7 < n + m ∨ 7 < rs.length + qs.length then .many else .made (n + m) (rs ++ up n qs)
def mulO (n : Nat) (rs : List (List Int)) (c : Nat) : Jn := if 7 < rs.length * c then .many else .made n (List.replicate c rs).flatten
theorem gs_app (rs qs : List (List Int)) : gs rs ++ gs qs = gs (rs ++ qs) := by simp [gs]
theorem gs_rep (rs : List (List Int)) (c : Nat) : (List.replicate c (gs rs)).flatten = gs (List.replicate c rs).flatten := by
  induction c with
  | zero => rfl
  | succ c ih => rw [List.replicate_succ, List.replicate_succ, List.flatten_cons, List.flatten_cons, ih, gs_app]
theorem up_len (k : Nat) (rs : List (List Int)) : (up k rs).length = rs.length := by simp [up]
theorem rg_add (n m : Nat) : rg (n + m) = rg n ++ (rg m).map (· + (n : Int)) := by
  unfold rg
  rw [List.range_add, List.map_append, List.map_map, List.map_map]
  congr 1
  refine List.map_congr_left fun k _ => ?_
  simp only [Function.comp]
  omega
theorem Row.up {n m : Nat} {r : List Int} (h : Row m r) : Row (n + m) (r.map (· + (n : Int))) := by
  unfold Row
  rw [rg_add]
  exact (List.Sublist.map _ h).trans (List.sublist_append_right _ _)
theorem Row.wide {n m : Nat} {r : List Int} (h : Row n r) : Row (n + m) r := by
  unfold Row
  rw [rg_add]
  exact h.trans (List.sublist_append_left _ _)
theorem addO_ok {n m : Nat} {rs qs : List (List Int)} (hn : n ≤ 7) (hr : ∀ r, r ∈ rs → Row n r) (hq : ∀ r, r ∈ qs → Row m r) : (addO n rs m qs).Ok := by
  unfold addO
  split
  · rename_i e
    subst e
    split
    · trivial
    · refine ⟨by omega, by rw [List.length_append]; omega, fun r h => ?_⟩
      rcases List.mem_append.mp h with h | h
      · exact hr r h
      · exact hq r h
  · trivial
theorem orO_rows {n m : Nat} {rs qs : List (List Int)} (hr : ∀ r, r ∈ rs → Row n r) (hq : ∀ r, r ∈ qs → Row m r) : ∀ r, r ∈ rs ++ up n qs → Row (n + m) r := fun r h => by
  rcases List.mem_append.mp h with h | h
  · exact (hr r h).wide
  · obtain ⟨q, h1, rfl⟩ := List.mem_map.mp h
    exact (hq q h1).up
theorem orO_ok {n m : Nat} {rs qs : List (List Int)} (hr : ∀ r, r ∈ rs → Row n r) (hq : ∀ r, r ∈ qs → Row m r) : (orO n rs m qs).Ok := by
  unfold orO
  split
  · trivial
  · refine ⟨by omega, by rw [List.length_append, up_len]; omega, orO_rows hr hq⟩
theorem rep_rows {n c : Nat} {rs : List (List Int)} (hr : ∀ r, r ∈ rs → Row n r) : ∀ r, r ∈ (List.replicate c rs).flatten → Row n r := fun r h => by
  obtain ⟨l, h1, h2⟩ := List.mem_flatten.mp h
  rw [List.eq_of_mem_replicate h1] at h2
  exact hr r h2
theorem rep_len {c : Nat} {rs : List (List Int)} : (List.replicate c rs).flatten.length = rs.length * c := by
  induction c with
  | zero => simp
  | succ c ih => rw [List.replicate_succ, List.flatten_cons, List.length_append, ih, Nat.mul_succ]; omega
theorem mulO_ok {n c : Nat} {rs : List (List Int)} (hn : n ≤ 7) (hr : ∀ r, r ∈ rs → Row n r) : (mulO n rs c).Ok := by
  unfold mulO
  split
  · trivial
  · exact ⟨by omega, by rw [rep_len]; omega, rep_rows hr⟩
theorem add_ok {n m : Nat} {rs qs : List (List Int)} (hn : n ≤ 7) (hr : ∀ r, r ∈ rs → Row n r) (hq : ∀ r, r ∈ qs → Row m r) (hz : rs.length ≤ 7) (hz2 : qs.length ≤ 7) :
    m_Jobs_UaddU a [job a n rs, job a m qs] = match addO n rs m qs with
      | .unl => .exc ⟨.ref (a 23), []⟩ []
      | .many => .exc ⟨.ref (a 22), [("limit", .int 7)]⟩ []
      | .made n rs => .ok (true, job a n rs) [] := by
  unfold addO
  have hs : (gs rs).length + (gs qs).length ≤ sizeLine := by rw [gs_length, gs_length]; exact Nat.le_trans (show _ ≤ 14 by omega) (by decide)
  have hA : dAdd (.tup (gs rs)) (.tup (gs qs)) = some (false, .tup (gs (rs ++ qs))) := by
    unfold dAdd
    simp only [hs, if_true, gs_app]
  by_cases c : n = m
  · subst c
    rw [if_pos rfl]
    by_cases c2 : 7 < rs.length + qs.length
    · rw [if_pos c2]
      have c3 : (7 : Int) < (rs.length : Int) + (qs.length : Int) := by omega
      simp only [m_Jobs_UaddU, g_Jobs_UaddU, job, ↓fnOf, initE, List.replicate, List.length_cons, List.length_nil, List.cons_append, List.nil_append, Nat.sub_self, Nat.reduceSub, Nat.reduceAdd, ↓sSeq, ↓sIf_eq, ↓sSet, ↓sRet, ↓sRetN, ↓sExpr, ↓sNil, ↓sNever, ↓sFor, ↓sAsg, ↓sFldS, ↓sAugIx, ↓sSetIx, ↓putIx, ↓sPar2, ↓sPar3, ↓M.then, ↓bind_eq, ↓M.ret, ↓M.bad, ↓M.get, ↓M.esc, ↓M.arg, ↓M.nrm, ↓M.res, ↓M.wipe, look, getE, ↓put, isMu_eq, muB_none, muB_sh, muB_ow, muB_mu, ↓eVar, ↓eC, ↓eOp1, ↓eOp2, ↓eBool_eq, ↓eAnd_eq, ↓eOr_eq, ↓eNot, ↓eAndV_eq, ↓eOrV_eq, ↓eNotV_eq, ↓eIf_eq, ↓eChain, ↓aNil, ↓aCons, ↓lCons, ↓kCons, ↓sCons, ↓eTup_eq, ↓eLst_eq, ↓eLc_eq, ↓eLc2_eq, ↓iSeq_eq, ↓Cw.iEnum, ↓iZipD_eq, ↓iRng1D_eq, ↓iRng2D, ↓eLRg, ↓eTRg, ↓rg1_eq, ↓rg2, ↓eSl, ↓oNone, ↓oSome_eq, ↓eCallB, ↓getAll, ↓eCall, ↓callM, gather, scatter, muI, toRV, ↓eMake, ↓makeM, ↓eMeth_eq, ↓eFld_eq, ↓eMut_eq, ↓eMutG_eq, ↓eDnew, finR, muOf, List.set, ↓gN, ↓fstep, ↓gT, ↓gsCons, ↓gsNil, noMu, wipeE, ↓sPre_eq, ↓iPre_eq, ↓sFgt, ↓sFrz, fgt_nx, fgt_ct, fgt_rt, fgt_bk, fgt_exc, fgt_bad, frz_nx, frz_ct, frz_rt, frz_bk, frz_exc, frz_bad, frzE_nil, frzE_cons, ↓sRaise, ↓sTry, fixT, List.all_cons, List.all_nil, Bool.and_true, Bool.true_and, Bool.not_false, Bool.not_true, if_true, if_false, ite_true, ite_false, Bool.false_eq_true, reduceIte, reduceCtorEq, List.nodup_cons, List.nodup_nil, List.not_mem_nil, not_false_eq_true, and_self, and_true, true_and, List.mem_cons, List.mem_singleton, or_false, decide_true, decide_false, List.getElem?_cons_zero, List.getElem?_cons_succ, dEq_int, dNe_int, dEq_str, dCmp_int, dAdd_int, dSub_int, dInt_int, dAbs_int, dLen_lst, dLen_tup, dList_lst, dList_tup, dTuple_lst, dTuple_tup, dIxD_lst, dIxD_tup, dInD_lst, dInD_tup, fld_size, fld_jobs, gs_length, c3, List.zip_cons_cons, List.zip_nil_right, List.reverse_cons, List.reverse_nil]
    · rw [if_neg c2]
      have c3 : ¬ (7 : Int) < (rs.length : Int) + (qs.length : Int) := by omega
      have hi := init_gen a (n := n) (rs := rs ++ qs) (R := .tup (gs (rs ++ qs))) hn (by rw [List.length_append]; omega) (fun r h => (List.mem_append.mp h).elim (hr r) (hq r)) (.inr rfl)
      simp only [m_Jobs_UaddU, g_Jobs_UaddU, job, ↓fnOf, initE, List.replicate, List.length_cons, List.length_nil, List.cons_append, List.nil_append, Nat.sub_self, Nat.reduceSub, Nat.reduceAdd, ↓sSeq, ↓sIf_eq, ↓sSet, ↓sRet, ↓sRetN, ↓sExpr, ↓sNil, ↓sNever, ↓sFor, ↓sAsg, ↓sFldS, ↓sAugIx, ↓sSetIx, ↓putIx, ↓sPar2, ↓sPar3, ↓M.then, ↓bind_eq, ↓M.ret, ↓M.bad, ↓M.get, ↓M.esc, ↓M.arg, ↓M.nrm, ↓M.res, ↓M.wipe, look, getE, ↓put, isMu_eq, muB_none, muB_sh, muB_ow, muB_mu, ↓eVar, ↓eC, ↓eOp1, ↓eOp2, ↓eBool_eq, ↓eAnd_eq, ↓eOr_eq, ↓eNot, ↓eAndV_eq, ↓eOrV_eq, ↓eNotV_eq, ↓eIf_eq, ↓eChain, ↓aNil, ↓aCons, ↓lCons, ↓kCons, ↓sCons, ↓eTup_eq, ↓eLst_eq, ↓eLc_eq, ↓eLc2_eq, ↓iSeq_eq, ↓Cw.iEnum, ↓iZipD_eq, ↓iRng1D_eq, ↓iRng2D, ↓eLRg, ↓eTRg, ↓rg1_eq, ↓rg2, ↓eSl, ↓oNone, ↓oSome_eq, ↓eCallB, ↓getAll, ↓eCall, ↓callM, gather, scatter, muI, toRV, ↓eMake, ↓makeM, ↓eMeth_eq, ↓eFld_eq, ↓eMut_eq, ↓eMutG_eq, ↓eDnew, finR, muOf, List.set, ↓gN, ↓fstep, ↓gT, ↓gsCons, ↓gsNil, noMu, wipeE, ↓sPre_eq, ↓iPre_eq, ↓sFgt, ↓sFrz, fgt_nx, fgt_ct, fgt_rt, fgt_bk, fgt_exc, fgt_bad, frz_nx, frz_ct, frz_rt, frz_bk, frz_exc, frz_bad, frzE_nil, frzE_cons, ↓sRaise, ↓sTry, fixT, List.all_cons, List.all_nil, Bool.and_true, Bool.true_and, Bool.not_false, Bool.not_true, if_true, if_false, ite_true, ite_false, Bool.false_eq_true, reduceIte, reduceCtorEq, List.nodup_cons, List.nodup_nil, List.not_mem_nil, not_false_eq_true, and_self, and_true, true_and, List.mem_cons, List.mem_singleton, or_false, decide_true, decide_false, List.getElem?_cons_zero, List.getElem?_cons_succ, dEq_int, dNe_int, dEq_str, dCmp_int, dAdd_int, dSub_int, dInt_int, dAbs_int, dLen_lst, dLen_tup, dList_lst, dList_tup, dTuple_lst, dTuple_tup, dIxD_lst, dIxD_tup, dInD_lst, dInD_tup, fld_size, fld_jobs, gs_length, c3, hA, hi]
  · rw [if_neg c]
    have c1 : ¬ (n : Int) = (m : Int) := by omega
    simp only [m_Jobs_UaddU, g_Jobs_UaddU, job, ↓fnOf, initE, List.replicate, List.length_cons, List.length_nil, List.cons_append, List.nil_append, Nat.sub_self, Nat.reduceSub, Nat.reduceAdd, ↓sSeq, ↓sIf_eq, ↓sSet, ↓sRet, ↓sRetN, ↓sExpr, ↓sNil, ↓sNever, ↓sFor, ↓sAsg, ↓sFldS, ↓sAugIx, ↓sSetIx, ↓putIx, ↓sPar2, ↓sPar3, ↓M.then, ↓bind_eq, ↓M.ret, ↓M.bad, ↓M.get, ↓M.esc, ↓M.arg, ↓M.nrm, ↓M.res, ↓M.wipe, look, getE, ↓put, isMu_eq, muB_none, muB_sh, muB_ow, muB_mu, ↓eVar, ↓eC, ↓eOp1, ↓eOp2, ↓eBool_eq, ↓eAnd_eq, ↓eOr_eq, ↓eNot, ↓eAndV_eq, ↓eOrV_eq, ↓eNotV_eq, ↓eIf_eq, ↓eChain, ↓aNil, ↓aCons, ↓lCons, ↓kCons, ↓sCons, ↓eTup_eq, ↓eLst_eq, ↓eLc_eq, ↓eLc2_eq, ↓iSeq_eq, ↓Cw.iEnum, ↓iZipD_eq, ↓iRng1D_eq, ↓iRng2D, ↓eLRg, ↓eTRg, ↓rg1_eq, ↓rg2, ↓eSl, ↓oNone, ↓oSome_eq, ↓eCallB, ↓getAll, ↓eCall, ↓callM, gather, scatter, muI, toRV, ↓eMake, ↓makeM, ↓eMeth_eq, ↓eFld_eq, ↓eMut_eq, ↓eMutG_eq, ↓eDnew, finR, muOf, List.set, ↓gN, ↓fstep, ↓gT, ↓gsCons, ↓gsNil, noMu, wipeE, ↓sPre_eq, ↓iPre_eq, ↓sFgt, ↓sFrz, fgt_nx, fgt_ct, fgt_rt, fgt_bk, fgt_exc, fgt_bad, frz_nx, frz_ct, frz_rt, frz_bk, frz_exc, frz_bad, frzE_nil, frzE_cons, ↓sRaise, ↓sTry, fixT, List.all_cons, List.all_nil, Bool.and_true, Bool.true_and, Bool.not_false, Bool.not_true, if_true, if_false, ite_true, ite_false, Bool.false_eq_true, reduceIte, reduceCtorEq, List.nodup_cons, List.nodup_nil, List.not_mem_nil, not_false_eq_true, and_self, and_true, true_and, List.mem_cons, List.mem_singleton, or_false, decide_true, decide_false, List.getElem?_cons_zero, List.getElem?_cons_succ, dEq_int, dNe_int, dEq_str, dCmp_int, dAdd_int, dSub_int, dInt_int, dAbs_int, dLen_lst, dLen_tup, dList_lst, dList_tup, dTuple_lst, dTuple_tup, dIxD_lst, dIxD_tup, dInD_lst, dInD_tup, fld_size, c1, List.zip_nil_right, List.reverse_nil]
theorem moved_ok {g : List Int} {k : Nat} (hg : g.length ≤ 64) : m_moved a [.tup (ii g), .int (k : Int)] = .ok (false, .tup (ii (g.map (· + (k : Int))))) [] := by
  have hz : (g.map fun i => D.int (i + (k : Int))).length ≤ sizeLine := szL (by simpa using hg)
  have e : (g.map fun i => D.int (i + (k : Int))) = ii (g.map (· + (k : Int))) := by simp [ii, List.map_map, Function.comp_def]
  simp only [m_moved, g_moved, ↓fnOf, initE, List.replicate, List.length_cons, List.length_nil, List.cons_append, List.nil_append, Nat.sub_self, Nat.reduceSub, Nat.reduceAdd, ↓sSeq, ↓sIf_eq, ↓sSet, ↓sRet, ↓sRetN, ↓sExpr, ↓sNil, ↓sNever, ↓sFor, ↓sAsg, ↓sFldS, ↓sAugIx, ↓sSetIx, ↓putIx, ↓sPar2, ↓sPar3, ↓M.then, ↓bind_eq, ↓M.ret, ↓M.bad, ↓M.get, ↓M.esc, ↓M.arg, ↓M.nrm, ↓M.res, ↓M.wipe, look, getE, ↓put, isMu_eq, muB_none, muB_sh, muB_ow, muB_mu, ↓eVar, ↓eC, ↓eOp1, ↓eOp2, ↓eBool_eq, ↓eAnd_eq, ↓eOr_eq, ↓eNot, ↓eAndV_eq, ↓eOrV_eq, ↓eNotV_eq, ↓eIf_eq, ↓eChain, ↓aNil, ↓aCons, ↓lCons, ↓kCons, ↓sCons, ↓eTup_eq, ↓eLst_eq, ↓eLc_eq, ↓eLc2_eq, ↓iSeq_eq, ↓Cw.iEnum, ↓iZipD_eq, ↓iRng1D_eq, ↓iRng2D, ↓eLRg, ↓eTRg, ↓rg1_eq, ↓rg2, ↓eSl, ↓oNone, ↓oSome_eq, ↓eCallB, ↓getAll, ↓eCall, ↓callM, gather, scatter, muI, toRV, ↓eMake, ↓makeM, ↓eMeth_eq, ↓eFld_eq, ↓eMut_eq, ↓eMutG_eq, ↓eDnew, finR, muOf, List.set, ↓gN, ↓fstep, ↓gT, ↓gsCons, ↓gsNil, noMu, wipeE, ↓sPre_eq, ↓iPre_eq, ↓sFgt, ↓sFrz, fgt_nx, fgt_ct, fgt_rt, fgt_bk, fgt_exc, fgt_bad, frz_nx, frz_ct, frz_rt, frz_bk, frz_exc, frz_bad, frzE_nil, frzE_cons, ↓sRaise, ↓sTry, fixT, List.all_cons, List.all_nil, Bool.and_true, Bool.true_and, Bool.not_false, Bool.not_true, if_true, if_false, ite_true, ite_false, Bool.false_eq_true, reduceIte, reduceCtorEq, List.nodup_cons, List.nodup_nil, List.not_mem_nil, not_false_eq_true, and_self, and_true, true_and, List.mem_cons, List.mem_singleton, or_false, decide_true, decide_false, List.getElem?_cons_zero, List.getElem?_cons_succ, dEq_int, dNe_int, dEq_str, dCmp_int, dAdd_int, dSub_int, dInt_int, dAbs_int, dLen_lst, dLen_tup, dList_lst, dList_tup, dTuple_lst, dTuple_tup, dIxD_lst, dIxD_tup, dInD_lst, dInD_tup]
  rw [lcI_map fun i => D.int (i + (k : Int))]
  · simp only [↓fnOf, initE, List.replicate, List.length_cons, List.length_nil, List.cons_append, List.nil_append, Nat.sub_self, Nat.reduceSub, Nat.reduceAdd, ↓sSeq, ↓sIf_eq, ↓sSet, ↓sRet, ↓sRetN, ↓sExpr, ↓sNil, ↓sNever, ↓sFor, ↓sAsg, ↓sFldS, ↓sAugIx, ↓sSetIx, ↓putIx, ↓sPar2, ↓sPar3, ↓M.then, ↓bind_eq, ↓M.ret, ↓M.bad, ↓M.get, ↓M.esc, ↓M.arg, ↓M.nrm, ↓M.res, ↓M.wipe, look, getE, ↓put, isMu_eq, muB_none, muB_sh, muB_ow, muB_mu, ↓eVar, ↓eC, ↓eOp1, ↓eOp2, ↓eBool_eq, ↓eAnd_eq, ↓eOr_eq, ↓eNot, ↓eAndV_eq, ↓eOrV_eq, ↓eNotV_eq, ↓eIf_eq, ↓eChain, ↓aNil, ↓aCons, ↓lCons, ↓kCons, ↓sCons, ↓eTup_eq, ↓eLst_eq, ↓eLc_eq, ↓eLc2_eq, ↓iSeq_eq, ↓Cw.iEnum, ↓iZipD_eq, ↓iRng1D_eq, ↓iRng2D, ↓eLRg, ↓eTRg, ↓rg1_eq, ↓rg2, ↓eSl, ↓oNone, ↓oSome_eq, ↓eCallB, ↓getAll, ↓eCall, ↓callM, gather, scatter, muI, toRV, ↓eMake, ↓makeM, ↓eMeth_eq, ↓eFld_eq, ↓eMut_eq, ↓eMutG_eq, ↓eDnew, finR, muOf, List.set, ↓gN, ↓fstep, ↓gT, ↓gsCons, ↓gsNil, noMu, wipeE, ↓sPre_eq, ↓iPre_eq, ↓sFgt, ↓sFrz, fgt_nx, fgt_ct, fgt_rt, fgt_bk, fgt_exc, fgt_bad, frz_nx, frz_ct, frz_rt, frz_bk, frz_exc, frz_bad, frzE_nil, frzE_cons, ↓sRaise, ↓sTry, fixT, List.all_cons, List.all_nil, Bool.and_true, Bool.true_and, Bool.not_false, Bool.not_true, if_true, if_false, ite_true, ite_false, Bool.false_eq_true, reduceIte, reduceCtorEq, List.nodup_cons, List.nodup_nil, List.not_mem_nil, not_false_eq_true, and_self, and_true, true_and, List.mem_cons, List.mem_singleton, or_false, decide_true, decide_false, List.getElem?_cons_zero, List.getElem?_cons_succ, dEq_int, dNe_int, dEq_str, dCmp_int, dAdd_int, dSub_int, dInt_int, dAbs_int, dLen_lst, dLen_tup, dList_lst, dList_tup, dTuple_lst, dTuple_tup, dIxD_lst, dIxD_tup, dInD_lst, dInD_tup, hz]
    rw [e]
  · intro i hi
    refine ⟨_, rfl, rfl, rfl, ?_⟩
    simp only [v_moved_0, ↓fnOf, initE, List.replicate, List.length_cons, List.length_nil, List.cons_append, List.nil_append, Nat.sub_self, Nat.reduceSub, Nat.reduceAdd, ↓sSeq, ↓sIf_eq, ↓sSet, ↓sRet, ↓sRetN, ↓sExpr, ↓sNil, ↓sNever, ↓sFor, ↓sAsg, ↓sFldS, ↓sAugIx, ↓sSetIx, ↓putIx, ↓sPar2, ↓sPar3, ↓M.then, ↓bind_eq, ↓M.ret, ↓M.bad, ↓M.get, ↓M.esc, ↓M.arg, ↓M.nrm, ↓M.res, ↓M.wipe, look, getE, ↓put, isMu_eq, muB_none, muB_sh, muB_ow, muB_mu, ↓eVar, ↓eC, ↓eOp1, ↓eOp2, ↓eBool_eq, ↓eAnd_eq, ↓eOr_eq, ↓eNot, ↓eAndV_eq, ↓eOrV_eq, ↓eNotV_eq, ↓eIf_eq, ↓eChain, ↓aNil, ↓aCons, ↓lCons, ↓kCons, ↓sCons, ↓eTup_eq, ↓eLst_eq, ↓eLc_eq, ↓eLc2_eq, ↓iSeq_eq, ↓Cw.iEnum, ↓iZipD_eq, ↓iRng1D_eq, ↓iRng2D, ↓eLRg, ↓eTRg, ↓rg1_eq, ↓rg2, ↓eSl, ↓oNone, ↓oSome_eq, ↓eCallB, ↓getAll, ↓eCall, ↓callM, gather, scatter, muI, toRV, ↓eMake, ↓makeM, ↓eMeth_eq, ↓eFld_eq, ↓eMut_eq, ↓eMutG_eq, ↓eDnew, finR, muOf, List.set, ↓gN, ↓fstep, ↓gT, ↓gsCons, ↓gsNil, noMu, wipeE, ↓sPre_eq, ↓iPre_eq, ↓sFgt, ↓sFrz, fgt_nx, fgt_ct, fgt_rt, fgt_bk, fgt_exc, fgt_bad, frz_nx, frz_ct, frz_rt, frz_bk, frz_exc, frz_bad, frzE_nil, frzE_cons, ↓sRaise, ↓sTry, fixT, List.all_cons, List.all_nil, Bool.and_true, Bool.true_and, Bool.not_false, Bool.not_true, if_true, if_false, ite_true, ite_false, Bool.false_eq_true, reduceIte, reduceCtorEq, List.nodup_cons, List.nodup_nil, List.not_mem_nil, not_false_eq_true, and_self, and_true, true_and, List.mem_cons, List.mem_singleton, or_false, decide_true, decide_false, List.getElem?_cons_zero, List.getElem?_cons_succ, dEq_int, dNe_int, dEq_str, dCmp_int, dAdd_int, dSub_int, dInt_int, dAbs_int, dLen_lst, dLen_tup, dList_lst, dList_tup, dTuple_lst, dTuple_tup, dIxD_lst, dIxD_tup, dInD_lst, dInD_tup]
theorem up_gs (k : Nat) (rs : List (List Int)) : (rs.map fun r => D.tup (ii (r.map (· + (k : Int))))) = gs (up k rs) := by simp [gs, up, List.map_map, Function.comp_def]
theorem or_ok {n m : Nat} {rs qs : List (List Int)} (hm : m ≤ 7) (hr : ∀ r, r ∈ rs → Row n r) (hq : ∀ r, r ∈ qs → Row m r) (hz : rs.length ≤ 7) (hz2 : qs.length ≤ 7) :
    m_Jobs_UorU a [job a n rs, job a m qs] = match orO n rs m qs with
      | .unl => .bad
      | .many => .exc ⟨.ref (a 22), [("limit", .int 7)]⟩ []
      | .made n rs => .ok (true, job a n rs) [] := by
  unfold orO
  by_cases c1 : 7 < n + m
  · rw [if_pos (.inl c1)]
    have c3 : (7 : Int) < (n : Int) + (m : Int) := by omega
    simp only [m_Jobs_UorU, g_Jobs_UorU, job, ↓fnOf, initE, List.replicate, List.length_cons, List.length_nil, List.cons_append, List.nil_append, Nat.sub_self, Nat.reduceSub, Nat.reduceAdd, ↓sSeq, ↓sIf_eq, ↓sSet, ↓sRet, ↓sRetN, ↓sExpr, ↓sNil, ↓sNever, ↓sFor, ↓sAsg, ↓sFldS, ↓sAugIx, ↓sSetIx, ↓putIx, ↓sPar2, ↓sPar3, ↓M.then, ↓bind_eq, ↓M.ret, ↓M.bad, ↓M.get, ↓M.esc, ↓M.arg, ↓M.nrm, ↓M.res, ↓M.wipe, look, getE, ↓put, isMu_eq, muB_none, muB_sh, muB_ow, muB_mu, ↓eVar, ↓eC, ↓eOp1, ↓eOp2, ↓eBool_eq, ↓eAnd_eq, ↓eOr_eq, ↓eNot, ↓eAndV_eq, ↓eOrV_eq, ↓eNotV_eq, ↓eIf_eq, ↓eChain, ↓aNil, ↓aCons, ↓lCons, ↓kCons, ↓sCons, ↓eTup_eq, ↓eLst_eq, ↓eLc_eq, ↓eLc2_eq, ↓iSeq_eq, ↓Cw.iEnum, ↓iZipD_eq, ↓iRng1D_eq, ↓iRng2D, ↓eLRg, ↓eTRg, ↓rg1_eq, ↓rg2, ↓eSl, ↓oNone, ↓oSome_eq, ↓eCallB, ↓getAll, ↓eCall, ↓callM, gather, scatter, muI, toRV, ↓eMake, ↓makeM, ↓eMeth_eq, ↓eFld_eq, ↓eMut_eq, ↓eMutG_eq, ↓eDnew, finR, muOf, List.set, ↓gN, ↓fstep, ↓gT, ↓gsCons, ↓gsNil, noMu, wipeE, ↓sPre_eq, ↓iPre_eq, ↓sFgt, ↓sFrz, fgt_nx, fgt_ct, fgt_rt, fgt_bk, fgt_exc, fgt_bad, frz_nx, frz_ct, frz_rt, frz_bk, frz_exc, frz_bad, frzE_nil, frzE_cons, ↓sRaise, ↓sTry, fixT, List.all_cons, List.all_nil, Bool.and_true, Bool.true_and, Bool.not_false, Bool.not_true, if_true, if_false, ite_true, ite_false, Bool.false_eq_true, reduceIte, reduceCtorEq, List.nodup_cons, List.nodup_nil, List.not_mem_nil, not_false_eq_true, and_self, and_true, true_and, List.mem_cons, List.mem_singleton, or_false, decide_true, decide_false, List.getElem?_cons_zero, List.getElem?_cons_succ, dEq_int, dNe_int, dEq_str, dCmp_int, dAdd_int, dSub_int, dInt_int, dAbs_int, dLen_lst, dLen_tup, dList_lst, dList_tup, dTuple_lst, dTuple_tup, dIxD_lst, dIxD_tup, dInD_lst, dInD_tup, fld_size, fld_jobs, gs_length, c3, List.zip_cons_cons, List.zip_nil_right, List.reverse_cons, List.reverse_nil]
  · have c3 : ¬ (7 : Int) < (n : Int) + (m : Int) := by omega
    by_cases c2 : 7 < rs.length + qs.length
    · rw [if_pos (.inr c2)]
      have c4 : (7 : Int) < (rs.length : Int) + (qs.length : Int) := by omega
      simp only [m_Jobs_UorU, g_Jobs_UorU, job, ↓fnOf, initE, List.replicate, List.length_cons, List.length_nil, List.cons_append, List.nil_append, Nat.sub_self, Nat.reduceSub, Nat.reduceAdd, ↓sSeq, ↓sIf_eq, ↓sSet, ↓sRet, ↓sRetN, ↓sExpr, ↓sNil, ↓sNever, ↓sFor, ↓sAsg, ↓sFldS, ↓sAugIx, ↓sSetIx, ↓putIx, ↓sPar2, ↓sPar3, ↓M.then, ↓bind_eq, ↓M.ret, ↓M.bad, ↓M.get, ↓M.esc, ↓M.arg, ↓M.nrm, ↓M.res, ↓M.wipe, look, getE, ↓put, isMu_eq, muB_none, muB_sh, muB_ow, muB_mu, ↓eVar, ↓eC, ↓eOp1, ↓eOp2, ↓eBool_eq, ↓eAnd_eq, ↓eOr_eq, ↓eNot, ↓eAndV_eq, ↓eOrV_eq, ↓eNotV_eq, ↓eIf_eq, ↓eChain, ↓aNil, ↓aCons, ↓lCons, ↓kCons, ↓sCons, ↓eTup_eq, ↓eLst_eq, ↓eLc_eq, ↓eLc2_eq, ↓iSeq_eq, ↓Cw.iEnum, ↓iZipD_eq, ↓iRng1D_eq, ↓iRng2D, ↓eLRg, ↓eTRg, ↓rg1_eq, ↓rg2, ↓eSl, ↓oNone, ↓oSome_eq, ↓eCallB, ↓getAll, ↓eCall, ↓callM, gather, scatter, muI, toRV, ↓eMake, ↓makeM, ↓eMeth_eq, ↓eFld_eq, ↓eMut_eq, ↓eMutG_eq, ↓eDnew, finR, muOf, List.set, ↓gN, ↓fstep, ↓gT, ↓gsCons, ↓gsNil, noMu, wipeE, ↓sPre_eq, ↓iPre_eq, ↓sFgt, ↓sFrz, fgt_nx, fgt_ct, fgt_rt, fgt_bk, fgt_exc, fgt_bad, frz_nx, frz_ct, frz_rt, frz_bk, frz_exc, frz_bad, frzE_nil, frzE_cons, ↓sRaise, ↓sTry, fixT, List.all_cons, List.all_nil, Bool.and_true, Bool.true_and, Bool.not_false, Bool.not_true, if_true, if_false, ite_true, ite_false, Bool.false_eq_true, reduceIte, reduceCtorEq, List.nodup_cons, List.nodup_nil, List.not_mem_nil, not_false_eq_true, and_self, and_true, true_and, List.mem_cons, List.mem_singleton, or_false, decide_true, decide_false, List.getElem?_cons_zero, List.getElem?_cons_succ, dEq_int, dNe_int, dEq_str, dCmp_int, dAdd_int, dSub_int, dInt_int, dAbs_int, dLen_lst, dLen_tup, dList_lst, dList_tup, dTuple_lst, dTuple_tup, dIxD_lst, dIxD_tup, dInD_lst, dInD_tup, fld_size, fld_jobs, gs_length, c3, c4, List.zip_cons_cons, List.zip_nil_right, List.reverse_cons, List.reverse_nil]
    · rw [if_neg (fun z => z.elim c1 c2)]
      have c4 : ¬ (7 : Int) < (rs.length : Int) + (qs.length : Int) := by omega
      have hi := init_ok a (n := n + m) (rs := rs ++ up n qs) (by omega) (by rw [List.length_append, up_len]; omega) (orO_rows hr hq)
      have en : ((n + m : Nat) : Int) = (n : Int) + (m : Int) := by omega
      rw [en] at hi
      have hA : dAdd (.lst (gs rs)) (.lst (gs (up n qs))) = some (true, .lst (gs (rs ++ up n qs))) := by
        have hs : (gs rs).length + (gs (up n qs)).length ≤ sizeLine := by rw [gs_length, gs_length, up_len]; exact Nat.le_trans (show _ ≤ 14 by omega) (by decide)
        unfold dAdd
        simp only [hs, if_true, gs_app]
      have hl : lcL [3] (gN 3) eYes (v_Jobs_UorU_0 a) (gs qs) [some (Fl.sh, job a n rs), some (Fl.sh, job a m qs), none, none] = .ok (gs (up n qs)) [some (Fl.sh, job a n rs), some (Fl.sh, job a m qs), none, none] := by
        rw [lcG_map fun r => D.tup (ii (r.map (· + (n : Int)))), up_gs]
        intro r h
        have hmv := moved_ok a (g := r) (k := n) (by have := (hq r h).len; omega)
        refine ⟨_, rfl, rfl, rfl, ?_⟩
        simp only [v_Jobs_UorU_0, job, ↓fnOf, initE, List.replicate, List.length_cons, List.length_nil, List.cons_append, List.nil_append, Nat.sub_self, Nat.reduceSub, Nat.reduceAdd, ↓sSeq, ↓sIf_eq, ↓sSet, ↓sRet, ↓sRetN, ↓sExpr, ↓sNil, ↓sNever, ↓sFor, ↓sAsg, ↓sFldS, ↓sAugIx, ↓sSetIx, ↓putIx, ↓sPar2, ↓sPar3, ↓M.then, ↓bind_eq, ↓M.ret, ↓M.bad, ↓M.get, ↓M.esc, ↓M.arg, ↓M.nrm, ↓M.res, ↓M.wipe, look, getE, ↓put, isMu_eq, muB_none, muB_sh, muB_ow, muB_mu, ↓eVar, ↓eC, ↓eOp1, ↓eOp2, ↓eBool_eq, ↓eAnd_eq, ↓eOr_eq, ↓eNot, ↓eAndV_eq, ↓eOrV_eq, ↓eNotV_eq, ↓eIf_eq, ↓eChain, ↓aNil, ↓aCons, ↓lCons, ↓kCons, ↓sCons, ↓eTup_eq, ↓eLst_eq, ↓eLc_eq, ↓eLc2_eq, ↓iSeq_eq, ↓Cw.iEnum, ↓iZipD_eq, ↓iRng1D_eq, ↓iRng2D, ↓eLRg, ↓eTRg, ↓rg1_eq, ↓rg2, ↓eSl, ↓oNone, ↓oSome_eq, ↓eCallB, ↓getAll, ↓eCall, ↓callM, gather, scatter, muI, toRV, ↓eMake, ↓makeM, ↓eMeth_eq, ↓eFld_eq, ↓eMut_eq, ↓eMutG_eq, ↓eDnew, finR, muOf, List.set, ↓gN, ↓fstep, ↓gT, ↓gsCons, ↓gsNil, noMu, wipeE, ↓sPre_eq, ↓iPre_eq, ↓sFgt, ↓sFrz, fgt_nx, fgt_ct, fgt_rt, fgt_bk, fgt_exc, fgt_bad, frz_nx, frz_ct, frz_rt, frz_bk, frz_exc, frz_bad, frzE_nil, frzE_cons, ↓sRaise, ↓sTry, fixT, List.all_cons, List.all_nil, Bool.and_true, Bool.true_and, Bool.not_false, Bool.not_true, if_true, if_false, ite_true, ite_false, Bool.false_eq_true, reduceIte, reduceCtorEq, List.nodup_cons, List.nodup_nil, List.not_mem_nil, not_false_eq_true, and_self, and_true, true_and, List.mem_cons, List.mem_singleton, or_false, decide_true, decide_false, List.getElem?_cons_zero, List.getElem?_cons_succ, dEq_int, dNe_int, dEq_str, dCmp_int, dAdd_int, dSub_int, dInt_int, dAbs_int, dLen_lst, dLen_tup, dList_lst, dList_tup, dTuple_lst, dTuple_tup, dIxD_lst, dIxD_tup, dInD_lst, dInD_tup, fld_size, hmv]
      have hgz : (up n qs).length ≤ sizeLine := szL (by rw [up_len]; omega)
      unfold job at hl hi
      simp only [m_Jobs_UorU, g_Jobs_UorU, job, ↓fnOf, initE, List.replicate, List.length_cons, List.length_nil, List.cons_append, List.nil_append, Nat.sub_self, Nat.reduceSub, Nat.reduceAdd, ↓sSeq, ↓sIf_eq, ↓sSet, ↓sRet, ↓sRetN, ↓sExpr, ↓sNil, ↓sNever, ↓sFor, ↓sAsg, ↓sFldS, ↓sAugIx, ↓sSetIx, ↓putIx, ↓sPar2, ↓sPar3, ↓M.then, ↓bind_eq, ↓M.ret, ↓M.bad, ↓M.get, ↓M.esc, ↓M.arg, ↓M.nrm, ↓M.res, ↓M.wipe, look, getE, ↓put, isMu_eq, muB_none, muB_sh, muB_ow, muB_mu, ↓eVar, ↓eC, ↓eOp1, ↓eOp2, ↓eBool_eq, ↓eAnd_eq, ↓eOr_eq, ↓eNot, ↓eAndV_eq, ↓eOrV_eq, ↓eNotV_eq, ↓eIf_eq, ↓eChain, ↓aNil, ↓aCons, ↓lCons, ↓kCons, ↓sCons, ↓eTup_eq, ↓eLst_eq, ↓eLc_eq, ↓eLc2_eq, ↓iSeq_eq, ↓Cw.iEnum, ↓iZipD_eq, ↓iRng1D_eq, ↓iRng2D, ↓eLRg, ↓eTRg, ↓rg1_eq, ↓rg2, ↓eSl, ↓oNone, ↓oSome_eq, ↓eCallB, ↓getAll, ↓eCall, ↓callM, gather, scatter, muI, toRV, ↓eMake, ↓makeM, ↓eMeth_eq, ↓eFld_eq, ↓eMut_eq, ↓eMutG_eq, ↓eDnew, finR, muOf, List.set, ↓gN, ↓fstep, ↓gT, ↓gsCons, ↓gsNil, noMu, wipeE, ↓sPre_eq, ↓iPre_eq, ↓sFgt, ↓sFrz, fgt_nx, fgt_ct, fgt_rt, fgt_bk, fgt_exc, fgt_bad, frz_nx, frz_ct, frz_rt, frz_bk, frz_exc, frz_bad, frzE_nil, frzE_cons, ↓sRaise, ↓sTry, fixT, List.all_cons, List.all_nil, Bool.and_true, Bool.true_and, Bool.not_false, Bool.not_true, if_true, if_false, ite_true, ite_false, Bool.false_eq_true, reduceIte, reduceCtorEq, List.nodup_cons, List.nodup_nil, List.not_mem_nil, not_false_eq_true, and_self, and_true, true_and, List.mem_cons, List.mem_singleton, or_false, decide_true, decide_false, List.getElem?_cons_zero, List.getElem?_cons_succ, dEq_int, dNe_int, dEq_str, dCmp_int, dAdd_int, dSub_int, dInt_int, dAbs_int, dLen_lst, dLen_tup, dList_lst, dList_tup, dTuple_lst, dTuple_tup, dIxD_lst, dIxD_tup, dInD_lst, dInD_tup, fld_size, fld_jobs, gs_length, c3, c4, ↓hl, hgz, hA, hi]
end Cw

namespace Cw
open PySem L2
variable (a : Nat → Addr)
theorem smallN {c : Nat} (h : c ≤ 1000) : smallI (c : Int) = true := small_of (by omega) (by omega)
theorem mul_len (rs : List (List Int)) {c : Nat} (h : c ≤ 1000) : dMul (.int (rs.length : Int)) (.int (c : Int)) = some (false, .int ((rs.length : Int) * (c : Int))) := dMul_int _ _ (by rw [smallN h, Bool.or_true])
theorem mul_gs (rs : List (List Int)) {c : Nat} (hz : rs.length ≤ 7) (h : c ≤ 1000) : dMul (.tup (gs rs)) (.int (c : Int)) = some (false, .tup (gs (List.replicate c rs).flatten)) := by
  rw [dMul_tup _ _ h (by rw [gs_length]; omega), gs_rep]
theorem mul_ok {n c : Nat} {rs : List (List Int)} (hn : n ≤ 7) (hr : ∀ r, r ∈ rs → Row n r) (hz : rs.length ≤ 7) (hc : c ≤ 1000) :
    m_Jobs_UmulU a [job a n rs, .int (c : Int)] = match mulO n rs c with
      | .unl => .bad
      | .many => .exc ⟨.ref (a 22), [("limit", .int 7)]⟩ []
      | .made n rs => .ok (true, job a n rs) [] := by
  unfold mulO
  have h1 := mul_len rs hc
  have h2 := mul_gs rs hz hc
  by_cases c1 : 7 < rs.length * c
  · rw [if_pos c1]
    have c3 : (7 : Int) < (rs.length : Int) * (c : Int) := by rw [← Int.natCast_mul]; omega
    simp only [m_Jobs_UmulU, g_Jobs_UmulU, job, ↓fnOf, initE, List.replicate, List.length_cons, List.length_nil, List.cons_append, List.nil_append, Nat.sub_self, Nat.reduceSub, Nat.reduceAdd, ↓sSeq, ↓sIf_eq, ↓sSet, ↓sRet, ↓sRetN, ↓sExpr, ↓sNil, ↓sNever, ↓sFor, ↓sAsg, ↓sFldS, ↓sAugIx, ↓sSetIx, ↓putIx, ↓sPar2, ↓sPar3, ↓M.then, ↓bind_eq, ↓M.ret, ↓M.bad, ↓M.get, ↓M.esc, ↓M.arg, ↓M.nrm, ↓M.res, ↓M.wipe, look, getE, ↓put, isMu_eq, muB_none, muB_sh, muB_ow, muB_mu, ↓eVar, ↓eC, ↓eOp1, ↓eOp2, ↓eBool_eq, ↓eAnd_eq, ↓eOr_eq, ↓eNot, ↓eAndV_eq, ↓eOrV_eq, ↓eNotV_eq, ↓eIf_eq, ↓eChain, ↓aNil, ↓aCons, ↓lCons, ↓kCons, ↓sCons, ↓eTup_eq, ↓eLst_eq, ↓eLc_eq, ↓eLc2_eq, ↓iSeq_eq, ↓Cw.iEnum, ↓iZipD_eq, ↓iRng1D_eq, ↓iRng2D, ↓eLRg, ↓eTRg, ↓rg1_eq, ↓rg2, ↓eSl, ↓oNone, ↓oSome_eq, ↓eCallB, ↓getAll, ↓eCall, ↓callM, gather, scatter, muI, toRV, ↓eMake, ↓makeM, ↓eMeth_eq, ↓eFld_eq, ↓eMut_eq, ↓eMutG_eq, ↓eDnew, finR, muOf, List.set, ↓gN, ↓fstep, ↓gT, ↓gsCons, ↓gsNil, noMu, wipeE, ↓sPre_eq, ↓iPre_eq, ↓sFgt, ↓sFrz, fgt_nx, fgt_ct, fgt_rt, fgt_bk, fgt_exc, fgt_bad, frz_nx, frz_ct, frz_rt, frz_bk, frz_exc, frz_bad, frzE_nil, frzE_cons, ↓sRaise, ↓sTry, fixT, List.all_cons, List.all_nil, Bool.and_true, Bool.true_and, Bool.not_false, Bool.not_true, if_true, if_false, ite_true, ite_false, Bool.false_eq_true, reduceIte, reduceCtorEq, List.nodup_cons, List.nodup_nil, List.not_mem_nil, not_false_eq_true, and_self, and_true, true_and, List.mem_cons, List.mem_singleton, or_false, decide_true, decide_false, List.getElem?_cons_zero, List.getElem?_cons_succ, dEq_int, dNe_int, dEq_str, dCmp_int, dAdd_int, dSub_int, dInt_int, dAbs_int, dLen_lst, dLen_tup, dList_lst, dList_tup, dTuple_lst, dTuple_tup, dIxD_lst, dIxD_tup, dInD_lst, dInD_tup, fld_size, fld_jobs, gs_length, h1, c3, List.zip_cons_cons, List.zip_nil_right, List.reverse_cons, List.reverse_nil]
  · rw [if_neg c1]
    have c3 : ¬ (7 : Int) < (rs.length : Int) * (c : Int) := by rw [← Int.natCast_mul]; omega
    have hi := init_gen a (n := n) (rs := (List.replicate c rs).flatten) (R := .tup (gs (List.replicate c rs).flatten)) hn (by rw [rep_len]; omega) (rep_rows hr) (.inr rfl)
    simp only [m_Jobs_UmulU, g_Jobs_UmulU, job, ↓fnOf, initE, List.replicate, List.length_cons, List.length_nil, List.cons_append, List.nil_append, Nat.sub_self, Nat.reduceSub, Nat.reduceAdd, ↓sSeq, ↓sIf_eq, ↓sSet, ↓sRet, ↓sRetN, ↓sExpr, ↓sNil, ↓sNever, ↓sFor, ↓sAsg, ↓sFldS, ↓sAugIx, ↓sSetIx, ↓putIx, ↓sPar2, ↓sPar3, ↓M.then, ↓bind_eq, ↓M.ret, ↓M.bad, ↓M.get, ↓M.esc, ↓M.arg, ↓M.nrm, ↓M.res, ↓M.wipe, look, getE, ↓put, isMu_eq, muB_none, muB_sh, muB_ow, muB_mu, ↓eVar, ↓eC, ↓eOp1, ↓eOp2, ↓eBool_eq, ↓eAnd_eq, ↓eOr_eq, ↓eNot, ↓eAndV_eq, ↓eOrV_eq, ↓eNotV_eq, ↓eIf_eq, ↓eChain, ↓aNil, ↓aCons, ↓lCons, ↓kCons, ↓sCons, ↓eTup_eq, ↓eLst_eq, ↓eLc_eq, ↓eLc2_eq, ↓iSeq_eq, ↓Cw.iEnum, ↓iZipD_eq, ↓iRng1D_eq, ↓iRng2D, ↓eLRg, ↓eTRg, ↓rg1_eq, ↓rg2, ↓eSl, ↓oNone, ↓oSome_eq, ↓eCallB, ↓getAll, ↓eCall, ↓callM, gather, scatter, muI, toRV, ↓eMake, ↓makeM, ↓eMeth_eq, ↓eFld_eq, ↓eMut_eq, ↓eMutG_eq, ↓eDnew, finR, muOf, List.set, ↓gN, ↓fstep, ↓gT, ↓gsCons, ↓gsNil, noMu, wipeE, ↓sPre_eq, ↓iPre_eq, ↓sFgt, ↓sFrz, fgt_nx, fgt_ct, fgt_rt, fgt_bk, fgt_exc, fgt_bad, frz_nx, frz_ct, frz_rt, frz_bk, frz_exc, frz_bad, frzE_nil, frzE_cons, ↓sRaise, ↓sTry, fixT, List.all_cons, List.all_nil, Bool.and_true, Bool.true_and, Bool.not_false, Bool.not_true, if_true, if_false, ite_true, ite_false, Bool.false_eq_true, reduceIte, reduceCtorEq, List.nodup_cons, List.nodup_nil, List.not_mem_nil, not_false_eq_true, and_self, and_true, true_and, List.mem_cons, List.mem_singleton, or_false, decide_true, decide_false, List.getElem?_cons_zero, List.getElem?_cons_succ, dEq_int, dNe_int, dEq_str, dCmp_int, dAdd_int, dSub_int, dInt_int, dAbs_int, dLen_lst, dLen_tup, dList_lst, dList_tup, dTuple_lst, dTuple_tup, dIxD_lst, dIxD_tup, dInD_lst, dInD_tup, fld_size, fld_jobs, gs_length, h1, c3, h2, hi]
theorem rmul_eq : m_Jobs_UrmulU a = m_Jobs_UmulU a := rfl
/-! ### what is told -/
theorem suite_unl (hd : [a 20, a 21, a 22, a 23, a 24].Nodup) (s0 s1 s2 : Option (Fl × D)) : u_law_told_3_1 a [s0, s1, s2, none, some (.sh, .xcp (.ref (a 23)) []), none] = .rt (.sh (outD .unl)) [s0, s1, s2, none, some (.sh, .xcp (.ref (a 23)) []), some (.ow, .lst [.bl true, .bl false, .bl false, .bl false])] := by
  simp only [List.nodup_cons, List.mem_cons, List.not_mem_nil, or_false, not_or, List.nodup_nil, and_true, not_false_eq_true] at hd
  obtain ⟨⟨d01, d02, d03, d04⟩, ⟨d12, d13, d14⟩, ⟨d23, d24⟩, d34⟩ := hd
  have i33 := fun fs => isX_eq a (k := 23) (fs := fs) (by decide) d03
  have i32 := fun fs => isX_ne a (k := 23) (j := 22) (fs := fs) (by decide) (by decide) d02 (fun e => d23 e.symm)
  have i31 := fun fs => isX_ne a (k := 23) (j := 21) (fs := fs) (by decide) (by decide) d01 (fun e => d13 e.symm)
  have i34 := fun fs => isX_ne a (k := 23) (j := 24) (fs := fs) (by decide) (by decide) d04 d34
  have ct : dCntB true (.lst [.bl true, .bl false, .bl false, .bl false]) = some (false, .int 1) := rfl
  have x1 : dIx (.lst [.bl true, .bl false, .bl false, .bl false]) (.int 1) = some (false, .bl false) := rfl
  have x0 : dIx (.lst [.bl true, .bl false, .bl false, .bl false]) (.int 0) = some (false, .bl true) := rfl
  simp only [u_law_told_3_1, ↓fnOf, initE, List.replicate, List.length_cons, List.length_nil, List.cons_append, List.nil_append, Nat.sub_self, Nat.reduceSub, Nat.reduceAdd, ↓sSeq, ↓sIf_eq, ↓sSet, ↓sRet, ↓sRetN, ↓sExpr, ↓sNil, ↓sNever, ↓sFor, ↓sAsg, ↓sFldS, ↓sAugIx, ↓sSetIx, ↓putIx, ↓sPar2, ↓sPar3, ↓M.then, ↓bind_eq, ↓M.ret, ↓M.bad, ↓M.get, ↓M.esc, ↓M.arg, ↓M.nrm, ↓M.res, ↓M.wipe, look, getE, ↓put, isMu_eq, muB_none, muB_sh, muB_ow, muB_mu, ↓eVar, ↓eC, ↓eOp1, ↓eOp2, ↓eBool_eq, ↓eAnd_eq, ↓eOr_eq, ↓eNot, ↓eAndV_eq, ↓eOrV_eq, ↓eNotV_eq, ↓eIf_eq, ↓eChain, ↓aNil, ↓aCons, ↓lCons, ↓kCons, ↓sCons, ↓eTup_eq, ↓eLst_eq, ↓eLc_eq, ↓eLc2_eq, ↓iSeq_eq, ↓Cw.iEnum, ↓iZipD_eq, ↓iRng1D_eq, ↓iRng2D, ↓eLRg, ↓eTRg, ↓rg1_eq, ↓rg2, ↓eSl, ↓oNone, ↓oSome_eq, ↓eCallB, ↓getAll, ↓eCall, ↓callM, gather, scatter, muI, toRV, ↓eMake, ↓makeM, ↓eMeth_eq, ↓eFld_eq, ↓eMut_eq, ↓eMutG_eq, ↓eDnew, finR, muOf, List.set, ↓gN, ↓fstep, ↓gT, ↓gsCons, ↓gsNil, noMu, wipeE, ↓sPre_eq, ↓iPre_eq, ↓sFgt, ↓sFrz, fgt_nx, fgt_ct, fgt_rt, fgt_bk, fgt_exc, fgt_bad, frz_nx, frz_ct, frz_rt, frz_bk, frz_exc, frz_bad, frzE_nil, frzE_cons, ↓sRaise, ↓sTry, fixT, List.all_cons, List.all_nil, Bool.and_true, Bool.true_and, Bool.not_false, Bool.not_true, if_true, if_false, ite_true, ite_false, Bool.false_eq_true, reduceIte, reduceCtorEq, List.nodup_cons, List.nodup_nil, List.not_mem_nil, not_false_eq_true, and_self, and_true, true_and, List.mem_cons, List.mem_singleton, or_false, decide_true, decide_false, List.getElem?_cons_zero, List.getElem?_cons_succ, dEq_int, dNe_int, dEq_str, dCmp_int, dAdd_int, dSub_int, dInt_int, dAbs_int, dLen_lst, dLen_tup, dList_lst, dList_tup, dTuple_lst, dTuple_tup, dIxD_lst, dIxD_tup, dInD_lst, dInD_tup, i33, i32, i31, i34, z4, z2, outD, ct, x1, x0]
theorem suite_many (hd : [a 20, a 21, a 22, a 23, a 24].Nodup) (s0 s1 s2 : Option (Fl × D)) : u_law_told_3_1 a [s0, s1, s2, none, some (.sh, .xcp (.ref (a 22)) [("limit", .int 7)]), none] = .rt (.sh (outD .many)) [s0, s1, s2, none, some (.sh, .xcp (.ref (a 22)) [("limit", .int 7)]), some (.ow, .lst [.bl false, .bl true, .bl false, .bl false])] := by
  simp only [List.nodup_cons, List.mem_cons, List.not_mem_nil, or_false, not_or, List.nodup_nil, and_true, not_false_eq_true] at hd
  obtain ⟨⟨d01, d02, d03, d04⟩, ⟨d12, d13, d14⟩, ⟨d23, d24⟩, d34⟩ := hd
  have i23 := fun fs => isX_ne a (k := 22) (j := 23) (fs := fs) (by decide) (by decide) d03 d23
  have i22 := fun fs => isX_eq a (k := 22) (fs := fs) (by decide) d02
  have i21 := fun fs => isX_ne a (k := 22) (j := 21) (fs := fs) (by decide) (by decide) d01 (fun e => d12 e.symm)
  have i24 := fun fs => isX_ne a (k := 22) (j := 24) (fs := fs) (by decide) (by decide) d04 d24
  have xl := fun d => xf_one a (k := 22) (n := "limit") (d := d) (by decide)
  have ct : dCntB true (.lst [.bl false, .bl true, .bl false, .bl false]) = some (false, .int 1) := rfl
  have x1 : dIx (.lst [.bl false, .bl true, .bl false, .bl false]) (.int 1) = some (false, .bl true) := rfl
  simp only [u_law_told_3_1, ↓fnOf, initE, List.replicate, List.length_cons, List.length_nil, List.cons_append, List.nil_append, Nat.sub_self, Nat.reduceSub, Nat.reduceAdd, ↓sSeq, ↓sIf_eq, ↓sSet, ↓sRet, ↓sRetN, ↓sExpr, ↓sNil, ↓sNever, ↓sFor, ↓sAsg, ↓sFldS, ↓sAugIx, ↓sSetIx, ↓putIx, ↓sPar2, ↓sPar3, ↓M.then, ↓bind_eq, ↓M.ret, ↓M.bad, ↓M.get, ↓M.esc, ↓M.arg, ↓M.nrm, ↓M.res, ↓M.wipe, look, getE, ↓put, isMu_eq, muB_none, muB_sh, muB_ow, muB_mu, ↓eVar, ↓eC, ↓eOp1, ↓eOp2, ↓eBool_eq, ↓eAnd_eq, ↓eOr_eq, ↓eNot, ↓eAndV_eq, ↓eOrV_eq, ↓eNotV_eq, ↓eIf_eq, ↓eChain, ↓aNil, ↓aCons, ↓lCons, ↓kCons, ↓sCons, ↓eTup_eq, ↓eLst_eq, ↓eLc_eq, ↓eLc2_eq, ↓iSeq_eq, ↓Cw.iEnum, ↓iZipD_eq, ↓iRng1D_eq, ↓iRng2D, ↓eLRg, ↓eTRg, ↓rg1_eq, ↓rg2, ↓eSl, ↓oNone, ↓oSome_eq, ↓eCallB, ↓getAll, ↓eCall, ↓callM, gather, scatter, muI, toRV, ↓eMake, ↓makeM, ↓eMeth_eq, ↓eFld_eq, ↓eMut_eq, ↓eMutG_eq, ↓eDnew, finR, muOf, List.set, ↓gN, ↓fstep, ↓gT, ↓gsCons, ↓gsNil, noMu, wipeE, ↓sPre_eq, ↓iPre_eq, ↓sFgt, ↓sFrz, fgt_nx, fgt_ct, fgt_rt, fgt_bk, fgt_exc, fgt_bad, frz_nx, frz_ct, frz_rt, frz_bk, frz_exc, frz_bad, frzE_nil, frzE_cons, ↓sRaise, ↓sTry, fixT, List.all_cons, List.all_nil, Bool.and_true, Bool.true_and, Bool.not_false, Bool.not_true, if_true, if_false, ite_true, ite_false, Bool.false_eq_true, reduceIte, reduceCtorEq, List.nodup_cons, List.nodup_nil, List.not_mem_nil, not_false_eq_true, and_self, and_true, true_and, List.mem_cons, List.mem_singleton, or_false, decide_true, decide_false, List.getElem?_cons_zero, List.getElem?_cons_succ, dEq_int, dNe_int, dEq_str, dCmp_int, dAdd_int, dSub_int, dInt_int, dAbs_int, dLen_lst, dLen_tup, dList_lst, dList_tup, dTuple_lst, dTuple_tup, dIxD_lst, dIxD_tup, dInD_lst, dInD_tup, i23, i22, i21, i24, xl, z4, z2, outD, ct, x1]
section
variable (hd : [a 20, a 21, a 22, a 23, a 24].Nodup)
include hd
theorem told_add {n m : Nat} {rs qs : List (List Int)} (hn : n ≤ 7) (hr : ∀ r, r ∈ rs → Row n r) (hq : ∀ r, r ∈ qs → Row m r) (hz : rs.length ≤ 7) (hz2 : qs.length ≤ 7) :
    m_law_told_3 a [.int 0, job a n rs, job a m qs] = .ok (false, outD (addO n rs m qs)) [] := by
  have h := add_ok a hn hr hq hz hz2
  have x3 := xT_ce a (k := 23) (by decide) (by decide)
  have x2 := xT_ce a (k := 22) (by decide) (by decide)
  unfold job at h
  cases w : addO n rs m qs with
  | unl =>
    rw [w] at h
    simp only [m_law_told_3, g_law_told_3, y_law_told_3_0, job, ↓fnOf, initE, List.replicate, List.length_cons, List.length_nil, List.cons_append, List.nil_append, Nat.sub_self, Nat.reduceSub, Nat.reduceAdd, ↓sSeq, ↓sIf_eq, ↓sSet, ↓sRet, ↓sRetN, ↓sExpr, ↓sNil, ↓sNever, ↓sFor, ↓sAsg, ↓sFldS, ↓sAugIx, ↓sSetIx, ↓putIx, ↓sPar2, ↓sPar3, ↓M.then, ↓bind_eq, ↓M.ret, ↓M.bad, ↓M.get, ↓M.esc, ↓M.arg, ↓M.nrm, ↓M.res, ↓M.wipe, look, getE, ↓put, isMu_eq, muB_none, muB_sh, muB_ow, muB_mu, ↓eVar, ↓eC, ↓eOp1, ↓eOp2, ↓eBool_eq, ↓eAnd_eq, ↓eOr_eq, ↓eNot, ↓eAndV_eq, ↓eOrV_eq, ↓eNotV_eq, ↓eIf_eq, ↓eChain, ↓aNil, ↓aCons, ↓lCons, ↓kCons, ↓sCons, ↓eTup_eq, ↓eLst_eq, ↓eLc_eq, ↓eLc2_eq, ↓iSeq_eq, ↓Cw.iEnum, ↓iZipD_eq, ↓iRng1D_eq, ↓iRng2D, ↓eLRg, ↓eTRg, ↓rg1_eq, ↓rg2, ↓eSl, ↓oNone, ↓oSome_eq, ↓eCallB, ↓getAll, ↓eCall, ↓callM, gather, scatter, muI, toRV, ↓eMake, ↓makeM, ↓eMeth_eq, ↓eFld_eq, ↓eMut_eq, ↓eMutG_eq, ↓eDnew, finR, muOf, List.set, ↓gN, ↓fstep, ↓gT, ↓gsCons, ↓gsNil, noMu, wipeE, ↓sPre_eq, ↓iPre_eq, ↓sFgt, ↓sFrz, fgt_nx, fgt_ct, fgt_rt, fgt_bk, fgt_exc, fgt_bad, frz_nx, frz_ct, frz_rt, frz_bk, frz_exc, frz_bad, frzE_nil, frzE_cons, ↓sRaise, ↓sTry, fixT, List.all_cons, List.all_nil, Bool.and_true, Bool.true_and, Bool.not_false, Bool.not_true, if_true, if_false, ite_true, ite_false, Bool.false_eq_true, reduceIte, reduceCtorEq, List.nodup_cons, List.nodup_nil, List.not_mem_nil, not_false_eq_true, and_self, and_true, true_and, List.mem_cons, List.mem_singleton, or_false, decide_true, decide_false, List.getElem?_cons_zero, List.getElem?_cons_succ, dEq_int, dNe_int, dEq_str, dCmp_int, dAdd_int, dSub_int, dInt_int, dAbs_int, dLen_lst, dLen_tup, dList_lst, dList_tup, dTuple_lst, dTuple_tup, dIxD_lst, dIxD_tup, dInD_lst, dInD_tup, ↓eBinI, ↓binM_ii, h, x3, suite_unl a hd]
  | many =>
    rw [w] at h
    simp only [m_law_told_3, g_law_told_3, y_law_told_3_0, job, ↓fnOf, initE, List.replicate, List.length_cons, List.length_nil, List.cons_append, List.nil_append, Nat.sub_self, Nat.reduceSub, Nat.reduceAdd, ↓sSeq, ↓sIf_eq, ↓sSet, ↓sRet, ↓sRetN, ↓sExpr, ↓sNil, ↓sNever, ↓sFor, ↓sAsg, ↓sFldS, ↓sAugIx, ↓sSetIx, ↓putIx, ↓sPar2, ↓sPar3, ↓M.then, ↓bind_eq, ↓M.ret, ↓M.bad, ↓M.get, ↓M.esc, ↓M.arg, ↓M.nrm, ↓M.res, ↓M.wipe, look, getE, ↓put, isMu_eq, muB_none, muB_sh, muB_ow, muB_mu, ↓eVar, ↓eC, ↓eOp1, ↓eOp2, ↓eBool_eq, ↓eAnd_eq, ↓eOr_eq, ↓eNot, ↓eAndV_eq, ↓eOrV_eq, ↓eNotV_eq, ↓eIf_eq, ↓eChain, ↓aNil, ↓aCons, ↓lCons, ↓kCons, ↓sCons, ↓eTup_eq, ↓eLst_eq, ↓eLc_eq, ↓eLc2_eq, ↓iSeq_eq, ↓Cw.iEnum, ↓iZipD_eq, ↓iRng1D_eq, ↓iRng2D, ↓eLRg, ↓eTRg, ↓rg1_eq, ↓rg2, ↓eSl, ↓oNone, ↓oSome_eq, ↓eCallB, ↓getAll, ↓eCall, ↓callM, gather, scatter, muI, toRV, ↓eMake, ↓makeM, ↓eMeth_eq, ↓eFld_eq, ↓eMut_eq, ↓eMutG_eq, ↓eDnew, finR, muOf, List.set, ↓gN, ↓fstep, ↓gT, ↓gsCons, ↓gsNil, noMu, wipeE, ↓sPre_eq, ↓iPre_eq, ↓sFgt, ↓sFrz, fgt_nx, fgt_ct, fgt_rt, fgt_bk, fgt_exc, fgt_bad, frz_nx, frz_ct, frz_rt, frz_bk, frz_exc, frz_bad, frzE_nil, frzE_cons, ↓sRaise, ↓sTry, fixT, List.all_cons, List.all_nil, Bool.and_true, Bool.true_and, Bool.not_false, Bool.not_true, if_true, if_false, ite_true, ite_false, Bool.false_eq_true, reduceIte, reduceCtorEq, List.nodup_cons, List.nodup_nil, List.not_mem_nil, not_false_eq_true, and_self, and_true, true_and, List.mem_cons, List.mem_singleton, or_false, decide_true, decide_false, List.getElem?_cons_zero, List.getElem?_cons_succ, dEq_int, dNe_int, dEq_str, dCmp_int, dAdd_int, dSub_int, dInt_int, dAbs_int, dLen_lst, dLen_tup, dList_lst, dList_tup, dTuple_lst, dTuple_tup, dIxD_lst, dIxD_tup, dInD_lst, dInD_tup, ↓eBinI, ↓binM_ii, h, x2, suite_many a hd]
  | made n' rs' =>
    rw [w] at h
    simp only [m_law_told_3, g_law_told_3, y_law_told_3_0, job, ↓fnOf, initE, List.replicate, List.length_cons, List.length_nil, List.cons_append, List.nil_append, Nat.sub_self, Nat.reduceSub, Nat.reduceAdd, ↓sSeq, ↓sIf_eq, ↓sSet, ↓sRet, ↓sRetN, ↓sExpr, ↓sNil, ↓sNever, ↓sFor, ↓sAsg, ↓sFldS, ↓sAugIx, ↓sSetIx, ↓putIx, ↓sPar2, ↓sPar3, ↓M.then, ↓bind_eq, ↓M.ret, ↓M.bad, ↓M.get, ↓M.esc, ↓M.arg, ↓M.nrm, ↓M.res, ↓M.wipe, look, getE, ↓put, isMu_eq, muB_none, muB_sh, muB_ow, muB_mu, ↓eVar, ↓eC, ↓eOp1, ↓eOp2, ↓eBool_eq, ↓eAnd_eq, ↓eOr_eq, ↓eNot, ↓eAndV_eq, ↓eOrV_eq, ↓eNotV_eq, ↓eIf_eq, ↓eChain, ↓aNil, ↓aCons, ↓lCons, ↓kCons, ↓sCons, ↓eTup_eq, ↓eLst_eq, ↓eLc_eq, ↓eLc2_eq, ↓iSeq_eq, ↓Cw.iEnum, ↓iZipD_eq, ↓iRng1D_eq, ↓iRng2D, ↓eLRg, ↓eTRg, ↓rg1_eq, ↓rg2, ↓eSl, ↓oNone, ↓oSome_eq, ↓eCallB, ↓getAll, ↓eCall, ↓callM, gather, scatter, muI, toRV, ↓eMake, ↓makeM, ↓eMeth_eq, ↓eFld_eq, ↓eMut_eq, ↓eMutG_eq, ↓eDnew, finR, muOf, List.set, ↓gN, ↓fstep, ↓gT, ↓gsCons, ↓gsNil, noMu, wipeE, ↓sPre_eq, ↓iPre_eq, ↓sFgt, ↓sFrz, fgt_nx, fgt_ct, fgt_rt, fgt_bk, fgt_exc, fgt_bad, frz_nx, frz_ct, frz_rt, frz_bk, frz_exc, frz_bad, frzE_nil, frzE_cons, ↓sRaise, ↓sTry, fixT, List.all_cons, List.all_nil, Bool.and_true, Bool.true_and, Bool.not_false, Bool.not_true, if_true, if_false, ite_true, ite_false, Bool.false_eq_true, reduceIte, reduceCtorEq, List.nodup_cons, List.nodup_nil, List.not_mem_nil, not_false_eq_true, and_self, and_true, true_and, List.mem_cons, List.mem_singleton, or_false, decide_true, decide_false, List.getElem?_cons_zero, List.getElem?_cons_succ, dEq_int, dNe_int, dEq_str, dCmp_int, dAdd_int, dSub_int, dInt_int, dAbs_int, dLen_lst, dLen_tup, dList_lst, dList_tup, dTuple_lst, dTuple_tup, dIxD_lst, dIxD_tup, dInD_lst, dInD_tup, ↓eBinI, ↓binM_ii, h, fld_size, fld_jobs, z3, outD]
theorem told_or {n m : Nat} {rs qs : List (List Int)} (hm : m ≤ 7) (hr : ∀ r, r ∈ rs → Row n r) (hq : ∀ r, r ∈ qs → Row m r) (hz : rs.length ≤ 7) (hz2 : qs.length ≤ 7) :
    m_law_told_3 a [.int 1, job a n rs, job a m qs] = .ok (false, outD (orO n rs m qs)) [] := by
  have h := or_ok a hm hr hq hz hz2
  have x2 := xT_ce a (k := 22) (by decide) (by decide)
  have n10 : ¬ (1 : Int) = 0 := by decide
  unfold job at h
  cases w : orO n rs m qs with
  | unl => unfold orO at w; split at w <;> cases w
  | many =>
    rw [w] at h
    simp only [m_law_told_3, g_law_told_3, y_law_told_3_0, job, ↓fnOf, initE, List.replicate, List.length_cons, List.length_nil, List.cons_append, List.nil_append, Nat.sub_self, Nat.reduceSub, Nat.reduceAdd, ↓sSeq, ↓sIf_eq, ↓sSet, ↓sRet, ↓sRetN, ↓sExpr, ↓sNil, ↓sNever, ↓sFor, ↓sAsg, ↓sFldS, ↓sAugIx, ↓sSetIx, ↓putIx, ↓sPar2, ↓sPar3, ↓M.then, ↓bind_eq, ↓M.ret, ↓M.bad, ↓M.get, ↓M.esc, ↓M.arg, ↓M.nrm, ↓M.res, ↓M.wipe, look, getE, ↓put, isMu_eq, muB_none, muB_sh, muB_ow, muB_mu, ↓eVar, ↓eC, ↓eOp1, ↓eOp2, ↓eBool_eq, ↓eAnd_eq, ↓eOr_eq, ↓eNot, ↓eAndV_eq, ↓eOrV_eq, ↓eNotV_eq, ↓eIf_eq, ↓eChain, ↓aNil, ↓aCons, ↓lCons, ↓kCons, ↓sCons, ↓eTup_eq, ↓eLst_eq, ↓eLc_eq, ↓eLc2_eq, ↓iSeq_eq, ↓Cw.iEnum, ↓iZipD_eq, ↓iRng1D_eq, ↓iRng2D, ↓eLRg, ↓eTRg, ↓rg1_eq, ↓rg2, ↓eSl, ↓oNone, ↓oSome_eq, ↓eCallB, ↓getAll, ↓eCall, ↓callM, gather, scatter, muI, toRV, ↓eMake, ↓makeM, ↓eMeth_eq, ↓eFld_eq, ↓eMut_eq, ↓eMutG_eq, ↓eDnew, finR, muOf, List.set, ↓gN, ↓fstep, ↓gT, ↓gsCons, ↓gsNil, noMu, wipeE, ↓sPre_eq, ↓iPre_eq, ↓sFgt, ↓sFrz, fgt_nx, fgt_ct, fgt_rt, fgt_bk, fgt_exc, fgt_bad, frz_nx, frz_ct, frz_rt, frz_bk, frz_exc, frz_bad, frzE_nil, frzE_cons, ↓sRaise, ↓sTry, fixT, List.all_cons, List.all_nil, Bool.and_true, Bool.true_and, Bool.not_false, Bool.not_true, if_true, if_false, ite_true, ite_false, Bool.false_eq_true, reduceIte, reduceCtorEq, List.nodup_cons, List.nodup_nil, List.not_mem_nil, not_false_eq_true, and_self, and_true, true_and, List.mem_cons, List.mem_singleton, or_false, decide_true, decide_false, List.getElem?_cons_zero, List.getElem?_cons_succ, dEq_int, dNe_int, dEq_str, dCmp_int, dAdd_int, dSub_int, dInt_int, dAbs_int, dLen_lst, dLen_tup, dList_lst, dList_tup, dTuple_lst, dTuple_tup, dIxD_lst, dIxD_tup, dInD_lst, dInD_tup, n10, ↓eBinI, ↓binM_ii, h, x2, suite_many a hd]
  | made n' rs' =>
    rw [w] at h
    simp only [m_law_told_3, g_law_told_3, y_law_told_3_0, job, ↓fnOf, initE, List.replicate, List.length_cons, List.length_nil, List.cons_append, List.nil_append, Nat.sub_self, Nat.reduceSub, Nat.reduceAdd, ↓sSeq, ↓sIf_eq, ↓sSet, ↓sRet, ↓sRetN, ↓sExpr, ↓sNil, ↓sNever, ↓sFor, ↓sAsg, ↓sFldS, ↓sAugIx, ↓sSetIx, ↓putIx, ↓sPar2, ↓sPar3, ↓M.then, ↓bind_eq, ↓M.ret, ↓M.bad, ↓M.get, ↓M.esc, ↓M.arg, ↓M.nrm, ↓M.res, ↓M.wipe, look, getE, ↓put, isMu_eq, muB_none, muB_sh, muB_ow, muB_mu, ↓eVar, ↓eC, ↓eOp1, ↓eOp2, ↓eBool_eq, ↓eAnd_eq, ↓eOr_eq, ↓eNot, ↓eAndV_eq, ↓eOrV_eq, ↓eNotV_eq, ↓eIf_eq, ↓eChain, ↓aNil, ↓aCons, ↓lCons, ↓kCons, ↓sCons, ↓eTup_eq, ↓eLst_eq, ↓eLc_eq, ↓eLc2_eq, ↓iSeq_eq, ↓Cw.iEnum, ↓iZipD_eq, ↓iRng1D_eq, ↓iRng2D, ↓eLRg, ↓eTRg, ↓rg1_eq, ↓rg2, ↓eSl, ↓oNone, ↓oSome_eq, ↓eCallB, ↓getAll, ↓eCall, ↓callM, gather, scatter, muI, toRV, ↓eMake, ↓makeM, ↓eMeth_eq, ↓eFld_eq, ↓eMut_eq, ↓eMutG_eq, ↓eDnew, finR, muOf, List.set, ↓gN, ↓fstep, ↓gT, ↓gsCons, ↓gsNil, noMu, wipeE, ↓sPre_eq, ↓iPre_eq, ↓sFgt, ↓sFrz, fgt_nx, fgt_ct, fgt_rt, fgt_bk, fgt_exc, fgt_bad, frz_nx, frz_ct, frz_rt, frz_bk, frz_exc, frz_bad, frzE_nil, frzE_cons, ↓sRaise, ↓sTry, fixT, List.all_cons, List.all_nil, Bool.and_true, Bool.true_and, Bool.not_false, Bool.not_true, if_true, if_false, ite_true, ite_false, Bool.false_eq_true, reduceIte, reduceCtorEq, List.nodup_cons, List.nodup_nil, List.not_mem_nil, not_false_eq_true, and_self, and_true, true_and, List.mem_cons, List.mem_singleton, or_false, decide_true, decide_false, List.getElem?_cons_zero, List.getElem?_cons_succ, dEq_int, dNe_int, dEq_str, dCmp_int, dAdd_int, dSub_int, dInt_int, dAbs_int, dLen_lst, dLen_tup, dList_lst, dList_tup, dTuple_lst, dTuple_tup, dIxD_lst, dIxD_tup, dInD_lst, dInD_tup, n10, ↓eBinI, ↓binM_ii, h, fld_size, fld_jobs, z3, outD]
theorem told_mul {n c : Nat} {rs : List (List Int)} (hn : n ≤ 7) (hr : ∀ r, r ∈ rs → Row n r) (hz : rs.length ≤ 7) (hc : c ≤ 1000) :
    m_law_told_3 a [.int 2, job a n rs, .int (c : Int)] = .ok (false, outD (mulO n rs c)) [] ∧ m_law_told_3 a [.int 2, .int (c : Int), job a n rs] = .ok (false, outD (mulO n rs c)) [] := by
  have h := mul_ok a hn hr hz hc
  have x2 := xT_ce a (k := 22) (by decide) (by decide)
  have n20 : ¬ (2 : Int) = 0 := by decide
  have n21 : ¬ (2 : Int) = 1 := by decide
  unfold job at h
  cases w : mulO n rs c with
  | unl => unfold mulO at w; split at w <;> cases w
  | many =>
    rw [w] at h
    constructor <;> simp only [m_law_told_3, g_law_told_3, y_law_told_3_0, job, ↓fnOf, initE, List.replicate, List.length_cons, List.length_nil, List.cons_append, List.nil_append, Nat.sub_self, Nat.reduceSub, Nat.reduceAdd, ↓sSeq, ↓sIf_eq, ↓sSet, ↓sRet, ↓sRetN, ↓sExpr, ↓sNil, ↓sNever, ↓sFor, ↓sAsg, ↓sFldS, ↓sAugIx, ↓sSetIx, ↓putIx, ↓sPar2, ↓sPar3, ↓M.then, ↓bind_eq, ↓M.ret, ↓M.bad, ↓M.get, ↓M.esc, ↓M.arg, ↓M.nrm, ↓M.res, ↓M.wipe, look, getE, ↓put, isMu_eq, muB_none, muB_sh, muB_ow, muB_mu, ↓eVar, ↓eC, ↓eOp1, ↓eOp2, ↓eBool_eq, ↓eAnd_eq, ↓eOr_eq, ↓eNot, ↓eAndV_eq, ↓eOrV_eq, ↓eNotV_eq, ↓eIf_eq, ↓eChain, ↓aNil, ↓aCons, ↓lCons, ↓kCons, ↓sCons, ↓eTup_eq, ↓eLst_eq, ↓eLc_eq, ↓eLc2_eq, ↓iSeq_eq, ↓Cw.iEnum, ↓iZipD_eq, ↓iRng1D_eq, ↓iRng2D, ↓eLRg, ↓eTRg, ↓rg1_eq, ↓rg2, ↓eSl, ↓oNone, ↓oSome_eq, ↓eCallB, ↓getAll, ↓eCall, ↓callM, gather, scatter, muI, toRV, ↓eMake, ↓makeM, ↓eMeth_eq, ↓eFld_eq, ↓eMut_eq, ↓eMutG_eq, ↓eDnew, finR, muOf, List.set, ↓gN, ↓fstep, ↓gT, ↓gsCons, ↓gsNil, noMu, wipeE, ↓sPre_eq, ↓iPre_eq, ↓sFgt, ↓sFrz, fgt_nx, fgt_ct, fgt_rt, fgt_bk, fgt_exc, fgt_bad, frz_nx, frz_ct, frz_rt, frz_bk, frz_exc, frz_bad, frzE_nil, frzE_cons, ↓sRaise, ↓sTry, fixT, List.all_cons, List.all_nil, Bool.and_true, Bool.true_and, Bool.not_false, Bool.not_true, if_true, if_false, ite_true, ite_false, Bool.false_eq_true, reduceIte, reduceCtorEq, List.nodup_cons, List.nodup_nil, List.not_mem_nil, not_false_eq_true, and_self, and_true, true_and, List.mem_cons, List.mem_singleton, or_false, decide_true, decide_false, List.getElem?_cons_zero, List.getElem?_cons_succ, dEq_int, dNe_int, dEq_str, dCmp_int, dAdd_int, dSub_int, dInt_int, dAbs_int, dLen_lst, dLen_tup, dList_lst, dList_tup, dTuple_lst, dTuple_tup, dIxD_lst, dIxD_tup, dInD_lst, dInD_tup, n20, n21, ↓eBinI, ↓binM_in, ↓binM_ni, rmul_eq, h, x2, suite_many a hd]
  | made n' rs' =>
    rw [w] at h
    constructor <;> simp only [m_law_told_3, g_law_told_3, y_law_told_3_0, job, ↓fnOf, initE, List.replicate, List.length_cons, List.length_nil, List.cons_append, List.nil_append, Nat.sub_self, Nat.reduceSub, Nat.reduceAdd, ↓sSeq, ↓sIf_eq, ↓sSet, ↓sRet, ↓sRetN, ↓sExpr, ↓sNil, ↓sNever, ↓sFor, ↓sAsg, ↓sFldS, ↓sAugIx, ↓sSetIx, ↓putIx, ↓sPar2, ↓sPar3, ↓M.then, ↓bind_eq, ↓M.ret, ↓M.bad, ↓M.get, ↓M.esc, ↓M.arg, ↓M.nrm, ↓M.res, ↓M.wipe, look, getE, ↓put, isMu_eq, muB_none, muB_sh, muB_ow, muB_mu, ↓eVar, ↓eC, ↓eOp1, ↓eOp2, ↓eBool_eq, ↓eAnd_eq, ↓eOr_eq, ↓eNot, ↓eAndV_eq, ↓eOrV_eq, ↓eNotV_eq, ↓eIf_eq, ↓eChain, ↓aNil, ↓aCons, ↓lCons, ↓kCons, ↓sCons, ↓eTup_eq, ↓eLst_eq, ↓eLc_eq, ↓eLc2_eq, ↓iSeq_eq, ↓Cw.iEnum, ↓iZipD_eq, ↓iRng1D_eq, ↓iRng2D, ↓eLRg, ↓eTRg, ↓rg1_eq, ↓rg2, ↓eSl, ↓oNone, ↓oSome_eq, ↓eCallB, ↓getAll, ↓eCall, ↓callM, gather, scatter, muI, toRV, ↓eMake, ↓makeM, ↓eMeth_eq, ↓eFld_eq, ↓eMut_eq, ↓eMutG_eq, ↓eDnew, finR, muOf, List.set, ↓gN, ↓fstep, ↓gT, ↓gsCons, ↓gsNil, noMu, wipeE, ↓sPre_eq, ↓iPre_eq, ↓sFgt, ↓sFrz, fgt_nx, fgt_ct, fgt_rt, fgt_bk, fgt_exc, fgt_bad, frz_nx, frz_ct, frz_rt, frz_bk, frz_exc, frz_bad, frzE_nil, frzE_cons, ↓sRaise, ↓sTry, fixT, List.all_cons, List.all_nil, Bool.and_true, Bool.true_and, Bool.not_false, Bool.not_true, if_true, if_false, ite_true, ite_false, Bool.false_eq_true, reduceIte, reduceCtorEq, List.nodup_cons, List.nodup_nil, List.not_mem_nil, not_false_eq_true, and_self, and_true, true_and, List.mem_cons, List.mem_singleton, or_false, decide_true, decide_false, List.getElem?_cons_zero, List.getElem?_cons_succ, dEq_int, dNe_int, dEq_str, dCmp_int, dAdd_int, dSub_int, dInt_int, dAbs_int, dLen_lst, dLen_tup, dList_lst, dList_tup, dTuple_lst, dTuple_tup, dIxD_lst, dIxD_tup, dInD_lst, dInD_tup, n20, n21, ↓eBinI, ↓binM_in, ↓binM_ni, rmul_eq, h, fld_size, fld_jobs, z3, outD]
end
theorem add_gsL {rs qs : List (List Int)} (hz : rs.length ≤ 7) (hz2 : qs.length ≤ 7) : dAdd (.lst (gs rs)) (.lst (gs qs)) = some (true, .lst (gs (rs ++ qs))) := by
  have hs : (gs rs).length + (gs qs).length ≤ sizeLine := by rw [gs_length, gs_length]; exact Nat.le_trans (show _ ≤ 14 by omega) (by decide)
  unfold dAdd
  simp only [hs, if_true, gs_app]
theorem sum_ok {n m : Nat} {rs qs : List (List Int)} (hz : rs.length ≤ 7) (hz2 : qs.length ≤ 7) :
    m_law_sum a [.int (n : Int), .lst (gs rs), .int (m : Int), .lst (gs qs)] = .ok (false, outD (addO n rs m qs)) [] := by
  have hA := add_gsL hz hz2
  unfold addO
  by_cases c : n = m
  · subst c
    rw [if_pos rfl]
    by_cases c2 : 7 < rs.length + qs.length
    · rw [if_pos c2]
      have c3 : (7 : Int) < (rs.length : Int) + (qs.length : Int) := by omega
      simp only [m_law_sum, g_law_sum, ↓fnOf, initE, List.replicate, List.length_cons, List.length_nil, List.cons_append, List.nil_append, Nat.sub_self, Nat.reduceSub, Nat.reduceAdd, ↓sSeq, ↓sIf_eq, ↓sSet, ↓sRet, ↓sRetN, ↓sExpr, ↓sNil, ↓sNever, ↓sFor, ↓sAsg, ↓sFldS, ↓sAugIx, ↓sSetIx, ↓putIx, ↓sPar2, ↓sPar3, ↓M.then, ↓bind_eq, ↓M.ret, ↓M.bad, ↓M.get, ↓M.esc, ↓M.arg, ↓M.nrm, ↓M.res, ↓M.wipe, look, getE, ↓put, isMu_eq, muB_none, muB_sh, muB_ow, muB_mu, ↓eVar, ↓eC, ↓eOp1, ↓eOp2, ↓eBool_eq, ↓eAnd_eq, ↓eOr_eq, ↓eNot, ↓eAndV_eq, ↓eOrV_eq, ↓eNotV_eq, ↓eIf_eq, ↓eChain, ↓aNil, ↓aCons, ↓lCons, ↓kCons, ↓sCons, ↓eTup_eq, ↓eLst_eq, ↓eLc_eq, ↓eLc2_eq, ↓iSeq_eq, ↓Cw.iEnum, ↓iZipD_eq, ↓iRng1D_eq, ↓iRng2D, ↓eLRg, ↓eTRg, ↓rg1_eq, ↓rg2, ↓eSl, ↓oNone, ↓oSome_eq, ↓eCallB, ↓getAll, ↓eCall, ↓callM, gather, scatter, muI, toRV, ↓eMake, ↓makeM, ↓eMeth_eq, ↓eFld_eq, ↓eMut_eq, ↓eMutG_eq, ↓eDnew, finR, muOf, List.set, ↓gN, ↓fstep, ↓gT, ↓gsCons, ↓gsNil, noMu, wipeE, ↓sPre_eq, ↓iPre_eq, ↓sFgt, ↓sFrz, fgt_nx, fgt_ct, fgt_rt, fgt_bk, fgt_exc, fgt_bad, frz_nx, frz_ct, frz_rt, frz_bk, frz_exc, frz_bad, frzE_nil, frzE_cons, ↓sRaise, ↓sTry, fixT, List.all_cons, List.all_nil, Bool.and_true, Bool.true_and, Bool.not_false, Bool.not_true, if_true, if_false, ite_true, ite_false, Bool.false_eq_true, reduceIte, reduceCtorEq, List.nodup_cons, List.nodup_nil, List.not_mem_nil, not_false_eq_true, and_self, and_true, true_and, List.mem_cons, List.mem_singleton, or_false, decide_true, decide_false, List.getElem?_cons_zero, List.getElem?_cons_succ, dEq_int, dNe_int, dEq_str, dCmp_int, dAdd_int, dSub_int, dInt_int, dAbs_int, dLen_lst, dLen_tup, dList_lst, dList_tup, dTuple_lst, dTuple_tup, dIxD_lst, dIxD_tup, dInD_lst, dInD_tup, gs_length, c3, z2, outD]
    · rw [if_neg c2]
      have c3 : ¬ (7 : Int) < (rs.length : Int) + (qs.length : Int) := by omega
      simp only [m_law_sum, g_law_sum, ↓fnOf, initE, List.replicate, List.length_cons, List.length_nil, List.cons_append, List.nil_append, Nat.sub_self, Nat.reduceSub, Nat.reduceAdd, ↓sSeq, ↓sIf_eq, ↓sSet, ↓sRet, ↓sRetN, ↓sExpr, ↓sNil, ↓sNever, ↓sFor, ↓sAsg, ↓sFldS, ↓sAugIx, ↓sSetIx, ↓putIx, ↓sPar2, ↓sPar3, ↓M.then, ↓bind_eq, ↓M.ret, ↓M.bad, ↓M.get, ↓M.esc, ↓M.arg, ↓M.nrm, ↓M.res, ↓M.wipe, look, getE, ↓put, isMu_eq, muB_none, muB_sh, muB_ow, muB_mu, ↓eVar, ↓eC, ↓eOp1, ↓eOp2, ↓eBool_eq, ↓eAnd_eq, ↓eOr_eq, ↓eNot, ↓eAndV_eq, ↓eOrV_eq, ↓eNotV_eq, ↓eIf_eq, ↓eChain, ↓aNil, ↓aCons, ↓lCons, ↓kCons, ↓sCons, ↓eTup_eq, ↓eLst_eq, ↓eLc_eq, ↓eLc2_eq, ↓iSeq_eq, ↓Cw.iEnum, ↓iZipD_eq, ↓iRng1D_eq, ↓iRng2D, ↓eLRg, ↓eTRg, ↓rg1_eq, ↓rg2, ↓eSl, ↓oNone, ↓oSome_eq, ↓eCallB, ↓getAll, ↓eCall, ↓callM, gather, scatter, muI, toRV, ↓eMake, ↓makeM, ↓eMeth_eq, ↓eFld_eq, ↓eMut_eq, ↓eMutG_eq, ↓eDnew, finR, muOf, List.set, ↓gN, ↓fstep, ↓gT, ↓gsCons, ↓gsNil, noMu, wipeE, ↓sPre_eq, ↓iPre_eq, ↓sFgt, ↓sFrz, fgt_nx, fgt_ct, fgt_rt, fgt_bk, fgt_exc, fgt_bad, frz_nx, frz_ct, frz_rt, frz_bk, frz_exc, frz_bad, frzE_nil, frzE_cons, ↓sRaise, ↓sTry, fixT, List.all_cons, List.all_nil, Bool.and_true, Bool.true_and, Bool.not_false, Bool.not_true, if_true, if_false, ite_true, ite_false, Bool.false_eq_true, reduceIte, reduceCtorEq, List.nodup_cons, List.nodup_nil, List.not_mem_nil, not_false_eq_true, and_self, and_true, true_and, List.mem_cons, List.mem_singleton, or_false, decide_true, decide_false, List.getElem?_cons_zero, List.getElem?_cons_succ, dEq_int, dNe_int, dEq_str, dCmp_int, dAdd_int, dSub_int, dInt_int, dAbs_int, dLen_lst, dLen_tup, dList_lst, dList_tup, dTuple_lst, dTuple_tup, dIxD_lst, dIxD_tup, dInD_lst, dInD_tup, gs_length, c3, hA, z3, outD]
  · rw [if_neg c]
    have c1 : ¬ (n : Int) = (m : Int) := by omega
    simp only [m_law_sum, g_law_sum, ↓fnOf, initE, List.replicate, List.length_cons, List.length_nil, List.cons_append, List.nil_append, Nat.sub_self, Nat.reduceSub, Nat.reduceAdd, ↓sSeq, ↓sIf_eq, ↓sSet, ↓sRet, ↓sRetN, ↓sExpr, ↓sNil, ↓sNever, ↓sFor, ↓sAsg, ↓sFldS, ↓sAugIx, ↓sSetIx, ↓putIx, ↓sPar2, ↓sPar3, ↓M.then, ↓bind_eq, ↓M.ret, ↓M.bad, ↓M.get, ↓M.esc, ↓M.arg, ↓M.nrm, ↓M.res, ↓M.wipe, look, getE, ↓put, isMu_eq, muB_none, muB_sh, muB_ow, muB_mu, ↓eVar, ↓eC, ↓eOp1, ↓eOp2, ↓eBool_eq, ↓eAnd_eq, ↓eOr_eq, ↓eNot, ↓eAndV_eq, ↓eOrV_eq, ↓eNotV_eq, ↓eIf_eq, ↓eChain, ↓aNil, ↓aCons, ↓lCons, ↓kCons, ↓sCons, ↓eTup_eq, ↓eLst_eq, ↓eLc_eq, ↓eLc2_eq, ↓iSeq_eq, ↓Cw.iEnum, ↓iZipD_eq, ↓iRng1D_eq, ↓iRng2D, ↓eLRg, ↓eTRg, ↓rg1_eq, ↓rg2, ↓eSl, ↓oNone, ↓oSome_eq, ↓eCallB, ↓getAll, ↓eCall, ↓callM, gather, scatter, muI, toRV, ↓eMake, ↓makeM, ↓eMeth_eq, ↓eFld_eq, ↓eMut_eq, ↓eMutG_eq, ↓eDnew, finR, muOf, List.set, ↓gN, ↓fstep, ↓gT, ↓gsCons, ↓gsNil, noMu, wipeE, ↓sPre_eq, ↓iPre_eq, ↓sFgt, ↓sFrz, fgt_nx, fgt_ct, fgt_rt, fgt_bk, fgt_exc, fgt_bad, frz_nx, frz_ct, frz_rt, frz_bk, frz_exc, frz_bad, frzE_nil, frzE_cons, ↓sRaise, ↓sTry, fixT, List.all_cons, List.all_nil, Bool.and_true, Bool.true_and, Bool.not_false, Bool.not_true, if_true, if_false, ite_true, ite_false, Bool.false_eq_true, reduceIte, reduceCtorEq, List.nodup_cons, List.nodup_nil, List.not_mem_nil, not_false_eq_true, and_self, and_true, true_and, List.mem_cons, List.mem_singleton, or_false, decide_true, decide_false, List.getElem?_cons_zero, List.getElem?_cons_succ, dEq_int, dNe_int, dEq_str, dCmp_int, dAdd_int, dSub_int, dInt_int, dAbs_int, dLen_lst, dLen_tup, dList_lst, dList_tup, dTuple_lst, dTuple_tup, dIxD_lst, dIxD_tup, dInD_lst, dInD_tup, c1, z2, outD]
theorem beside_ok {n m : Nat} {rs qs : List (List Int)} (hz : rs.length ≤ 7) (hz2 : qs.length ≤ 7) (hq : ∀ r, r ∈ qs → r.length ≤ 7) :
    m_law_beside a [.int (n : Int), .lst (gs rs), .int (m : Int), .lst (gs qs)] = .ok (false, outD (orO n rs m qs)) [] := by
  have hA := add_gsL (rs := rs) (qs := up n qs) hz (by rw [up_len]; exact hz2)
  unfold orO
  by_cases c1 : 7 < n + m
  · rw [if_pos (.inl c1)]
    have c3 : (7 : Int) < (n : Int) + (m : Int) := by omega
    simp only [m_law_beside, g_law_beside, ↓fnOf, initE, List.replicate, List.length_cons, List.length_nil, List.cons_append, List.nil_append, Nat.sub_self, Nat.reduceSub, Nat.reduceAdd, ↓sSeq, ↓sIf_eq, ↓sSet, ↓sRet, ↓sRetN, ↓sExpr, ↓sNil, ↓sNever, ↓sFor, ↓sAsg, ↓sFldS, ↓sAugIx, ↓sSetIx, ↓putIx, ↓sPar2, ↓sPar3, ↓M.then, ↓bind_eq, ↓M.ret, ↓M.bad, ↓M.get, ↓M.esc, ↓M.arg, ↓M.nrm, ↓M.res, ↓M.wipe, look, getE, ↓put, isMu_eq, muB_none, muB_sh, muB_ow, muB_mu, ↓eVar, ↓eC, ↓eOp1, ↓eOp2, ↓eBool_eq, ↓eAnd_eq, ↓eOr_eq, ↓eNot, ↓eAndV_eq, ↓eOrV_eq, ↓eNotV_eq, ↓eIf_eq, ↓eChain, ↓aNil, ↓aCons, ↓lCons, ↓kCons, ↓sCons, ↓eTup_eq, ↓eLst_eq, ↓eLc_eq, ↓eLc2_eq, ↓iSeq_eq, ↓Cw.iEnum, ↓iZipD_eq, ↓iRng1D_eq, ↓iRng2D, ↓eLRg, ↓eTRg, ↓rg1_eq, ↓rg2, ↓eSl, ↓oNone, ↓oSome_eq, ↓eCallB, ↓getAll, ↓eCall, ↓callM, gather, scatter, muI, toRV, ↓eMake, ↓makeM, ↓eMeth_eq, ↓eFld_eq, ↓eMut_eq, ↓eMutG_eq, ↓eDnew, finR, muOf, List.set, ↓gN, ↓fstep, ↓gT, ↓gsCons, ↓gsNil, noMu, wipeE, ↓sPre_eq, ↓iPre_eq, ↓sFgt, ↓sFrz, fgt_nx, fgt_ct, fgt_rt, fgt_bk, fgt_exc, fgt_bad, frz_nx, frz_ct, frz_rt, frz_bk, frz_exc, frz_bad, frzE_nil, frzE_cons, ↓sRaise, ↓sTry, fixT, List.all_cons, List.all_nil, Bool.and_true, Bool.true_and, Bool.not_false, Bool.not_true, if_true, if_false, ite_true, ite_false, Bool.false_eq_true, reduceIte, reduceCtorEq, List.nodup_cons, List.nodup_nil, List.not_mem_nil, not_false_eq_true, and_self, and_true, true_and, List.mem_cons, List.mem_singleton, or_false, decide_true, decide_false, List.getElem?_cons_zero, List.getElem?_cons_succ, dEq_int, dNe_int, dEq_str, dCmp_int, dAdd_int, dSub_int, dInt_int, dAbs_int, dLen_lst, dLen_tup, dList_lst, dList_tup, dTuple_lst, dTuple_tup, dIxD_lst, dIxD_tup, dInD_lst, dInD_tup, gs_length, c3, z2, outD]
  · have c3 : ¬ (7 : Int) < (n : Int) + (m : Int) := by omega
    by_cases c2 : 7 < rs.length + qs.length
    · rw [if_pos (.inr c2)]
      have c4 : (7 : Int) < (rs.length : Int) + (qs.length : Int) := by omega
      simp only [m_law_beside, g_law_beside, ↓fnOf, initE, List.replicate, List.length_cons, List.length_nil, List.cons_append, List.nil_append, Nat.sub_self, Nat.reduceSub, Nat.reduceAdd, ↓sSeq, ↓sIf_eq, ↓sSet, ↓sRet, ↓sRetN, ↓sExpr, ↓sNil, ↓sNever, ↓sFor, ↓sAsg, ↓sFldS, ↓sAugIx, ↓sSetIx, ↓putIx, ↓sPar2, ↓sPar3, ↓M.then, ↓bind_eq, ↓M.ret, ↓M.bad, ↓M.get, ↓M.esc, ↓M.arg, ↓M.nrm, ↓M.res, ↓M.wipe, look, getE, ↓put, isMu_eq, muB_none, muB_sh, muB_ow, muB_mu, ↓eVar, ↓eC, ↓eOp1, ↓eOp2, ↓eBool_eq, ↓eAnd_eq, ↓eOr_eq, ↓eNot, ↓eAndV_eq, ↓eOrV_eq, ↓eNotV_eq, ↓eIf_eq, ↓eChain, ↓aNil, ↓aCons, ↓lCons, ↓kCons, ↓sCons, ↓eTup_eq, ↓eLst_eq, ↓eLc_eq, ↓eLc2_eq, ↓iSeq_eq, ↓Cw.iEnum, ↓iZipD_eq, ↓iRng1D_eq, ↓iRng2D, ↓eLRg, ↓eTRg, ↓rg1_eq, ↓rg2, ↓eSl, ↓oNone, ↓oSome_eq, ↓eCallB, ↓getAll, ↓eCall, ↓callM, gather, scatter, muI, toRV, ↓eMake, ↓makeM, ↓eMeth_eq, ↓eFld_eq, ↓eMut_eq, ↓eMutG_eq, ↓eDnew, finR, muOf, List.set, ↓gN, ↓fstep, ↓gT, ↓gsCons, ↓gsNil, noMu, wipeE, ↓sPre_eq, ↓iPre_eq, ↓sFgt, ↓sFrz, fgt_nx, fgt_ct, fgt_rt, fgt_bk, fgt_exc, fgt_bad, frz_nx, frz_ct, frz_rt, frz_bk, frz_exc, frz_bad, frzE_nil, frzE_cons, ↓sRaise, ↓sTry, fixT, List.all_cons, List.all_nil, Bool.and_true, Bool.true_and, Bool.not_false, Bool.not_true, if_true, if_false, ite_true, ite_false, Bool.false_eq_true, reduceIte, reduceCtorEq, List.nodup_cons, List.nodup_nil, List.not_mem_nil, not_false_eq_true, and_self, and_true, true_and, List.mem_cons, List.mem_singleton, or_false, decide_true, decide_false, List.getElem?_cons_zero, List.getElem?_cons_succ, dEq_int, dNe_int, dEq_str, dCmp_int, dAdd_int, dSub_int, dInt_int, dAbs_int, dLen_lst, dLen_tup, dList_lst, dList_tup, dTuple_lst, dTuple_tup, dIxD_lst, dIxD_tup, dInD_lst, dInD_tup, gs_length, c3, c4, z2, outD]
    · rw [if_neg (fun z => z.elim c1 c2)]
      have c4 : ¬ (7 : Int) < (rs.length : Int) + (qs.length : Int) := by omega
      have en : ((n + m : Nat) : Int) = (n : Int) + (m : Int) := by omega
      have hl : lcL [5] (gN 5) eYes (v_law_beside_1 a) (gs qs) [some (Fl.sh, .int (n : Int)), some (Fl.sh, .lst (gs rs)), some (Fl.sh, .int (m : Int)), some (Fl.sh, .lst (gs qs)), none, none, none] = .ok (gs (up n qs)) [some (Fl.sh, .int (n : Int)), some (Fl.sh, .lst (gs rs)), some (Fl.sh, .int (m : Int)), some (Fl.sh, .lst (gs qs)), none, none, none] := by
        rw [lcG_map fun r => D.tup (ii (r.map (· + (n : Int)))), up_gs]
        intro r h
        refine ⟨_, rfl, rfl, rfl, ?_⟩
        have hz : (r.map fun i => D.int (i + (n : Int))).length ≤ sizeLine := szL (by have := hq r h; simp; omega)
        have e : (r.map fun i => D.int (i + (n : Int))) = ii (r.map (· + (n : Int))) := by simp [ii, List.map_map, Function.comp_def]
        simp only [v_law_beside_1, ↓fnOf, initE, List.replicate, List.length_cons, List.length_nil, List.cons_append, List.nil_append, Nat.sub_self, Nat.reduceSub, Nat.reduceAdd, ↓sSeq, ↓sIf_eq, ↓sSet, ↓sRet, ↓sRetN, ↓sExpr, ↓sNil, ↓sNever, ↓sFor, ↓sAsg, ↓sFldS, ↓sAugIx, ↓sSetIx, ↓putIx, ↓sPar2, ↓sPar3, ↓M.then, ↓bind_eq, ↓M.ret, ↓M.bad, ↓M.get, ↓M.esc, ↓M.arg, ↓M.nrm, ↓M.res, ↓M.wipe, look, getE, ↓put, isMu_eq, muB_none, muB_sh, muB_ow, muB_mu, ↓eVar, ↓eC, ↓eOp1, ↓eOp2, ↓eBool_eq, ↓eAnd_eq, ↓eOr_eq, ↓eNot, ↓eAndV_eq, ↓eOrV_eq, ↓eNotV_eq, ↓eIf_eq, ↓eChain, ↓aNil, ↓aCons, ↓lCons, ↓kCons, ↓sCons, ↓eTup_eq, ↓eLst_eq, ↓eLc_eq, ↓eLc2_eq, ↓iSeq_eq, ↓Cw.iEnum, ↓iZipD_eq, ↓iRng1D_eq, ↓iRng2D, ↓eLRg, ↓eTRg, ↓rg1_eq, ↓rg2, ↓eSl, ↓oNone, ↓oSome_eq, ↓eCallB, ↓getAll, ↓eCall, ↓callM, gather, scatter, muI, toRV, ↓eMake, ↓makeM, ↓eMeth_eq, ↓eFld_eq, ↓eMut_eq, ↓eMutG_eq, ↓eDnew, finR, muOf, List.set, ↓gN, ↓fstep, ↓gT, ↓gsCons, ↓gsNil, noMu, wipeE, ↓sPre_eq, ↓iPre_eq, ↓sFgt, ↓sFrz, fgt_nx, fgt_ct, fgt_rt, fgt_bk, fgt_exc, fgt_bad, frz_nx, frz_ct, frz_rt, frz_bk, frz_exc, frz_bad, frzE_nil, frzE_cons, ↓sRaise, ↓sTry, fixT, List.all_cons, List.all_nil, Bool.and_true, Bool.true_and, Bool.not_false, Bool.not_true, if_true, if_false, ite_true, ite_false, Bool.false_eq_true, reduceIte, reduceCtorEq, List.nodup_cons, List.nodup_nil, List.not_mem_nil, not_false_eq_true, and_self, and_true, true_and, List.mem_cons, List.mem_singleton, or_false, decide_true, decide_false, List.getElem?_cons_zero, List.getElem?_cons_succ, dEq_int, dNe_int, dEq_str, dCmp_int, dAdd_int, dSub_int, dInt_int, dAbs_int, dLen_lst, dLen_tup, dList_lst, dList_tup, dTuple_lst, dTuple_tup, dIxD_lst, dIxD_tup, dInD_lst, dInD_tup]
        rw [lcI_map fun i => D.int (i + (n : Int))]
        · simp only [↓fnOf, initE, List.replicate, List.length_cons, List.length_nil, List.cons_append, List.nil_append, Nat.sub_self, Nat.reduceSub, Nat.reduceAdd, ↓sSeq, ↓sIf_eq, ↓sSet, ↓sRet, ↓sRetN, ↓sExpr, ↓sNil, ↓sNever, ↓sFor, ↓sAsg, ↓sFldS, ↓sAugIx, ↓sSetIx, ↓putIx, ↓sPar2, ↓sPar3, ↓M.then, ↓bind_eq, ↓M.ret, ↓M.bad, ↓M.get, ↓M.esc, ↓M.arg, ↓M.nrm, ↓M.res, ↓M.wipe, look, getE, ↓put, isMu_eq, muB_none, muB_sh, muB_ow, muB_mu, ↓eVar, ↓eC, ↓eOp1, ↓eOp2, ↓eBool_eq, ↓eAnd_eq, ↓eOr_eq, ↓eNot, ↓eAndV_eq, ↓eOrV_eq, ↓eNotV_eq, ↓eIf_eq, ↓eChain, ↓aNil, ↓aCons, ↓lCons, ↓kCons, ↓sCons, ↓eTup_eq, ↓eLst_eq, ↓eLc_eq, ↓eLc2_eq, ↓iSeq_eq, ↓Cw.iEnum, ↓iZipD_eq, ↓iRng1D_eq, ↓iRng2D, ↓eLRg, ↓eTRg, ↓rg1_eq, ↓rg2, ↓eSl, ↓oNone, ↓oSome_eq, ↓eCallB, ↓getAll, ↓eCall, ↓callM, gather, scatter, muI, toRV, ↓eMake, ↓makeM, ↓eMeth_eq, ↓eFld_eq, ↓eMut_eq, ↓eMutG_eq, ↓eDnew, finR, muOf, List.set, ↓gN, ↓fstep, ↓gT, ↓gsCons, ↓gsNil, noMu, wipeE, ↓sPre_eq, ↓iPre_eq, ↓sFgt, ↓sFrz, fgt_nx, fgt_ct, fgt_rt, fgt_bk, fgt_exc, fgt_bad, frz_nx, frz_ct, frz_rt, frz_bk, frz_exc, frz_bad, frzE_nil, frzE_cons, ↓sRaise, ↓sTry, fixT, List.all_cons, List.all_nil, Bool.and_true, Bool.true_and, Bool.not_false, Bool.not_true, if_true, if_false, ite_true, ite_false, Bool.false_eq_true, reduceIte, reduceCtorEq, List.nodup_cons, List.nodup_nil, List.not_mem_nil, not_false_eq_true, and_self, and_true, true_and, List.mem_cons, List.mem_singleton, or_false, decide_true, decide_false, List.getElem?_cons_zero, List.getElem?_cons_succ, dEq_int, dNe_int, dEq_str, dCmp_int, dAdd_int, dSub_int, dInt_int, dAbs_int, dLen_lst, dLen_tup, dList_lst, dList_tup, dTuple_lst, dTuple_tup, dIxD_lst, dIxD_tup, dInD_lst, dInD_tup, hz]
          rw [e]
        · intro i hi
          refine ⟨_, rfl, rfl, rfl, ?_⟩
          simp only [v_law_beside_0, ↓fnOf, initE, List.replicate, List.length_cons, List.length_nil, List.cons_append, List.nil_append, Nat.sub_self, Nat.reduceSub, Nat.reduceAdd, ↓sSeq, ↓sIf_eq, ↓sSet, ↓sRet, ↓sRetN, ↓sExpr, ↓sNil, ↓sNever, ↓sFor, ↓sAsg, ↓sFldS, ↓sAugIx, ↓sSetIx, ↓putIx, ↓sPar2, ↓sPar3, ↓M.then, ↓bind_eq, ↓M.ret, ↓M.bad, ↓M.get, ↓M.esc, ↓M.arg, ↓M.nrm, ↓M.res, ↓M.wipe, look, getE, ↓put, isMu_eq, muB_none, muB_sh, muB_ow, muB_mu, ↓eVar, ↓eC, ↓eOp1, ↓eOp2, ↓eBool_eq, ↓eAnd_eq, ↓eOr_eq, ↓eNot, ↓eAndV_eq, ↓eOrV_eq, ↓eNotV_eq, ↓eIf_eq, ↓eChain, ↓aNil, ↓aCons, ↓lCons, ↓kCons, ↓sCons, ↓eTup_eq, ↓eLst_eq, ↓eLc_eq, ↓eLc2_eq, ↓iSeq_eq, ↓Cw.iEnum, ↓iZipD_eq, ↓iRng1D_eq, ↓iRng2D, ↓eLRg, ↓eTRg, ↓rg1_eq, ↓rg2, ↓eSl, ↓oNone, ↓oSome_eq, ↓eCallB, ↓getAll, ↓eCall, ↓callM, gather, scatter, muI, toRV, ↓eMake, ↓makeM, ↓eMeth_eq, ↓eFld_eq, ↓eMut_eq, ↓eMutG_eq, ↓eDnew, finR, muOf, List.set, ↓gN, ↓fstep, ↓gT, ↓gsCons, ↓gsNil, noMu, wipeE, ↓sPre_eq, ↓iPre_eq, ↓sFgt, ↓sFrz, fgt_nx, fgt_ct, fgt_rt, fgt_bk, fgt_exc, fgt_bad, frz_nx, frz_ct, frz_rt, frz_bk, frz_exc, frz_bad, frzE_nil, frzE_cons, ↓sRaise, ↓sTry, fixT, List.all_cons, List.all_nil, Bool.and_true, Bool.true_and, Bool.not_false, Bool.not_true, if_true, if_false, ite_true, ite_false, Bool.false_eq_true, reduceIte, reduceCtorEq, List.nodup_cons, List.nodup_nil, List.not_mem_nil, not_false_eq_true, and_self, and_true, true_and, List.mem_cons, List.mem_singleton, or_false, decide_true, decide_false, List.getElem?_cons_zero, List.getElem?_cons_succ, dEq_int, dNe_int, dEq_str, dCmp_int, dAdd_int, dSub_int, dInt_int, dAbs_int, dLen_lst, dLen_tup, dList_lst, dList_tup, dTuple_lst, dTuple_tup, dIxD_lst, dIxD_tup, dInD_lst, dInD_tup]
      have hgz : (up n qs).length ≤ sizeLine := szL (by rw [up_len]; omega)
      simp only [m_law_beside, g_law_beside, ↓fnOf, initE, List.replicate, List.length_cons, List.length_nil, List.cons_append, List.nil_append, Nat.sub_self, Nat.reduceSub, Nat.reduceAdd, ↓sSeq, ↓sIf_eq, ↓sSet, ↓sRet, ↓sRetN, ↓sExpr, ↓sNil, ↓sNever, ↓sFor, ↓sAsg, ↓sFldS, ↓sAugIx, ↓sSetIx, ↓putIx, ↓sPar2, ↓sPar3, ↓M.then, ↓bind_eq, ↓M.ret, ↓M.bad, ↓M.get, ↓M.esc, ↓M.arg, ↓M.nrm, ↓M.res, ↓M.wipe, look, getE, ↓put, isMu_eq, muB_none, muB_sh, muB_ow, muB_mu, ↓eVar, ↓eC, ↓eOp1, ↓eOp2, ↓eBool_eq, ↓eAnd_eq, ↓eOr_eq, ↓eNot, ↓eAndV_eq, ↓eOrV_eq, ↓eNotV_eq, ↓eIf_eq, ↓eChain, ↓aNil, ↓aCons, ↓lCons, ↓kCons, ↓sCons, ↓eTup_eq, ↓eLst_eq, ↓eLc_eq, ↓eLc2_eq, ↓iSeq_eq, ↓Cw.iEnum, ↓iZipD_eq, ↓iRng1D_eq, ↓iRng2D, ↓eLRg, ↓eTRg, ↓rg1_eq, ↓rg2, ↓eSl, ↓oNone, ↓oSome_eq, ↓eCallB, ↓getAll, ↓eCall, ↓callM, gather, scatter, muI, toRV, ↓eMake, ↓makeM, ↓eMeth_eq, ↓eFld_eq, ↓eMut_eq, ↓eMutG_eq, ↓eDnew, finR, muOf, List.set, ↓gN, ↓fstep, ↓gT, ↓gsCons, ↓gsNil, noMu, wipeE, ↓sPre_eq, ↓iPre_eq, ↓sFgt, ↓sFrz, fgt_nx, fgt_ct, fgt_rt, fgt_bk, fgt_exc, fgt_bad, frz_nx, frz_ct, frz_rt, frz_bk, frz_exc, frz_bad, frzE_nil, frzE_cons, ↓sRaise, ↓sTry, fixT, List.all_cons, List.all_nil, Bool.and_true, Bool.true_and, Bool.not_false, Bool.not_true, if_true, if_false, ite_true, ite_false, Bool.false_eq_true, reduceIte, reduceCtorEq, List.nodup_cons, List.nodup_nil, List.not_mem_nil, not_false_eq_true, and_self, and_true, true_and, List.mem_cons, List.mem_singleton, or_false, decide_true, decide_false, List.getElem?_cons_zero, List.getElem?_cons_succ, dEq_int, dNe_int, dEq_str, dCmp_int, dAdd_int, dSub_int, dInt_int, dAbs_int, dLen_lst, dLen_tup, dList_lst, dList_tup, dTuple_lst, dTuple_tup, dIxD_lst, dIxD_tup, dInD_lst, dInD_tup, gs_length, c3, c4, ↓hl, hgz, hA, z3, outD, en]
theorem rep_min {c : Nat} {rs : List (List Int)} (h : rs.length * c ≤ 7) : (List.replicate (if 7 < c then 7 else c) rs).flatten = (List.replicate c rs).flatten := by
  split
  · rename_i h7
    have : rs = [] := by
      cases rs with
      | nil => rfl
      | cons x xs =>
        exfalso
        have : 1 * c ≤ (x :: xs).length * c := Nat.mul_le_mul_right c (by simp)
        omega
    subst this
    simp
  · rfl
theorem repeated_ok {n c : Nat} {rs : List (List Int)} (hz : rs.length ≤ 7) (hc : c ≤ 1000) :
    m_law_repeated a [.int (n : Int), .lst (gs rs), .int (c : Int)] = .ok (false, outD (mulO n rs c)) [] := by
  unfold mulO
  have h1 := mul_len rs hc
  by_cases c1 : 7 < rs.length * c
  · rw [if_pos c1]
    have c3 : (7 : Int) < (rs.length : Int) * (c : Int) := by rw [← Int.natCast_mul]; omega
    simp only [m_law_repeated, g_law_repeated, ↓fnOf, initE, List.replicate, List.length_cons, List.length_nil, List.cons_append, List.nil_append, Nat.sub_self, Nat.reduceSub, Nat.reduceAdd, ↓sSeq, ↓sIf_eq, ↓sSet, ↓sRet, ↓sRetN, ↓sExpr, ↓sNil, ↓sNever, ↓sFor, ↓sAsg, ↓sFldS, ↓sAugIx, ↓sSetIx, ↓putIx, ↓sPar2, ↓sPar3, ↓M.then, ↓bind_eq, ↓M.ret, ↓M.bad, ↓M.get, ↓M.esc, ↓M.arg, ↓M.nrm, ↓M.res, ↓M.wipe, look, getE, ↓put, isMu_eq, muB_none, muB_sh, muB_ow, muB_mu, ↓eVar, ↓eC, ↓eOp1, ↓eOp2, ↓eBool_eq, ↓eAnd_eq, ↓eOr_eq, ↓eNot, ↓eAndV_eq, ↓eOrV_eq, ↓eNotV_eq, ↓eIf_eq, ↓eChain, ↓aNil, ↓aCons, ↓lCons, ↓kCons, ↓sCons, ↓eTup_eq, ↓eLst_eq, ↓eLc_eq, ↓eLc2_eq, ↓iSeq_eq, ↓Cw.iEnum, ↓iZipD_eq, ↓iRng1D_eq, ↓iRng2D, ↓eLRg, ↓eTRg, ↓rg1_eq, ↓rg2, ↓eSl, ↓oNone, ↓oSome_eq, ↓eCallB, ↓getAll, ↓eCall, ↓callM, gather, scatter, muI, toRV, ↓eMake, ↓makeM, ↓eMeth_eq, ↓eFld_eq, ↓eMut_eq, ↓eMutG_eq, ↓eDnew, finR, muOf, List.set, ↓gN, ↓fstep, ↓gT, ↓gsCons, ↓gsNil, noMu, wipeE, ↓sPre_eq, ↓iPre_eq, ↓sFgt, ↓sFrz, fgt_nx, fgt_ct, fgt_rt, fgt_bk, fgt_exc, fgt_bad, frz_nx, frz_ct, frz_rt, frz_bk, frz_exc, frz_bad, frzE_nil, frzE_cons, ↓sRaise, ↓sTry, fixT, List.all_cons, List.all_nil, Bool.and_true, Bool.true_and, Bool.not_false, Bool.not_true, if_true, if_false, ite_true, ite_false, Bool.false_eq_true, reduceIte, reduceCtorEq, List.nodup_cons, List.nodup_nil, List.not_mem_nil, not_false_eq_true, and_self, and_true, true_and, List.mem_cons, List.mem_singleton, or_false, decide_true, decide_false, List.getElem?_cons_zero, List.getElem?_cons_succ, dEq_int, dNe_int, dEq_str, dCmp_int, dAdd_int, dSub_int, dInt_int, dAbs_int, dLen_lst, dLen_tup, dList_lst, dList_tup, dTuple_lst, dTuple_tup, dIxD_lst, dIxD_tup, dInD_lst, dInD_tup, gs_length, h1, c3, z2, outD]
  · rw [if_neg c1]
    have c3 : ¬ (7 : Int) < (rs.length : Int) * (c : Int) := by rw [← Int.natCast_mul]; omega
    have hm : dMin2 [.int (c : Int), .int 7] = some (false, .int (((if 7 < c then 7 else c) : Nat) : Int)) := by
      unfold dMin2
      simp only
      by_cases q : 7 < c
      · rw [if_pos (by omega), if_pos q]; rfl
      · rw [if_neg (by omega), if_neg q]
    have hM : dMul (.lst (gs rs)) (.int (((if 7 < c then 7 else c) : Nat) : Int)) = some (true, .lst (gs (List.replicate c rs).flatten)) := by
      rw [← rep_min (c := c) (rs := rs) (by omega)]
      generalize hk : (if 7 < c then 7 else c) = k
      have k7 : k ≤ 7 := by rw [← hk]; split <;> omega
      rw [dMul_lst _ _ (by omega) (by rw [gs_length]; exact Nat.le_trans (Nat.mul_le_mul hz k7) (by decide)), gs_rep]
    simp only [m_law_repeated, g_law_repeated, ↓fnOf, initE, List.replicate, List.length_cons, List.length_nil, List.cons_append, List.nil_append, Nat.sub_self, Nat.reduceSub, Nat.reduceAdd, ↓sSeq, ↓sIf_eq, ↓sSet, ↓sRet, ↓sRetN, ↓sExpr, ↓sNil, ↓sNever, ↓sFor, ↓sAsg, ↓sFldS, ↓sAugIx, ↓sSetIx, ↓putIx, ↓sPar2, ↓sPar3, ↓M.then, ↓bind_eq, ↓M.ret, ↓M.bad, ↓M.get, ↓M.esc, ↓M.arg, ↓M.nrm, ↓M.res, ↓M.wipe, look, getE, ↓put, isMu_eq, muB_none, muB_sh, muB_ow, muB_mu, ↓eVar, ↓eC, ↓eOp1, ↓eOp2, ↓eBool_eq, ↓eAnd_eq, ↓eOr_eq, ↓eNot, ↓eAndV_eq, ↓eOrV_eq, ↓eNotV_eq, ↓eIf_eq, ↓eChain, ↓aNil, ↓aCons, ↓lCons, ↓kCons, ↓sCons, ↓eTup_eq, ↓eLst_eq, ↓eLc_eq, ↓eLc2_eq, ↓iSeq_eq, ↓Cw.iEnum, ↓iZipD_eq, ↓iRng1D_eq, ↓iRng2D, ↓eLRg, ↓eTRg, ↓rg1_eq, ↓rg2, ↓eSl, ↓oNone, ↓oSome_eq, ↓eCallB, ↓getAll, ↓eCall, ↓callM, gather, scatter, muI, toRV, ↓eMake, ↓makeM, ↓eMeth_eq, ↓eFld_eq, ↓eMut_eq, ↓eMutG_eq, ↓eDnew, finR, muOf, List.set, ↓gN, ↓fstep, ↓gT, ↓gsCons, ↓gsNil, noMu, wipeE, ↓sPre_eq, ↓iPre_eq, ↓sFgt, ↓sFrz, fgt_nx, fgt_ct, fgt_rt, fgt_bk, fgt_exc, fgt_bad, frz_nx, frz_ct, frz_rt, frz_bk, frz_exc, frz_bad, frzE_nil, frzE_cons, ↓sRaise, ↓sTry, fixT, List.all_cons, List.all_nil, Bool.and_true, Bool.true_and, Bool.not_false, Bool.not_true, if_true, if_false, ite_true, ite_false, Bool.false_eq_true, reduceIte, reduceCtorEq, List.nodup_cons, List.nodup_nil, List.not_mem_nil, not_false_eq_true, and_self, and_true, true_and, List.mem_cons, List.mem_singleton, or_false, decide_true, decide_false, List.getElem?_cons_zero, List.getElem?_cons_succ, dEq_int, dNe_int, dEq_str, dCmp_int, dAdd_int, dSub_int, dInt_int, dAbs_int, dLen_lst, dLen_tup, dList_lst, dList_tup, dTuple_lst, dTuple_tup, dIxD_lst, dIxD_tup, dInD_lst, dInD_tup, gs_length, h1, c3, hm, hM, z3, outD]
/-! ### drawn numbers -/
theorem take_nat {x y z : Int} {cs : List Int} {many : Nat} (h : BagOk x y z cs) (hm : 0 < many) (hm2 : many < 1073741824) :
    ∃ (v : Nat) (x' y' z' : Int), m_law_take a [bagD x y z cs, .int (many : Int)] = .ok (false, .int (v : Int)) [bagD x' y' z' cs] ∧ v < many ∧ BagOk x' y' z' cs := by
  obtain ⟨v, x', y', z', t1, v0, v1, b1⟩ := take_ok a h (many := (many : Int)) (by omega) (by omega)
  obtain ⟨k, rfl⟩ := Int.eq_ofNat_of_zero_le v0
  exact ⟨k, x', y', z', t1, by omega, b1⟩
theorem one_nat {x y z : Int} {cs : List Int} {l : List Nat} (h : BagOk x y z cs) (hx : 0 < l.length) (hx2 : l.length < 1073741824) :
    ∃ (v : Nat) (x' y' z' : Int), m_law_one a [bagD x y z cs, .lst (l.map fun n : Nat => D.int (n : Int))] = .ok (false, .int (v : Int)) [bagD x' y' z' cs] ∧ v ∈ l ∧ BagOk x' y' z' cs := by
  obtain ⟨d, x', y', z', h1, h2, h3⟩ := one_s a (xs := l.map fun n : Nat => D.int (n : Int)) h (by simpa using hx) (by simpa using hx2)
  obtain ⟨v, hv, rfl⟩ := List.mem_map.mp h2
  exact ⟨v, x', y', z', h1, hv, h3⟩
end Cw

namespace Cw
open PySem L2
theorem z5 : 5 ≤ sizeLine := by decide
theorem z9 : 9 ≤ sizeLine := by decide
theorem in62_2 : in62 2 = true := in62_nat 2 (by omega)
theorem to_2 : (2 : Int).toNat = 2 := rfl
theorem rgI_2 : ii (rg 2) = [.int 0, .int 1] := rfl
theorem mul_one_two (d : D) : dMul (.lst [d]) (.int 2) = some (true, .lst [d, d]) :=
  dMul_lst [d] 2 (by decide) (show 1 * 2 ≤ sizeLine by decide)
theorem add_one_one (d e : D) : dAdd (.lst [d]) (.lst [e]) = some (true, .lst [d, e]) := by
  have h : [d].length + [e].length ≤ sizeLine := (show 1 + 1 ≤ sizeLine by decide)
  unfold dAdd
  simp only [h, if_true]
  rfl
noncomputable def tl17 (a : Nat → Addr) : S :=
    (sSeq (sPar2 6 7 (eCall [true, false, false] (m_law_jobs a) (kCons (eVar 1) (sCons (eVar 3) (sCons (eVar 4) aNil)))) (eCall [true, false, false] (m_law_jobs a) (kCons (eVar 1) (sCons (eVar 5) (sCons (eCall [true, false] (m_law_one a) (kCons (eVar 1) (sCons (eLst (lCons (eC (.int 2)) (lCons (eC (.int 3)) (lCons (eC (.int 5)) (lCons (eC (.int 7)) aNil))))) aNil))) aNil)))))
    (sSeq (sPar2 8 9 (eMake (a 0) [false, false] (m_Jobs_UinitU a) (sCons (eVar 3) (sCons (eCallB dList (aCons (eVar 6) aNil)) aNil))) (eMake (a 0) [false, false] (m_Jobs_UinitU a) (sCons (eVar 5) (sCons (eCallB dList (aCons (eVar 7) aNil)) aNil))))
    (sFor (iPre [0, 2, 4, 10, 11, 12, 13] [3, 5, 6, 7, 8, 9] (iRng1D (aCons (eC (.int 2)) aNil))) (gN 10) (b_lawK17_0 a))))
theorem b17_eq (a : Nat → Addr) : b_lawK17_1 a = sFrz [] (sFgt [0, 2, 3, 4, 5, 6, 7, 8, 9, 10, 11, 12, 13] (sSeq (sPar2 3 4 (eCall [true, false] (m_law_take a) (kCons (eVar 1) (sCons (eC (.int 8)) aNil))) (eCall [true, false] (m_law_one a) (kCons (eVar 1) (sCons (eLst (lCons (eC (.int 2)) (lCons (eC (.int 3)) (lCons (eC (.int 4)) (lCons (eC (.int 5)) (lCons (eC (.int 7)) aNil)))))) aNil))))
    (sSeq (sSet 5 (eVar 3))
    (sSeq (sIf (eBool (eOp2 (dEq false) (eCall [true, false] (m_law_take a) (kCons (eVar 1) (sCons (eC (.int 2)) aNil))) (eC (.int 0)))) (sSet 5 (eCall [true, false] (m_law_take a) (kCons (eVar 1) (sCons (eC (.int 8)) aNil)))) sNil)
    (tl17 a))))) := rfl
variable (a : Nat → Addr)
theorem alike_outs {o1 o2 : Jn} (h1 : o1.Ok) (h2 : o2.Ok) : m_law_alike a [.lst [outD o1, outD o2], .lst [outD o1, outD o2]] = .ok (false, .bl true) [] :=
  alike_same a ((NiceL.cons (Jn.nice h1) (NiceL.cons (Jn.nice h2) NiceL.nil)).lst) (by decide) (by decide)
section
variable (hd : [a 20, a 21, a 22, a 23, a 24].Nodup)
include hd
theorem step17 {x y z : Int} {cs : List Int} {n m : Nat} {rs qs : List (List Int)} {d : D} (hb : BagOk x y z cs) (hn : n ≤ 7) (hm : m ≤ 7) (hr : ∀ r, r ∈ rs → Row n r) (hq : ∀ r, r ∈ qs → Row m r) (hz : rs.length ≤ 7) (hz2 : qs.length ≤ 7) :
    ∃ x' y' z', fstep (gN 10) (b_lawK17_0 a) d [none, some (Fl.ow, bagD x y z cs), none, some (Fl.sh, .int (n : Int)), none, some (Fl.sh, .int (m : Int)), some (Fl.sh, .lst (gs rs)), some (Fl.sh, .lst (gs qs)), some (Fl.sh, job a n rs), some (Fl.sh, job a m qs), none, none, none, none] = .nx [none, some (Fl.ow, bagD x' y' z' cs), none, some (Fl.sh, .int (n : Int)), none, some (Fl.sh, .int (m : Int)), some (Fl.sh, .lst (gs rs)), some (Fl.sh, .lst (gs qs)), some (Fl.sh, job a n rs), some (Fl.sh, job a m qs), none, none, none, none] ∧ BagOk x' y' z' cs := by
  have hq7 : ∀ r, r ∈ qs → r.length ≤ 7 := fun r h => by have := (hq r h).len; omega
  have hr7 : ∀ r, r ∈ rs → r.length ≤ 7 := fun r h => by have := (hr r h).len; omega
  have a1 := told_add a hd hn hr hq hz hz2
  have a2 := told_add a hd hm hq hr hz2 hz
  have a3 := told_add a hd hn hr hr hz hz
  have s1 := sum_ok a (n := n) (m := m) hz hz2
  have s2 := sum_ok a (n := m) (m := n) hz2 hz
  have s3 := sum_ok a (n := n) (m := n) hz hz
  have o1 := told_or a hd hm hr hq hz hz2
  have o2 := told_or a hd hn hq hr hz2 hz
  have o3 := told_or a hd hn hr hr hz hz
  have w1 := beside_ok a (n := n) (m := m) hz hz2 hq7
  have w2 := beside_ok a (n := m) (m := n) hz2 hz hr7
  have w3 := beside_ok a (n := n) (m := n) hz hz hr7
  obtain ⟨v, x1, y1, z1', t1, v1, b1⟩ := take_nat a hb (many := 1001) (by decide) (by decide)
  have t1 : m_law_take a [bagD x y z cs, .int 1001] = _ := t1
  obtain ⟨c, x2, y2, z2', t2, c2, b2⟩ := one_nat a (l := [0, 1, 2, 3, 4, 7, 8, 1000, v]) b1 (by simp) (by simp)
  have t2 : m_law_one a [bagD x1 y1 z1' cs, .lst [.int 0, .int 1, .int 2, .int 3, .int 4, .int 7, .int 8, .int 1000, .int (v : Int)]] = _ := t2
  have hc : c ≤ 1000 := by
    simp only [List.mem_cons, List.not_mem_nil, or_false] at c2
    omega
  obtain ⟨m1, m2⟩ := told_mul a hd hn hr hz hc
  have r1 := repeated_ok a (n := n) hz hc
  have l1 := alike_outs a (addO_ok hn hr hq) (addO_ok hm hq hr)
  have l2 := alike_outs a (orO_ok hr hq) (orO_ok hq hr)
  have l3 := alike_outs a (mulO_ok (c := c) hn hr) (mulO_ok (c := c) hn hr)
  have l4 := alike_outs a (addO_ok hn hr hr) (orO_ok hr hr)
  have l5 := alike_same a (d := .tup [.int (n : Int), .tup (gs rs), .int (m : Int), .tup (gs qs)]) ((NiceL.cons (Nice.int (i := (n : Int)) (by omega)) (NiceL.cons (rows_nice hr (by omega)).tup (NiceL.cons (Nice.int (i := (m : Int)) (by omega)) (NiceL.cons (rows_nice hq (by omega)).tup NiceL.nil)))).tup) (by decide) (by
    have h1 : rs.length * (n * 42 + 1) ≤ 7 * (7 * 42 + 1) := Nat.mul_le_mul hz (by omega)
    have h2 : qs.length * (m * 42 + 1) ≤ 7 * (7 * 42 + 1) := Nat.mul_le_mul hz2 (by omega)
    omega)
  unfold job at a1 a2 a3 o1 o2 o3 m1 m2
  refine ⟨x2, y2, z2', ?_, b2⟩
  simp only [b_lawK17_0, job, ↓fnOf, initE, List.replicate, List.length_cons, List.length_nil, List.cons_append, List.nil_append, Nat.sub_self, Nat.reduceSub, Nat.reduceAdd, ↓sSeq, ↓sIf_eq, ↓sSet, ↓sRet, ↓sRetN, ↓sExpr, ↓sNil, ↓sNever, ↓sFor, ↓sAsg, ↓sFldS, ↓sAugIx, ↓sSetIx, ↓putIx, ↓sPar2, ↓sPar3, ↓M.then, ↓bind_eq, ↓M.ret, ↓M.bad, ↓M.get, ↓M.esc, ↓M.arg, ↓M.nrm, ↓M.res, ↓M.wipe, look, getE, ↓put, isMu_eq, muB_none, muB_sh, muB_ow, muB_mu, ↓eVar, ↓eC, ↓eOp1, ↓eOp2, ↓eBool_eq, ↓eAnd_eq, ↓eOr_eq, ↓eNot, ↓eAndV_eq, ↓eOrV_eq, ↓eNotV_eq, ↓eIf_eq, ↓eChain, ↓aNil, ↓aCons, ↓lCons, ↓kCons, ↓sCons, ↓eTup_eq, ↓eLst_eq, ↓eLc_eq, ↓eLc2_eq, ↓iSeq_eq, ↓Cw.iEnum, ↓iZipD_eq, ↓iRng1D_eq, ↓iRng2D, ↓eLRg, ↓eTRg, ↓rg1_eq, ↓rg2, ↓eSl, ↓oNone, ↓oSome_eq, ↓eCallB, ↓getAll, ↓eCall, ↓callM, gather, scatter, muI, toRV, ↓eMake, ↓makeM, ↓eMeth_eq, ↓eFld_eq, ↓eMut_eq, ↓eMutG_eq, ↓eDnew, finR, muOf, List.set, ↓gN, ↓fstep, ↓gT, ↓gsCons, ↓gsNil, noMu, wipeE, ↓sPre_eq, ↓iPre_eq, ↓sFgt, ↓sFrz, fgt_nx, fgt_ct, fgt_rt, fgt_bk, fgt_exc, fgt_bad, frz_nx, frz_ct, frz_rt, frz_bk, frz_exc, frz_bad, frzE_nil, frzE_cons, ↓sRaise, ↓sTry, fixT, List.all_cons, List.all_nil, Bool.and_true, Bool.true_and, Bool.not_false, Bool.not_true, if_true, if_false, ite_true, ite_false, Bool.false_eq_true, reduceIte, reduceCtorEq, List.nodup_cons, List.nodup_nil, List.not_mem_nil, not_false_eq_true, and_self, and_true, true_and, List.mem_cons, List.mem_singleton, or_false, decide_true, decide_false, List.getElem?_cons_zero, List.getElem?_cons_succ, dEq_int, dNe_int, dEq_str, dCmp_int, dAdd_int, dSub_int, dInt_int, dAbs_int, dLen_lst, dLen_tup, dList_lst, dList_tup, dTuple_lst, dTuple_tup, dIxD_lst, dIxD_tup, dInD_lst, dInD_tup, a1, a2, a3, s1, s2, s3, o1, o2, o3, w1, w2, w3, t1, t2, m1, m2, r1, l1, l2, l3, l4, l5, z1, z2, z4, z9, mul_one_two, add_one_one, fld_size, fld_jobs]
theorem tail17 {x y z : Int} {cs : List Int} {d : D} {n m k : Nat} (hb : BagOk x y z cs) (hn : n ≤ 7) (hm : m ≤ 7) (hk : k ≤ 7) :
    ∃ x' y' z' rs qs, tl17 a [none, some (Fl.ow, bagD x y z cs), some (Fl.sh, d), some (Fl.sh, .int (n : Int)), some (Fl.sh, .int (k : Int)), some (Fl.sh, .int (m : Int)), none, none, none, none, none, none, none, none] = .nx [none, some (Fl.ow, bagD x' y' z' cs), none, some (Fl.sh, .int (n : Int)), none, some (Fl.sh, .int (m : Int)), some (Fl.sh, .lst (gs rs)), some (Fl.sh, .lst (gs qs)), some (Fl.sh, job a n rs), some (Fl.sh, job a m qs), none, none, none, none] ∧ BagOk x' y' z' cs := by
  obtain ⟨rs, x1, y1, z1', t1, hl1, hr1, b1⟩ := jobs_ok a hb hn hk
  obtain ⟨k2, x2, y2, z2', t2, hk2, b2⟩ := one_nat a (l := [2, 3, 5, 7]) b1 (by decide) (by decide)
  have t2 : m_law_one a [bagD x1 y1 z1' cs, .lst [.int 2, .int 3, .int 5, .int 7]] = _ := t2
  have hk2 : k2 ≤ 7 := by simp only [List.mem_cons, List.not_mem_nil, or_false] at hk2; omega
  obtain ⟨qs, x3, y3, z3', t3, hl3, hr3, b3⟩ := jobs_ok a b2 hm hk2
  have i1 := init_ok a hn (by omega : rs.length ≤ 7) hr1
  have i2 := init_ok a hm (by omega : qs.length ≤ 7) hr3
  obtain ⟨e', hL, x4, y4, z4', b4, rfl⟩ := forS_all (a := gN 10) (b := b_lawK17_0 a) (fun e => ∃ x y z, BagOk x y z cs ∧ e = [none, some (Fl.ow, bagD x y z cs), none, some (Fl.sh, .int (n : Int)), none, some (Fl.sh, .int (m : Int)), some (Fl.sh, .lst (gs rs)), some (Fl.sh, .lst (gs qs)), some (Fl.sh, job a n rs), some (Fl.sh, job a m qs), none, none, none, none]) (ds := [.int 0, .int 1]) (e := [none, some (Fl.ow, bagD x3 y3 z3' cs), none, some (Fl.sh, .int (n : Int)), none, some (Fl.sh, .int (m : Int)), some (Fl.sh, .lst (gs rs)), some (Fl.sh, .lst (gs qs)), some (Fl.sh, job a n rs), some (Fl.sh, job a m qs), none, none, none, none]) ⟨x3, y3, z3', b3, rfl⟩ (by
    rintro d e hd2 ⟨x, y, z, hb, rfl⟩
    obtain ⟨x', y', z', h1, h2⟩ := step17 a hd (d := d) hb hn hm hr1 hr3 (by omega) (by omega)
    exact ⟨_, h1, x', y', z', h2, rfl⟩)
  refine ⟨x4, y4, z4', rs, qs, ?_, b4⟩
  simp only [tl17, ↓fnOf, initE, List.replicate, List.length_cons, List.length_nil, List.cons_append, List.nil_append, Nat.sub_self, Nat.reduceSub, Nat.reduceAdd, ↓sSeq, ↓sIf_eq, ↓sSet, ↓sRet, ↓sRetN, ↓sExpr, ↓sNil, ↓sNever, ↓sFor, ↓sAsg, ↓sFldS, ↓sAugIx, ↓sSetIx, ↓putIx, ↓sPar2, ↓sPar3, ↓M.then, ↓bind_eq, ↓M.ret, ↓M.bad, ↓M.get, ↓M.esc, ↓M.arg, ↓M.nrm, ↓M.res, ↓M.wipe, look, getE, ↓put, isMu_eq, muB_none, muB_sh, muB_ow, muB_mu, ↓eVar, ↓eC, ↓eOp1, ↓eOp2, ↓eBool_eq, ↓eAnd_eq, ↓eOr_eq, ↓eNot, ↓eAndV_eq, ↓eOrV_eq, ↓eNotV_eq, ↓eIf_eq, ↓eChain, ↓aNil, ↓aCons, ↓lCons, ↓kCons, ↓sCons, ↓eTup_eq, ↓eLst_eq, ↓eLc_eq, ↓eLc2_eq, ↓iSeq_eq, ↓Cw.iEnum, ↓iZipD_eq, ↓iRng1D_eq, ↓iRng2D, ↓eLRg, ↓eTRg, ↓rg1_eq, ↓rg2, ↓eSl, ↓oNone, ↓oSome_eq, ↓eCallB, ↓getAll, ↓eCall, ↓callM, gather, scatter, muI, toRV, ↓eMake, ↓makeM, ↓eMeth_eq, ↓eFld_eq, ↓eMut_eq, ↓eMutG_eq, ↓eDnew, finR, muOf, List.set, ↓gN, ↓fstep, ↓gT, ↓gsCons, ↓gsNil, noMu, wipeE, ↓sPre_eq, ↓iPre_eq, ↓sFgt, ↓sFrz, fgt_nx, fgt_ct, fgt_rt, fgt_bk, fgt_exc, fgt_bad, frz_nx, frz_ct, frz_rt, frz_bk, frz_exc, frz_bad, frzE_nil, frzE_cons, ↓sRaise, ↓sTry, fixT, List.all_cons, List.all_nil, Bool.and_true, Bool.true_and, Bool.not_false, Bool.not_true, if_true, if_false, ite_true, ite_false, Bool.false_eq_true, reduceIte, reduceCtorEq, List.nodup_cons, List.nodup_nil, List.not_mem_nil, not_false_eq_true, and_self, and_true, true_and, List.mem_cons, List.mem_singleton, or_false, decide_true, decide_false, List.getElem?_cons_zero, List.getElem?_cons_succ, dEq_int, dNe_int, dEq_str, dCmp_int, dAdd_int, dSub_int, dInt_int, dAbs_int, dLen_lst, dLen_tup, dList_lst, dList_tup, dTuple_lst, dTuple_tup, dIxD_lst, dIxD_tup, dInD_lst, dInD_tup, t1, t2, t3, z4, i1, i2, in62_2, to_2, rangeD_rg, rgI_2, ↓hL]
theorem turn17 {x y z : Int} {cs : List Int} {d : D} (hb : BagOk x y z cs) :
    ∃ x' y' z', fstep (gN 2) (b_lawK17_1 a) d [none, some (Fl.ow, bagD x y z cs), none, none, none, none, none, none, none, none, none, none, none, none] = .nx [none, some (Fl.ow, bagD x' y' z' cs), none, none, none, none, none, none, none, none, none, none, none, none] ∧ BagOk x' y' z' cs := by
  obtain ⟨n, x1, y1, z1', t1, n1, b1⟩ := take_nat a hb (many := 8) (by decide) (by decide)
  have t1 : m_law_take a [bagD x y z cs, .int 8] = _ := t1
  obtain ⟨k, x2, y2, z2', t2, k1, b2⟩ := one_nat a (l := [2, 3, 4, 5, 7]) b1 (by decide) (by decide)
  have t2 : m_law_one a [bagD x1 y1 z1' cs, .lst [.int 2, .int 3, .int 4, .int 5, .int 7]] = _ := t2
  have hk : k ≤ 7 := by simp only [List.mem_cons, List.not_mem_nil, or_false] at k1; omega
  obtain ⟨v, x3, y3, z3', t3, v1, b3⟩ := take_nat a b2 (many := 2) (by decide) (by decide)
  have t3 : m_law_take a [bagD x2 y2 z2' cs, .int 2] = _ := t3
  by_cases c : (v : Int) = 0
  · obtain ⟨m, x4, y4, z4', t4, m1, b4⟩ := take_nat a b3 (many := 8) (by decide) (by decide)
    have t4 : m_law_take a [bagD x3 y3 z3' cs, .int 8] = _ := t4
    obtain ⟨x5, y5, z5', rs, qs, t5, b5⟩ := tail17 a hd (d := d) b4 (n := n) (m := m) (k := k) (by omega) (by omega) hk
    refine ⟨x5, y5, z5', ?_, b5⟩
    simp only [b17_eq, ↓fnOf, initE, List.replicate, List.length_cons, List.length_nil, List.cons_append, List.nil_append, Nat.sub_self, Nat.reduceSub, Nat.reduceAdd, ↓sSeq, ↓sIf_eq, ↓sSet, ↓sRet, ↓sRetN, ↓sExpr, ↓sNil, ↓sNever, ↓sFor, ↓sAsg, ↓sFldS, ↓sAugIx, ↓sSetIx, ↓putIx, ↓sPar2, ↓sPar3, ↓M.then, ↓bind_eq, ↓M.ret, ↓M.bad, ↓M.get, ↓M.esc, ↓M.arg, ↓M.nrm, ↓M.res, ↓M.wipe, look, getE, ↓put, isMu_eq, muB_none, muB_sh, muB_ow, muB_mu, ↓eVar, ↓eC, ↓eOp1, ↓eOp2, ↓eBool_eq, ↓eAnd_eq, ↓eOr_eq, ↓eNot, ↓eAndV_eq, ↓eOrV_eq, ↓eNotV_eq, ↓eIf_eq, ↓eChain, ↓aNil, ↓aCons, ↓lCons, ↓kCons, ↓sCons, ↓eTup_eq, ↓eLst_eq, ↓eLc_eq, ↓eLc2_eq, ↓iSeq_eq, ↓Cw.iEnum, ↓iZipD_eq, ↓iRng1D_eq, ↓iRng2D, ↓eLRg, ↓eTRg, ↓rg1_eq, ↓rg2, ↓eSl, ↓oNone, ↓oSome_eq, ↓eCallB, ↓getAll, ↓eCall, ↓callM, gather, scatter, muI, toRV, ↓eMake, ↓makeM, ↓eMeth_eq, ↓eFld_eq, ↓eMut_eq, ↓eMutG_eq, ↓eDnew, finR, muOf, List.set, ↓gN, ↓fstep, ↓gT, ↓gsCons, ↓gsNil, noMu, wipeE, ↓sPre_eq, ↓iPre_eq, ↓sFgt, ↓sFrz, fgt_nx, fgt_ct, fgt_rt, fgt_bk, fgt_exc, fgt_bad, frz_nx, frz_ct, frz_rt, frz_bk, frz_exc, frz_bad, frzE_nil, frzE_cons, ↓sRaise, ↓sTry, fixT, List.all_cons, List.all_nil, Bool.and_true, Bool.true_and, Bool.not_false, Bool.not_true, if_true, if_false, ite_true, ite_false, Bool.false_eq_true, reduceIte, reduceCtorEq, List.nodup_cons, List.nodup_nil, List.not_mem_nil, not_false_eq_true, and_self, and_true, true_and, List.mem_cons, List.mem_singleton, or_false, decide_true, decide_false, List.getElem?_cons_zero, List.getElem?_cons_succ, dEq_int, dNe_int, dEq_str, dCmp_int, dAdd_int, dSub_int, dInt_int, dAbs_int, dLen_lst, dLen_tup, dList_lst, dList_tup, dTuple_lst, dTuple_tup, dIxD_lst, dIxD_tup, dInD_lst, dInD_tup, t1, t2, t3, t4, z5, c, ↓t5]
  · obtain ⟨x5, y5, z5', rs, qs, t5, b5⟩ := tail17 a hd (d := d) b3 (n := n) (m := n) (k := k) (by omega) (by omega) hk
    refine ⟨x5, y5, z5', ?_, b5⟩
    simp only [b17_eq, ↓fnOf, initE, List.replicate, List.length_cons, List.length_nil, List.cons_append, List.nil_append, Nat.sub_self, Nat.reduceSub, Nat.reduceAdd, ↓sSeq, ↓sIf_eq, ↓sSet, ↓sRet, ↓sRetN, ↓sExpr, ↓sNil, ↓sNever, ↓sFor, ↓sAsg, ↓sFldS, ↓sAugIx, ↓sSetIx, ↓putIx, ↓sPar2, ↓sPar3, ↓M.then, ↓bind_eq, ↓M.ret, ↓M.bad, ↓M.get, ↓M.esc, ↓M.arg, ↓M.nrm, ↓M.res, ↓M.wipe, look, getE, ↓put, isMu_eq, muB_none, muB_sh, muB_ow, muB_mu, ↓eVar, ↓eC, ↓eOp1, ↓eOp2, ↓eBool_eq, ↓eAnd_eq, ↓eOr_eq, ↓eNot, ↓eAndV_eq, ↓eOrV_eq, ↓eNotV_eq, ↓eIf_eq, ↓eChain, ↓aNil, ↓aCons, ↓lCons, ↓kCons, ↓sCons, ↓eTup_eq, ↓eLst_eq, ↓eLc_eq, ↓eLc2_eq, ↓iSeq_eq, ↓Cw.iEnum, ↓iZipD_eq, ↓iRng1D_eq, ↓iRng2D, ↓eLRg, ↓eTRg, ↓rg1_eq, ↓rg2, ↓eSl, ↓oNone, ↓oSome_eq, ↓eCallB, ↓getAll, ↓eCall, ↓callM, gather, scatter, muI, toRV, ↓eMake, ↓makeM, ↓eMeth_eq, ↓eFld_eq, ↓eMut_eq, ↓eMutG_eq, ↓eDnew, finR, muOf, List.set, ↓gN, ↓fstep, ↓gT, ↓gsCons, ↓gsNil, noMu, wipeE, ↓sPre_eq, ↓iPre_eq, ↓sFgt, ↓sFrz, fgt_nx, fgt_ct, fgt_rt, fgt_bk, fgt_exc, fgt_bad, frz_nx, frz_ct, frz_rt, frz_bk, frz_exc, frz_bad, frzE_nil, frzE_cons, ↓sRaise, ↓sTry, fixT, List.all_cons, List.all_nil, Bool.and_true, Bool.true_and, Bool.not_false, Bool.not_true, if_true, if_false, ite_true, ite_false, Bool.false_eq_true, reduceIte, reduceCtorEq, List.nodup_cons, List.nodup_nil, List.not_mem_nil, not_false_eq_true, and_self, and_true, true_and, List.mem_cons, List.mem_singleton, or_false, decide_true, decide_false, List.getElem?_cons_zero, List.getElem?_cons_succ, dEq_int, dNe_int, dEq_str, dCmp_int, dAdd_int, dSub_int, dInt_int, dAbs_int, dLen_lst, dLen_tup, dList_lst, dList_tup, dTuple_lst, dTuple_tup, dIxD_lst, dIxD_tup, dInD_lst, dInD_tup, t1, t2, t3, z5, c, ↓t5]
theorem yes17 (ns : List Int) (hns : ns.length ≤ 63) : m_lawK17 a [.scr (ns.map D.int)] = .ok (false, .bl true) [] := by
  obtain ⟨cs, hbag, b0⟩ := bag_ok a ns hns
  have hbag : m_law_bag a [.scr (ns.map D.int)] = .ok (true, bagD 0 987654321 0 cs) [] := hbag
  obtain ⟨e', hL, x4, y4, z4', b4, rfl⟩ := forS_all (a := gN 2) (b := b_lawK17_1 a) (fun e => ∃ x y z, BagOk x y z cs ∧ e = [none, some (Fl.ow, bagD x y z cs), none, none, none, none, none, none, none, none, none, none, none, none]) (ds := ii (rg 8)) (e := [none, some (Fl.ow, bagD 0 987654321 0 cs), none, none, none, none, none, none, none, none, none, none, none, none]) ⟨_, _, _, b0, rfl⟩ (by
    rintro d e hd2 ⟨x, y, z, hb, rfl⟩
    obtain ⟨x', y', z', h1, h2⟩ := turn17 a hd (d := d) hb
    exact ⟨_, h1, x', y', z', h2, rfl⟩)
  have i8 : in62 8 = true := in62_nat 8 (by omega)
  have t8 : (8 : Int).toNat = 8 := rfl
  simp only [m_lawK17, g_lawK17, ↓fnOf, initE, List.replicate, List.length_cons, List.length_nil, List.cons_append, List.nil_append, Nat.sub_self, Nat.reduceSub, Nat.reduceAdd, ↓sSeq, ↓sIf_eq, ↓sSet, ↓sRet, ↓sRetN, ↓sExpr, ↓sNil, ↓sNever, ↓sFor, ↓sAsg, ↓sFldS, ↓sAugIx, ↓sSetIx, ↓putIx, ↓sPar2, ↓sPar3, ↓M.then, ↓bind_eq, ↓M.ret, ↓M.bad, ↓M.get, ↓M.esc, ↓M.arg, ↓M.nrm, ↓M.res, ↓M.wipe, look, getE, ↓put, isMu_eq, muB_none, muB_sh, muB_ow, muB_mu, ↓eVar, ↓eC, ↓eOp1, ↓eOp2, ↓eBool_eq, ↓eAnd_eq, ↓eOr_eq, ↓eNot, ↓eAndV_eq, ↓eOrV_eq, ↓eNotV_eq, ↓eIf_eq, ↓eChain, ↓aNil, ↓aCons, ↓lCons, ↓kCons, ↓sCons, ↓eTup_eq, ↓eLst_eq, ↓eLc_eq, ↓eLc2_eq, ↓iSeq_eq, ↓Cw.iEnum, ↓iZipD_eq, ↓iRng1D_eq, ↓iRng2D, ↓eLRg, ↓eTRg, ↓rg1_eq, ↓rg2, ↓eSl, ↓oNone, ↓oSome_eq, ↓eCallB, ↓getAll, ↓eCall, ↓callM, gather, scatter, muI, toRV, ↓eMake, ↓makeM, ↓eMeth_eq, ↓eFld_eq, ↓eMut_eq, ↓eMutG_eq, ↓eDnew, finR, muOf, List.set, ↓gN, ↓fstep, ↓gT, ↓gsCons, ↓gsNil, noMu, wipeE, ↓sPre_eq, ↓iPre_eq, ↓sFgt, ↓sFrz, fgt_nx, fgt_ct, fgt_rt, fgt_bk, fgt_exc, fgt_bad, frz_nx, frz_ct, frz_rt, frz_bk, frz_exc, frz_bad, frzE_nil, frzE_cons, ↓sRaise, ↓sTry, fixT, List.all_cons, List.all_nil, Bool.and_true, Bool.true_and, Bool.not_false, Bool.not_true, if_true, if_false, ite_true, ite_false, Bool.false_eq_true, reduceIte, reduceCtorEq, List.nodup_cons, List.nodup_nil, List.not_mem_nil, not_false_eq_true, and_self, and_true, true_and, List.mem_cons, List.mem_singleton, or_false, decide_true, decide_false, List.getElem?_cons_zero, List.getElem?_cons_succ, dEq_int, dNe_int, dEq_str, dCmp_int, dAdd_int, dSub_int, dInt_int, dAbs_int, dLen_lst, dLen_tup, dList_lst, dList_tup, dTuple_lst, dTuple_tup, dIxD_lst, dIxD_tup, dInD_lst, dInD_tup, hbag, i8, t8, rangeD_rg, ↓hL]
end
end Cw

namespace K17
open PySem L2 Cw
theorem yes (a : Nat → Addr) (hd : [a 20, a 21, a 22, a 23, a 24].Nodup) (ns : List Int) (hn : ns.length ≤ 63) : m_lawK17 a [.scr (ns.map D.int)] = .ok (false, .bl true) [] := Cw.yes17 a hd ns hn
/-! ### what the top has written -/
def pickF (d : FuncData) (l : List FuncData) (i : Nat) : FuncData := l.getD i d
theorem all_mk {l : PySem.W.OpenLaw} {w : World} {K : Fg} {h : Heap} {mg : Str → Option Value} {fa : Addr} {f0 f1 f2 f3 f4 f5 f6 f7 f8 f9 f10 f11 f12 f13 f14 f15 f16 f17 f18 f19 f20 f21 f22 f23 f24 f25 c0 c20 c21 c22 c23 c24 : Addr}
    {od0 an0 : Option Addr} {sl0 : Array (Option Value)} {oc0 kV0 dc0 pm0 cd0 ct0 : Value}
    {od1 an1 : Option Addr} {sl1 : Array (Option Value)} {oc1 kV1 dc1 pm1 cd1 ct1 : Value}
    {od2 an2 : Option Addr} {sl2 : Array (Option Value)} {oc2 kV2 dc2 pm2 cd2 ct2 : Value}
    {od3 an3 : Option Addr} {sl3 : Array (Option Value)} {oc3 kV3 dc3 pm3 cd3 ct3 : Value}
    {od4 an4 : Option Addr} {sl4 : Array (Option Value)} {oc4 kV4 dc4 pm4 cd4 ct4 : Value}
    {od5 an5 : Option Addr} {sl5 : Array (Option Value)} {oc5 kV5 dc5 pm5 cd5 ct5 : Value}
    {od6 an6 : Option Addr} {sl6 : Array (Option Value)} {oc6 kV6 dc6 pm6 cd6 ct6 : Value}
    {od7 an7 : Option Addr} {sl7 : Array (Option Value)} {oc7 kV7 dc7 pm7 cd7 ct7 : Value}
    {od8 an8 : Option Addr} {sl8 : Array (Option Value)} {oc8 kV8 dc8 pm8 cd8 ct8 : Value}
    {od9 an9 : Option Addr} {sl9 : Array (Option Value)} {oc9 kV9 dc9 pm9 cd9 ct9 : Value}
    {od10 an10 : Option Addr} {sl10 : Array (Option Value)} {oc10 kV10 dc10 pm10 cd10 ct10 : Value}
    {od11 an11 : Option Addr} {sl11 : Array (Option Value)} {oc11 kV11 dc11 pm11 cd11 ct11 : Value}
    {od12 an12 : Option Addr} {sl12 : Array (Option Value)} {oc12 kV12 dc12 pm12 cd12 ct12 : Value}
    {od13 an13 : Option Addr} {sl13 : Array (Option Value)} {oc13 kV13 dc13 pm13 cd13 ct13 : Value}
    {od14 an14 : Option Addr} {sl14 : Array (Option Value)} {oc14 kV14 dc14 pm14 cd14 ct14 : Value}
    {od15 an15 : Option Addr} {sl15 : Array (Option Value)} {oc15 kV15 dc15 pm15 cd15 ct15 : Value}
    {od16 an16 : Option Addr} {sl16 : Array (Option Value)} {oc16 kV16 dc16 pm16 cd16 ct16 : Value}
    {od17 an17 : Option Addr} {sl17 : Array (Option Value)} {oc17 kV17 dc17 pm17 cd17 ct17 : Value}
    {od18 an18 : Option Addr} {sl18 : Array (Option Value)} {oc18 kV18 dc18 pm18 cd18 ct18 : Value}
    {od19 an19 : Option Addr} {sl19 : Array (Option Value)} {oc19 kV19 dc19 pm19 cd19 ct19 : Value}
    {od20 an20 : Option Addr} {sl20 : Array (Option Value)} {oc20 kV20 dc20 pm20 cd20 ct20 : Value}
    {od21 an21 : Option Addr} {sl21 : Array (Option Value)} {oc21 kV21 dc21 pm21 cd21 ct21 : Value}
    {od22 an22 : Option Addr} {sl22 : Array (Option Value)} {oc22 kV22 dc22 pm22 cd22 ct22 : Value}
    {od23 an23 : Option Addr} {sl23 : Array (Option Value)} {oc23 kV23 dc23 pm23 cd23 ct23 : Value}
    {od24 an24 : Option Addr} {sl24 : Array (Option Value)} {oc24 kV24 dc24 pm24 cd24 ct24 : Value}
    {od25 an25 : Option Addr} {sl25 : Array (Option Value)} {oc25 kV25 dc25 pm25 cd25 ct25 : Value}
    {cr0 : ClassData}
    {nm21 q21 : Str} {N21 : Addr} {bs21 bm21 : List Value} {sn21 : List Str} {su21 : List Value} {ab21 : Bool} {col21 : Option Bool} {dd21 : Option Addr} {u021 u121 u221 u321 u521 : Option Value}
    {nm22 q22 : Str} {N22 : Addr} {bs22 bm22 : List Value} {sn22 : List Str} {su22 : List Value} {ab22 : Bool} {col22 : Option Bool} {dd22 : Option Addr} {u022 u122 u222 u322 u522 : Option Value}
    {nm23 q23 : Str} {N23 : Addr} {bs23 bm23 : List Value} {sn23 : List Str} {su23 : List Value} {ab23 : Bool} {col23 : Option Bool} {dd23 : Option Addr} {u023 u123 u223 u323 u523 : Option Value}
    {nm24 q24 : Str} {N24 : Addr} {bs24 bm24 : List Value} {sn24 : List Str} {su24 : List Value} {ab24 : Bool} {col24 : Option Bool} {dd24 : Option Addr} {u024 u124 u224 u324 u524 : Option Value}
    {tk_MOST_JOBS : Nat}
    {tk_MOST_SIZE : Nat}
    (X : K.In h) (G : h.Ns mainGlobals mg) (hfa : mg "law" = some (.ref fa))
    (aC0 : PySem.W.nsIn K mainGlobals "Jobs" = some (some (.ref c0)))
    (aC20 : PySem.W.nsIn K mainGlobals "CrewError" = some (some (.ref c20)))
    (aC21 : PySem.W.nsIn K mainGlobals "Wrong" = some (some (.ref c21)))
    (aC22 : PySem.W.nsIn K mainGlobals "TooMany" = some (some (.ref c22)))
    (aC23 : PySem.W.nsIn K mainGlobals "Unlike" = some (some (.ref c23)))
    (aC24 : PySem.W.nsIn K mainGlobals "NoJob" = some (some (.ref c24)))
    (a0 : PySem.W.nsIn K mainGlobals "law" = some (some (.ref f0)))
    (l0 : K.lookup f0 = some ⟨oc0, od0, .func (PySem.W.fnOf "law" "law" (defArgs s0) (defBody s0) (defScope s0) .none kV0 dc0 pm0 an0 cd0 ct0), sl0⟩)
    (c0_ : PySem.W.codeIn K cd0 "law" = true)
    (k0 : PySem.W.keepIn K (.ref f0) = true)
    (a1 : PySem.W.nsIn K mainGlobals "_law_bag" = some (some (.ref f1)))
    (l1 : K.lookup f1 = some ⟨oc1, od1, .func (PySem.W.fnOf "_law_bag" "_law_bag" (defArgs s1) (defBody s1) (defScope s1) .none kV1 dc1 pm1 an1 cd1 ct1), sl1⟩)
    (c1_ : PySem.W.codeIn K cd1 "_law_bag" = true)
    (k1 : PySem.W.keepIn K (.ref f1) = true)
    (a2 : PySem.W.nsIn K mainGlobals "_law_take" = some (some (.ref f2)))
    (l2 : K.lookup f2 = some ⟨oc2, od2, .func (PySem.W.fnOf "_law_take" "_law_take" (defArgs s2) (defBody s2) (defScope s2) .none kV2 dc2 pm2 an2 cd2 ct2), sl2⟩)
    (c2_ : PySem.W.codeIn K cd2 "_law_take" = true)
    (k2 : PySem.W.keepIn K (.ref f2) = true)
    (a3 : PySem.W.nsIn K mainGlobals "_law_one" = some (some (.ref f3)))
    (l3 : K.lookup f3 = some ⟨oc3, od3, .func (PySem.W.fnOf "_law_one" "_law_one" (defArgs s3) (defBody s3) (defScope s3) .none kV3 dc3 pm3 an3 cd3 ct3), sl3⟩)
    (c3_ : PySem.W.codeIn K cd3 "_law_one" = true)
    (k3 : PySem.W.keepIn K (.ref f3) = true)
    (a4 : PySem.W.nsIn K mainGlobals "_law_jobs" = some (some (.ref f4)))
    (l4 : K.lookup f4 = some ⟨oc4, od4, .func (PySem.W.fnOf "_law_jobs" "_law_jobs" (defArgs s4) (defBody s4) (defScope s4) .none kV4 dc4 pm4 an4 cd4 ct4), sl4⟩)
    (c4_ : PySem.W.codeIn K cd4 "_law_jobs" = true)
    (k4 : PySem.W.keepIn K (.ref f4) = true)
    (a5 : PySem.W.nsIn K mainGlobals "_law_job" = some (some (.ref f5)))
    (l5 : K.lookup f5 = some ⟨oc5, od5, .func (PySem.W.fnOf "_law_job" "_law_job" (defArgs s5) (defBody s5) (defScope s5) .none kV5 dc5 pm5 an5 cd5 ct5), sl5⟩)
    (c5_ : PySem.W.codeIn K cd5 "_law_job" = true)
    (k5 : PySem.W.keepIn K (.ref f5) = true)
    (a6 : PySem.W.nsIn K mainGlobals "_law_some" = some (some (.ref f6)))
    (l6 : K.lookup f6 = some ⟨oc6, od6, .func (PySem.W.fnOf "_law_some" "_law_some" (defArgs s6) (defBody s6) (defScope s6) .none kV6 dc6 pm6 an6 cd6 ct6), sl6⟩)
    (c6_ : PySem.W.codeIn K cd6 "_law_some" = true)
    (k6 : PySem.W.keepIn K (.ref f6) = true)
    (a7 : PySem.W.findIn K (.ref c0) "__init__" = some (some (.ref f7)))
    (i7 : PySem.W.isFn K (.ref f7) = true)
    (l7 : K.lookup f7 = some ⟨oc7, od7, .func (PySem.W.fnOf "__init__" "Jobs.__init__" (defArgs s7) (defBody s7) (defScope s7) .none kV7 dc7 pm7 an7 cd7 ct7), sl7⟩)
    (c7_ : PySem.W.codeIn K cd7 "Jobs.__init__" = true)
    (k7 : PySem.W.keepIn K (.ref f7) = true)
    (a8 : PySem.W.nsIn K mainGlobals "is_between" = some (some (.ref f8)))
    (l8 : K.lookup f8 = some ⟨oc8, od8, .func (PySem.W.fnOf "is_between" "is_between" (defArgs s8) (defBody s8) (defScope s8) .none kV8 dc8 pm8 an8 cd8 ct8), sl8⟩)
    (c8_ : PySem.W.codeIn K cd8 "is_between" = true)
    (k8 : PySem.W.keepIn K (.ref f8) = true)
    (a9 : PySem.W.nsIn K mainGlobals "is_integer" = some (some (.ref f9)))
    (l9 : K.lookup f9 = some ⟨oc9, od9, .func (PySem.W.fnOf "is_integer" "is_integer" (defArgs s9) (defBody s9) (defScope s9) .none kV9 dc9 pm9 an9 cd9 ct9), sl9⟩)
    (c9_ : PySem.W.codeIn K cd9 "is_integer" = true)
    (k9 : PySem.W.keepIn K (.ref f9) = true)
    (a10 : PySem.W.findIn K (.ref c21) "__init__" = some (some (.ref f10)))
    (i10 : PySem.W.typeIn K (.ref f10) = some (.type "function"))
    (l10 : K.lookup f10 = some ⟨oc10, od10, .func (PySem.W.fnOf "__init__" "Wrong.__init__" (defArgs s10) (defBody s10) (defScope s10) .none kV10 dc10 pm10 an10 cd10 ct10), sl10⟩)
    (c10_ : PySem.W.codeIn K cd10 "Wrong.__init__" = true)
    (k10 : PySem.W.keepIn K (.ref f10) = true)
    (a11 : PySem.W.nsIn K mainGlobals "is_listed" = some (some (.ref f11)))
    (l11 : K.lookup f11 = some ⟨oc11, od11, .func (PySem.W.fnOf "is_listed" "is_listed" (defArgs s11) (defBody s11) (defScope s11) .none kV11 dc11 pm11 an11 cd11 ct11), sl11⟩)
    (c11_ : PySem.W.codeIn K cd11 "is_listed" = true)
    (k11 : PySem.W.keepIn K (.ref f11) = true)
    (a12 : PySem.W.nsIn K mainGlobals "is_group" = some (some (.ref f12)))
    (l12 : K.lookup f12 = some ⟨oc12, od12, .func (PySem.W.fnOf "is_group" "is_group" (defArgs s12) (defBody s12) (defScope s12) .none kV12 dc12 pm12 an12 cd12 ct12), sl12⟩)
    (c12_ : PySem.W.codeIn K cd12 "is_group" = true)
    (k12 : PySem.W.keepIn K (.ref f12) = true)
    (a13 : PySem.W.findIn K (.ref c24) "__init__" = some (some (.ref f13)))
    (i13 : PySem.W.typeIn K (.ref f13) = some (.type "function"))
    (l13 : K.lookup f13 = some ⟨oc13, od13, .func (PySem.W.fnOf "__init__" "NoJob.__init__" (defArgs s13) (defBody s13) (defScope s13) .none kV13 dc13 pm13 an13 cd13 ct13), sl13⟩)
    (c13_ : PySem.W.codeIn K cd13 "NoJob.__init__" = true)
    (k13 : PySem.W.keepIn K (.ref f13) = true)
    (a14 : PySem.W.nsIn K mainGlobals "_law_told" = some (some (.ref f14)))
    (l14 : K.lookup f14 = some ⟨oc14, od14, .func (PySem.W.fnOf "_law_told" "_law_told" (defArgs s14) (defBody s14) (defScope s14) .none kV14 dc14 pm14 an14 cd14 ct14), sl14⟩)
    (c14_ : PySem.W.codeIn K cd14 "_law_told" = true)
    (k14 : PySem.W.keepIn K (.ref f14) = true)
    (a15 : PySem.W.findIn K (.ref c0) "__add__" = some (some (.ref f15)))
    (i15 : PySem.W.isFn K (.ref f15) = true)
    (l15 : K.lookup f15 = some ⟨oc15, od15, .func (PySem.W.fnOf "__add__" "Jobs.__add__" (defArgs s15) (defBody s15) (defScope s15) .none kV15 dc15 pm15 an15 cd15 ct15), sl15⟩)
    (c15_ : PySem.W.codeIn K cd15 "Jobs.__add__" = true)
    (k15 : PySem.W.keepIn K (.ref f15) = true)
    (a16 : PySem.W.findIn K (.ref c23) "__init__" = some (some (.ref f16)))
    (i16 : PySem.W.typeIn K (.ref f16) = some (.type "function"))
    (l16 : K.lookup f16 = some ⟨oc16, od16, .func (PySem.W.fnOf "__init__" "Unlike.__init__" (defArgs s16) (defBody s16) (defScope s16) .none kV16 dc16 pm16 an16 cd16 ct16), sl16⟩)
    (c16_ : PySem.W.codeIn K cd16 "Unlike.__init__" = true)
    (k16 : PySem.W.keepIn K (.ref f16) = true)
    (a17 : PySem.W.findIn K (.ref c22) "__init__" = some (some (.ref f17)))
    (i17 : PySem.W.typeIn K (.ref f17) = some (.type "function"))
    (l17 : K.lookup f17 = some ⟨oc17, od17, .func (PySem.W.fnOf "__init__" "TooMany.__init__" (defArgs s17) (defBody s17) (defScope s17) .none kV17 dc17 pm17 an17 cd17 ct17), sl17⟩)
    (c17_ : PySem.W.codeIn K cd17 "TooMany.__init__" = true)
    (k17 : PySem.W.keepIn K (.ref f17) = true)
    (a18 : PySem.W.findIn K (.ref c0) "__or__" = some (some (.ref f18)))
    (i18 : PySem.W.isFn K (.ref f18) = true)
    (l18 : K.lookup f18 = some ⟨oc18, od18, .func (PySem.W.fnOf "__or__" "Jobs.__or__" (defArgs s18) (defBody s18) (defScope s18) .none kV18 dc18 pm18 an18 cd18 ct18), sl18⟩)
    (c18_ : PySem.W.codeIn K cd18 "Jobs.__or__" = true)
    (k18 : PySem.W.keepIn K (.ref f18) = true)
    (a19 : PySem.W.nsIn K mainGlobals "moved" = some (some (.ref f19)))
    (l19 : K.lookup f19 = some ⟨oc19, od19, .func (PySem.W.fnOf "moved" "moved" (defArgs s19) (defBody s19) (defScope s19) .none kV19 dc19 pm19 an19 cd19 ct19), sl19⟩)
    (c19_ : PySem.W.codeIn K cd19 "moved" = true)
    (k19 : PySem.W.keepIn K (.ref f19) = true)
    (a20 : PySem.W.findIn K (.ref c0) "__mul__" = some (some (.ref f20)))
    (i20 : PySem.W.isFn K (.ref f20) = true)
    (l20 : K.lookup f20 = some ⟨oc20, od20, .func (PySem.W.fnOf "__mul__" "Jobs.__mul__" (defArgs s20) (defBody s20) (defScope s20) .none kV20 dc20 pm20 an20 cd20 ct20), sl20⟩)
    (c20_ : PySem.W.codeIn K cd20 "Jobs.__mul__" = true)
    (k20 : PySem.W.keepIn K (.ref f20) = true)
    (a21 : PySem.W.findIn K (.ref c0) "__rmul__" = some (some (.ref f21)))
    (i21 : PySem.W.isFn K (.ref f21) = true)
    (l21 : K.lookup f21 = some ⟨oc21, od21, .func (PySem.W.fnOf "__rmul__" "Jobs.__rmul__" (defArgs s21) (defBody s21) (defScope s21) .none kV21 dc21 pm21 an21 cd21 ct21), sl21⟩)
    (c21_ : PySem.W.codeIn K cd21 "Jobs.__rmul__" = true)
    (k21 : PySem.W.keepIn K (.ref f21) = true)
    (a22 : PySem.W.nsIn K mainGlobals "_law_sum" = some (some (.ref f22)))
    (l22 : K.lookup f22 = some ⟨oc22, od22, .func (PySem.W.fnOf "_law_sum" "_law_sum" (defArgs s22) (defBody s22) (defScope s22) .none kV22 dc22 pm22 an22 cd22 ct22), sl22⟩)
    (c22_ : PySem.W.codeIn K cd22 "_law_sum" = true)
    (k22 : PySem.W.keepIn K (.ref f22) = true)
    (a23 : PySem.W.nsIn K mainGlobals "_law_alike" = some (some (.ref f23)))
    (l23 : K.lookup f23 = some ⟨oc23, od23, .func (PySem.W.fnOf "_law_alike" "_law_alike" (defArgs s23) (defBody s23) (defScope s23) .none kV23 dc23 pm23 an23 cd23 ct23), sl23⟩)
    (c23_ : PySem.W.codeIn K cd23 "_law_alike" = true)
    (k23 : PySem.W.keepIn K (.ref f23) = true)
    (a24 : PySem.W.nsIn K mainGlobals "_law_beside" = some (some (.ref f24)))
    (l24 : K.lookup f24 = some ⟨oc24, od24, .func (PySem.W.fnOf "_law_beside" "_law_beside" (defArgs s24) (defBody s24) (defScope s24) .none kV24 dc24 pm24 an24 cd24 ct24), sl24⟩)
    (c24_ : PySem.W.codeIn K cd24 "_law_beside" = true)
    (k24 : PySem.W.keepIn K (.ref f24) = true)
    (a25 : PySem.W.nsIn K mainGlobals "_law_repeated" = some (some (.ref f25)))
    (l25 : K.lookup f25 = some ⟨oc25, od25, .func (PySem.W.fnOf "_law_repeated" "_law_repeated" (defArgs s25) (defBody s25) (defScope s25) .none kV25 dc25 pm25 an25 cd25 ct25), sl25⟩)
    (c25_ : PySem.W.codeIn K cd25 "_law_repeated" = true)
    (k25 : PySem.W.keepIn K (.ref f25) = true)
    (pg0 : PySem.W.plainGet K c0 Str.empty = true)
    (hd0 : PySem.W.hasDictIn K c0 = true)
    (po0 : PySem.W.plainOver K c0 = true)
    (sa0 : PySem.W.findIn K (.ref c0) "__setattr__" = some (some (.builtin "object.__setattr__")))
    (mk0 : PySem.W.makesIn K c0 = true)
    (kc0 : PySem.W.keepIn K (.ref c0) = true)
    (ha0 : PySem.W.findIn K (.ref c0) "__class__" = some (some (.builtin "object.__class__")))
    (ty0 : PySem.W.typeIn K (.ref c0) = some (.type "type"))
    (cc0 : PySem.W.clsIn K c0 = some cr0)
    (mo0 : PySem.W.mroIn K c0 (.type "object") = some true)
    (mNoneType0 : PySem.W.mroIn K c0 (.type "NoneType") = some false)
    (mbool0 : PySem.W.mroIn K c0 (.type "bool") = some false)
    (mint0 : PySem.W.mroIn K c0 (.type "int") = some false)
    (mstr0 : PySem.W.mroIn K c0 (.type "str") = some false)
    (mtuple0 : PySem.W.mroIn K c0 (.type "tuple") = some false)
    (mlist0 : PySem.W.mroIn K c0 (.type "list") = some false)
    (mdict0 : PySem.W.mroIn K c0 (.type "dict") = some false)
    (hn : PySem.W.specialIn K (.builtin "object.__class__") "__get__" = some (some (.builtin "getset_descriptor.__get__")))
    (htk : PySem.W.takesIn K (.builtin "object.__class__") = some true)
    (e_rd : PySem.W.readsIn K c20 (.type "type") = true)
    (e_ga : PySem.W.specialIn K (.ref c20) "__getattribute__" = some (some (.builtin "type.__getattribute__")))
    (e_in : PySem.W.findCls K (.ref c20) (.type "type") "__init__" = some (.val (.builtin "ValueError.__init__")))
    (e_ic : PySem.W.isClsIn K c20 = true)
    (e_ty : PySem.W.typeIn K (.ref c20) = some (.type "type"))
    (e_sb : PySem.W.subIn K (.ref c20) (.type "BaseException") = some true)
    (xl21 : K.lookup c21 = some (excClassObj nm21 q21 c21 N21 bs21 bm21 true sn21 su21 ab21 col21 dd21 u021 u121 u221 u321 u521 "ValueError.__new__"))
    (xsa21 : PySem.W.findIn K (.ref c21) "__setattr__" = some (some (.builtin "object.__setattr__")))
    (xeb21 : PySem.W.subIn K (.ref c21) (.type "BaseException") = some true)
    (xty21 : PySem.W.typeIn K (.ref c21) = some (.type "type"))
    (xkp21 : PySem.W.keepIn K (.ref c21) = true)
    (xga21 : PySem.W.findIn K (.ref c21) "__getattribute__" = some (some (.builtin "BaseException.__getattribute__")))
    (xgg21 : PySem.W.findIn K (.ref c21) "__getattr__" = some none)
    (xhd21 : PySem.W.hasDictIn K c21 = true)
    (xha21 : PySem.W.findIn K (.ref c21) "__class__" = some (some (.builtin "object.__class__")))
    (xmo21 : PySem.W.mroIn K c21 (.type "object") = some true)
    (xa21_limit : PySem.W.findIn K (.ref c21) "limit" = some none)
    (xa21_place : PySem.W.findIn K (.ref c21) "place" = some none)
    (xz21 : PySem.W.subIn K (.ref c20) (.ref c21) = some false)
    (xce21 : PySem.W.subIn K (.ref c21) (.ref c20) = some true)
    (xve21 : PySem.W.subIn K (.ref c21) (.type "ValueError") = some true)
    (xs21_21 : PySem.W.subIn K (.ref c21) (.ref c21) = some true)
    (xs21_22 : PySem.W.subIn K (.ref c21) (.ref c22) = some false)
    (xs21_23 : PySem.W.subIn K (.ref c21) (.ref c23) = some false)
    (xs21_24 : PySem.W.subIn K (.ref c21) (.ref c24) = some false)
    (xl22 : K.lookup c22 = some (excClassObj nm22 q22 c22 N22 bs22 bm22 true sn22 su22 ab22 col22 dd22 u022 u122 u222 u322 u522 "ValueError.__new__"))
    (xsa22 : PySem.W.findIn K (.ref c22) "__setattr__" = some (some (.builtin "object.__setattr__")))
    (xeb22 : PySem.W.subIn K (.ref c22) (.type "BaseException") = some true)
    (xty22 : PySem.W.typeIn K (.ref c22) = some (.type "type"))
    (xkp22 : PySem.W.keepIn K (.ref c22) = true)
    (xga22 : PySem.W.findIn K (.ref c22) "__getattribute__" = some (some (.builtin "BaseException.__getattribute__")))
    (xgg22 : PySem.W.findIn K (.ref c22) "__getattr__" = some none)
    (xhd22 : PySem.W.hasDictIn K c22 = true)
    (xha22 : PySem.W.findIn K (.ref c22) "__class__" = some (some (.builtin "object.__class__")))
    (xmo22 : PySem.W.mroIn K c22 (.type "object") = some true)
    (xa22_limit : PySem.W.findIn K (.ref c22) "limit" = some none)
    (xz22 : PySem.W.subIn K (.ref c20) (.ref c22) = some false)
    (xce22 : PySem.W.subIn K (.ref c22) (.ref c20) = some true)
    (xve22 : PySem.W.subIn K (.ref c22) (.type "ValueError") = some true)
    (xs22_21 : PySem.W.subIn K (.ref c22) (.ref c21) = some false)
    (xs22_22 : PySem.W.subIn K (.ref c22) (.ref c22) = some true)
    (xs22_23 : PySem.W.subIn K (.ref c22) (.ref c23) = some false)
    (xs22_24 : PySem.W.subIn K (.ref c22) (.ref c24) = some false)
    (xl23 : K.lookup c23 = some (excClassObj nm23 q23 c23 N23 bs23 bm23 true sn23 su23 ab23 col23 dd23 u023 u123 u223 u323 u523 "ValueError.__new__"))
    (xsa23 : PySem.W.findIn K (.ref c23) "__setattr__" = some (some (.builtin "object.__setattr__")))
    (xeb23 : PySem.W.subIn K (.ref c23) (.type "BaseException") = some true)
    (xty23 : PySem.W.typeIn K (.ref c23) = some (.type "type"))
    (xkp23 : PySem.W.keepIn K (.ref c23) = true)
    (xga23 : PySem.W.findIn K (.ref c23) "__getattribute__" = some (some (.builtin "BaseException.__getattribute__")))
    (xgg23 : PySem.W.findIn K (.ref c23) "__getattr__" = some none)
    (xhd23 : PySem.W.hasDictIn K c23 = true)
    (xha23 : PySem.W.findIn K (.ref c23) "__class__" = some (some (.builtin "object.__class__")))
    (xmo23 : PySem.W.mroIn K c23 (.type "object") = some true)
    (xa23_limit : PySem.W.findIn K (.ref c23) "limit" = some none)
    (xz23 : PySem.W.subIn K (.ref c20) (.ref c23) = some false)
    (xce23 : PySem.W.subIn K (.ref c23) (.ref c20) = some true)
    (xve23 : PySem.W.subIn K (.ref c23) (.type "ValueError") = some true)
    (xs23_21 : PySem.W.subIn K (.ref c23) (.ref c21) = some false)
    (xs23_22 : PySem.W.subIn K (.ref c23) (.ref c22) = some false)
    (xs23_23 : PySem.W.subIn K (.ref c23) (.ref c23) = some true)
    (xs23_24 : PySem.W.subIn K (.ref c23) (.ref c24) = some false)
    (xl24 : K.lookup c24 = some (excClassObj nm24 q24 c24 N24 bs24 bm24 true sn24 su24 ab24 col24 dd24 u024 u124 u224 u324 u524 "ValueError.__new__"))
    (xsa24 : PySem.W.findIn K (.ref c24) "__setattr__" = some (some (.builtin "object.__setattr__")))
    (xeb24 : PySem.W.subIn K (.ref c24) (.type "BaseException") = some true)
    (xty24 : PySem.W.typeIn K (.ref c24) = some (.type "type"))
    (xkp24 : PySem.W.keepIn K (.ref c24) = true)
    (xga24 : PySem.W.findIn K (.ref c24) "__getattribute__" = some (some (.builtin "BaseException.__getattribute__")))
    (xgg24 : PySem.W.findIn K (.ref c24) "__getattr__" = some none)
    (xhd24 : PySem.W.hasDictIn K c24 = true)
    (xha24 : PySem.W.findIn K (.ref c24) "__class__" = some (some (.builtin "object.__class__")))
    (xmo24 : PySem.W.mroIn K c24 (.type "object") = some true)
    (xa24_at : PySem.W.findIn K (.ref c24) "at" = some none)
    (xa24_limit : PySem.W.findIn K (.ref c24) "limit" = some none)
    (xz24 : PySem.W.subIn K (.ref c20) (.ref c24) = some false)
    (xce24 : PySem.W.subIn K (.ref c24) (.ref c20) = some true)
    (xve24 : PySem.W.subIn K (.ref c24) (.type "ValueError") = some true)
    (xs24_21 : PySem.W.subIn K (.ref c24) (.ref c21) = some false)
    (xs24_22 : PySem.W.subIn K (.ref c24) (.ref c22) = some false)
    (xs24_23 : PySem.W.subIn K (.ref c24) (.ref c23) = some false)
    (xs24_24 : PySem.W.subIn K (.ref c24) (.ref c24) = some true)
    (sf0 : PySem.W.selfFirst K c0 = true)
    (bs0_add : PySem.W.findIn K (.ref c0) (PySem.dunder "add") = some (some (.ref f15)))
    (br0_add : PySem.W.findIn K (.ref c0) (dunderR "add") = some none)
    (bf0_add_int : PySem.W.findIn K (.type "int") (PySem.dunder "add") = some (some (.builtin "int.__add__")))
    (bg0_add_int : PySem.W.findIn K (.type "int") (dunderR "add") = some (some (.builtin "int.__radd__")))
    (bf0_add_tuple : PySem.W.findIn K (.type "tuple") (PySem.dunder "add") = some (some (.builtin "tuple.__add__")))
    (bg0_add_tuple : PySem.W.findIn K (.type "tuple") (dunderR "add") = some (none))
    (bs0_mul : PySem.W.findIn K (.ref c0) (PySem.dunder "mul") = some (some (.ref f20)))
    (br0_mul : PySem.W.findIn K (.ref c0) (dunderR "mul") = some (some (.ref f21)))
    (bv0_mul : PySem.W.subIn K (.ref c0) (.type "int") = some false)
    (bf0_mul_int : PySem.W.findIn K (.type "int") (PySem.dunder "mul") = some (some (.builtin "int.__mul__")))
    (bg0_mul_int : PySem.W.findIn K (.type "int") (dunderR "mul") = some (some (.builtin "int.__rmul__")))
    (bf0_mul_tuple : PySem.W.findIn K (.type "tuple") (PySem.dunder "mul") = some (some (.builtin "tuple.__mul__")))
    (bg0_mul_tuple : PySem.W.findIn K (.type "tuple") (dunderR "mul") = some (some (.builtin "tuple.__rmul__")))
    (bs0_or : PySem.W.findIn K (.ref c0) (PySem.dunder "or") = some (some (.ref f18)))
    (br0_or : PySem.W.findIn K (.ref c0) (dunderR "or") = some none)
    (bf0_or_int : PySem.W.findIn K (.type "int") (PySem.dunder "or") = some (some (.builtin "int.__or__")))
    (bg0_or_int : PySem.W.findIn K (.type "int") (dunderR "or") = some (some (.builtin "int.__ror__")))
    (bf0_or_tuple : PySem.W.findIn K (.type "tuple") (PySem.dunder "or") = some (none))
    (bg0_or_tuple : PySem.W.findIn K (.type "tuple") (dunderR "or") = some (none))
    (n0_jobs : PySem.W.findIn K (.ref c0) "jobs" = some none)
    (n0_size : PySem.W.findIn K (.ref c0) "size" = some none)
    (z_abs : PySem.W.nsIn K mainGlobals "abs" = some none)
    (z_all : PySem.W.nsIn K mainGlobals "all" = some none)
    (z_bool : PySem.W.nsIn K mainGlobals "bool" = some none)
    (z_enumerate : PySem.W.nsIn K mainGlobals "enumerate" = some none)
    (z_int : PySem.W.nsIn K mainGlobals "int" = some none)
    (z_isinstance : PySem.W.nsIn K mainGlobals "isinstance" = some none)
    (z_len : PySem.W.nsIn K mainGlobals "len" = some none)
    (z_list : PySem.W.nsIn K mainGlobals "list" = some none)
    (z_min : PySem.W.nsIn K mainGlobals "min" = some none)
    (z_range : PySem.W.nsIn K mainGlobals "range" = some none)
    (z_repr : PySem.W.nsIn K mainGlobals "repr" = some none)
    (z_tuple : PySem.W.nsIn K mainGlobals "tuple" = some none)
    (g_MOST_JOBS : PySem.W.nsIn K mainGlobals "MOST_JOBS" = some (some (.int 7 tk_MOST_JOBS)))
    (g_MOST_SIZE : PySem.W.nsIn K mainGlobals "MOST_SIZE" = some (some (.int 7 tk_MOST_SIZE)))
    (xr21 : PySem.HandSPX.refsVE bm21 = true)
    (xr22 : PySem.HandSPX.refsVE bm22 = true)
    (xr23 : PySem.HandSPX.refsVE bm23 = true)
    (xr24 : PySem.HandSPX.refsVE bm24 = true)
    : ∃ (fd : FuncData) (Gf : Fn), (∀ (s : Shared) (u : Value), BindsTo s fd ⟨[u], []⟩ [("_law_script", u)]) ∧ (∀ ns : List Int, ns.length ≤ 63 → Gf [.scr (ns.map D.int)] = .ok (false, .bl true) []) ∧
      ∀ bs : Heap, K.In bs → bs.Ns mainGlobals mg → FnG l.prog w K mg bs (L2.CX l.prog w) 8 fa fd ["_law_script"] (spD K [false] Gf) := by
  obtain rfl : f0 = fa := by
    have e := hfa.symm.trans (PySem.W.mg_of X G a0)
    cases e
    rfl
  have F0 := fun_mk (st := s0) l0 c0_ k0
  have b0 := F0.binds (ps := ["_law_script"]) fun _ _ _ _ _ _ us hl => match us, hl with | [_], _ => rfl
  have F1 := fun_mk (st := s1) l1 c1_ k1
  have b1 := F1.binds (ps := ["_law_script"]) fun _ _ _ _ _ _ us hl => match us, hl with | [_], _ => rfl
  have F2 := fun_mk (st := s2) l2 c2_ k2
  have b2 := F2.binds (ps := ["_law_bag_here", "_law_many"]) fun _ _ _ _ _ _ us hl => match us, hl with | [_, _], _ => rfl
  have F3 := fun_mk (st := s3) l3 c3_ k3
  have b3 := F3.binds (ps := ["_law_bag_here", "_law_things"]) fun _ _ _ _ _ _ us hl => match us, hl with | [_, _], _ => rfl
  have F4 := fun_mk (st := s4) l4 c4_ k4
  have b4 := F4.binds (ps := ["_law_bag_here", "_law_size", "_law_most"]) fun _ _ _ _ _ _ us hl => match us, hl with | [_, _, _], _ => rfl
  have F5 := fun_mk (st := s5) l5 c5_ k5
  have b5 := F5.binds (ps := ["_law_bag_here", "_law_size"]) fun _ _ _ _ _ _ us hl => match us, hl with | [_, _], _ => rfl
  have F6 := fun_mk (st := s6) l6 c6_ k6
  have b6 := F6.binds (ps := ["_law_bag_here", "_law_things"]) fun _ _ _ _ _ _ us hl => match us, hl with | [_, _], _ => rfl
  have F7 := fun_mk (st := s7) l7 c7_ k7
  have b7 := F7.binds (ps := ["self", "size", "jobs"]) fun _ _ _ _ _ _ us hl => match us, hl with | [_, _, _], _ => rfl
  have F8 := fun_mk (st := s8) l8 c8_ k8
  have b8 := F8.binds (ps := ["thing", "least", "most"]) fun _ _ _ _ _ _ us hl => match us, hl with | [_, _, _], _ => rfl
  have F9 := fun_mk (st := s9) l9 c9_ k9
  have b9 := F9.binds (ps := ["thing"]) fun _ _ _ _ _ _ us hl => match us, hl with | [_], _ => rfl
  have F10 := fun_mk (st := s10) l10 c10_ k10
  have b10 := F10.binds (ps := ["self", "place"]) fun _ _ _ _ _ _ us hl => match us, hl with | [_, _], _ => rfl
  have F11 := fun_mk (st := s11) l11 c11_ k11
  have b11 := F11.binds (ps := ["thing", "most"]) fun _ _ _ _ _ _ us hl => match us, hl with | [_, _], _ => rfl
  have F12 := fun_mk (st := s12) l12 c12_ k12
  have b12 := F12.binds (ps := ["size", "thing"]) fun _ _ _ _ _ _ us hl => match us, hl with | [_, _], _ => rfl
  have F13 := fun_mk (st := s13) l13 c13_ k13
  have b13 := F13.binds (ps := ["self", "at"]) fun _ _ _ _ _ _ us hl => match us, hl with | [_, _], _ => rfl
  have F14 := fun_mk (st := s14) l14 c14_ k14
  have b14 := F14.binds (ps := ["_law_way", "_law_one_here", "_law_other"]) fun _ _ _ _ _ _ us hl => match us, hl with | [_, _, _], _ => rfl
  have F15 := fun_mk (st := s15) l15 c15_ k15
  have b15 := F15.binds (ps := ["self", "other"]) fun _ _ _ _ _ _ us hl => match us, hl with | [_, _], _ => rfl
  have F16 := fun_mk (st := s16) l16 c16_ k16
  have b16 := F16.binds (ps := ["self"]) fun _ _ _ _ _ _ us hl => match us, hl with | [_], _ => rfl
  have F17 := fun_mk (st := s17) l17 c17_ k17
  have b17 := F17.binds (ps := ["self", "limit"]) fun _ _ _ _ _ _ us hl => match us, hl with | [_, _], _ => rfl
  have F18 := fun_mk (st := s18) l18 c18_ k18
  have b18 := F18.binds (ps := ["self", "other"]) fun _ _ _ _ _ _ us hl => match us, hl with | [_, _], _ => rfl
  have F19 := fun_mk (st := s19) l19 c19_ k19
  have b19 := F19.binds (ps := ["group", "by"]) fun _ _ _ _ _ _ us hl => match us, hl with | [_, _], _ => rfl
  have F20 := fun_mk (st := s20) l20 c20_ k20
  have b20 := F20.binds (ps := ["self", "count"]) fun _ _ _ _ _ _ us hl => match us, hl with | [_, _], _ => rfl
  have F21 := fun_mk (st := s21) l21 c21_ k21
  have b21 := F21.binds (ps := ["self", "count"]) fun _ _ _ _ _ _ us hl => match us, hl with | [_, _], _ => rfl
  have F22 := fun_mk (st := s22) l22 c22_ k22
  have b22 := F22.binds (ps := ["_law_size", "_law_rows", "_law_wide", "_law_others"]) fun _ _ _ _ _ _ us hl => match us, hl with | [_, _, _, _], _ => rfl
  have F23 := fun_mk (st := s23) l23 c23_ k23
  have b23 := F23.binds (ps := ["_law_found", "_law_due"]) fun _ _ _ _ _ _ us hl => match us, hl with | [_, _], _ => rfl
  have F24 := fun_mk (st := s24) l24 c24_ k24
  have b24 := F24.binds (ps := ["_law_size", "_law_rows", "_law_wide", "_law_others"]) fun _ _ _ _ _ _ us hl => match us, hl with | [_, _, _, _], _ => rfl
  have F25 := fun_mk (st := s25) l25 c25_ k25
  have b25 := F25.binds (ps := ["_law_size", "_law_rows", "_law_count"]) fun _ _ _ _ _ _ us hl => match us, hl with | [_, _, _], _ => rfl
  have cl0 : Cls K c0 := ⟨pg0, hd0, po0, sa0⟩
  have cf0 : ClsF K c0 := ⟨⟨cl0, ha0, hn, htk, mo0⟩, ty0, ⟨_, cc0⟩, by
    intro T hT
    simp only [tysB, List.mem_cons, List.not_mem_nil, or_false] at hT
    rcases hT with rfl | rfl | rfl | rfl | rfl | rfl | rfl
    · exact mNoneType0
    · exact mbool0
    · exact mint0
    · exact mstr0
    · exact mtuple0
    · exact mlist0
    · exact mdict0⟩
  have x21 : XcF K c21 := ⟨⟨⟨_, _, _, _, _, _, _, _, _, _, _, _, _, _, _, xl21, xr21⟩, xsa21, xeb21, xty21, xkp21⟩, xga21, xgg21, xhd21, xha21, hn, htk, xmo21⟩
  have x22 : XcF K c22 := ⟨⟨⟨_, _, _, _, _, _, _, _, _, _, _, _, _, _, _, xl22, xr22⟩, xsa22, xeb22, xty22, xkp22⟩, xga22, xgg22, xhd22, xha22, hn, htk, xmo22⟩
  have x23 : XcF K c23 := ⟨⟨⟨_, _, _, _, _, _, _, _, _, _, _, _, _, _, _, xl23, xr23⟩, xsa23, xeb23, xty23, xkp23⟩, xga23, xgg23, xhd23, xha23, hn, htk, xmo23⟩
  have x24 : XcF K c24 := ⟨⟨⟨_, _, _, _, _, _, _, _, _, _, _, _, _, _, _, xl24, xr24⟩, xsa24, xeb24, xty24, xkp24⟩, xga24, xgg24, xhd24, xha24, hn, htk, xmo24⟩
  have ne21_22 : c21 ≠ c22 := fun e => by rw [← e, xs21_21] at xs21_22; cases xs21_22
  have ne21_23 : c21 ≠ c23 := fun e => by rw [← e, xs21_21] at xs21_23; cases xs21_23
  have ne21_24 : c21 ≠ c24 := fun e => by rw [← e, xs21_21] at xs21_24; cases xs21_24
  have ne22_21 : c22 ≠ c21 := fun e => by rw [← e, xs22_22] at xs22_21; cases xs22_21
  have ne22_23 : c22 ≠ c23 := fun e => by rw [← e, xs22_22] at xs22_23; cases xs22_23
  have ne22_24 : c22 ≠ c24 := fun e => by rw [← e, xs22_22] at xs22_24; cases xs22_24
  have ne23_21 : c23 ≠ c21 := fun e => by rw [← e, xs23_23] at xs23_21; cases xs23_21
  have ne23_22 : c23 ≠ c22 := fun e => by rw [← e, xs23_23] at xs23_22; cases xs23_22
  have ne23_24 : c23 ≠ c24 := fun e => by rw [← e, xs23_23] at xs23_24; cases xs23_24
  have ne24_21 : c24 ≠ c21 := fun e => by rw [← e, xs24_24] at xs24_21; cases xs24_21
  have ne24_22 : c24 ≠ c22 := fun e => by rw [← e, xs24_24] at xs24_22; cases xs24_22
  have ne24_23 : c24 ≠ c23 := fun e => by rw [← e, xs24_24] at xs24_23; cases xs24_23
  have ne20_21 : c20 ≠ c21 := fun e => by rw [e, xs21_21] at xz21; cases xz21
  have ne20_22 : c20 ≠ c22 := fun e => by rw [e, xs22_22] at xz22; cases xz22
  have ne20_23 : c20 ≠ c23 := fun e => by rw [e, xs23_23] at xz23; cases xz23
  have ne20_24 : c20 ≠ c24 := fun e => by rw [e, xs24_24] at xz24; cases xz24
  have xk0 : XK K c20 [c21, c21, c22, c23, c24] := by
    refine ⟨fun C m => ?_, fun C m => ?_, fun C m C2 m2 => ?_, fun C m => ?_, e_ic, e_ty, e_sb⟩
    · simp only [List.mem_cons, List.not_mem_nil, or_false] at m; rcases m with rfl | rfl | rfl | rfl | rfl
      · exact x21
      · exact x21
      · exact x22
      · exact x23
      · exact x24
    · simp only [List.mem_cons, List.not_mem_nil, or_false] at m; rcases m with rfl | rfl | rfl | rfl | rfl
      · exact xce21
      · exact xce21
      · exact xce22
      · exact xce23
      · exact xce24
    · simp only [List.mem_cons, List.not_mem_nil, or_false] at m m2; rcases m with rfl | rfl | rfl | rfl | rfl <;> rcases m2 with rfl | rfl | rfl | rfl | rfl
      · exact xs21_21.trans (by simp)
      · exact xs21_21.trans (by simp)
      · exact xs21_22.trans (by rw [decide_eq_false ne21_22])
      · exact xs21_23.trans (by rw [decide_eq_false ne21_23])
      · exact xs21_24.trans (by rw [decide_eq_false ne21_24])
      · exact xs21_21.trans (by simp)
      · exact xs21_21.trans (by simp)
      · exact xs21_22.trans (by rw [decide_eq_false ne21_22])
      · exact xs21_23.trans (by rw [decide_eq_false ne21_23])
      · exact xs21_24.trans (by rw [decide_eq_false ne21_24])
      · exact xs22_21.trans (by rw [decide_eq_false ne22_21])
      · exact xs22_21.trans (by rw [decide_eq_false ne22_21])
      · exact xs22_22.trans (by simp)
      · exact xs22_23.trans (by rw [decide_eq_false ne22_23])
      · exact xs22_24.trans (by rw [decide_eq_false ne22_24])
      · exact xs23_21.trans (by rw [decide_eq_false ne23_21])
      · exact xs23_21.trans (by rw [decide_eq_false ne23_21])
      · exact xs23_22.trans (by rw [decide_eq_false ne23_22])
      · exact xs23_23.trans (by simp)
      · exact xs23_24.trans (by rw [decide_eq_false ne23_24])
      · exact xs24_21.trans (by rw [decide_eq_false ne24_21])
      · exact xs24_21.trans (by rw [decide_eq_false ne24_21])
      · exact xs24_22.trans (by rw [decide_eq_false ne24_22])
      · exact xs24_23.trans (by rw [decide_eq_false ne24_23])
      · exact xs24_24.trans (by simp)
    · simp only [List.mem_cons, List.not_mem_nil, or_false] at m; rcases m with rfl | rfl | rfl | rfl | rfl
      · exact xve21
      · exact xve21
      · exact xve22
      · exact xve23
      · exact xve24
  have T : Txt K mg (pickA [(0, c0)] c0 c20 [(21, c21), (22, c22), (23, c23), (24, c24)] c21) (pickB [f0, f1, f2, f3, f4, f5, f6, f7, f8, f9, f10, f11, f12, f13, f14, f15, f16, f17, f18, f19, f20, f21, f22, f23, f24, f25]) (pickF (PySem.W.fnOf "law" "law" (defArgs s0) (defBody s0) (defScope s0) .none kV0 dc0 pm0 an0 cd0 ct0) [(PySem.W.fnOf "law" "law" (defArgs s0) (defBody s0) (defScope s0) .none kV0 dc0 pm0 an0 cd0 ct0), (PySem.W.fnOf "_law_bag" "_law_bag" (defArgs s1) (defBody s1) (defScope s1) .none kV1 dc1 pm1 an1 cd1 ct1), (PySem.W.fnOf "_law_take" "_law_take" (defArgs s2) (defBody s2) (defScope s2) .none kV2 dc2 pm2 an2 cd2 ct2), (PySem.W.fnOf "_law_one" "_law_one" (defArgs s3) (defBody s3) (defScope s3) .none kV3 dc3 pm3 an3 cd3 ct3), (PySem.W.fnOf "_law_jobs" "_law_jobs" (defArgs s4) (defBody s4) (defScope s4) .none kV4 dc4 pm4 an4 cd4 ct4), (PySem.W.fnOf "_law_job" "_law_job" (defArgs s5) (defBody s5) (defScope s5) .none kV5 dc5 pm5 an5 cd5 ct5), (PySem.W.fnOf "_law_some" "_law_some" (defArgs s6) (defBody s6) (defScope s6) .none kV6 dc6 pm6 an6 cd6 ct6), (PySem.W.fnOf "__init__" "Jobs.__init__" (defArgs s7) (defBody s7) (defScope s7) .none kV7 dc7 pm7 an7 cd7 ct7), (PySem.W.fnOf "is_between" "is_between" (defArgs s8) (defBody s8) (defScope s8) .none kV8 dc8 pm8 an8 cd8 ct8), (PySem.W.fnOf "is_integer" "is_integer" (defArgs s9) (defBody s9) (defScope s9) .none kV9 dc9 pm9 an9 cd9 ct9), (PySem.W.fnOf "__init__" "Wrong.__init__" (defArgs s10) (defBody s10) (defScope s10) .none kV10 dc10 pm10 an10 cd10 ct10), (PySem.W.fnOf "is_listed" "is_listed" (defArgs s11) (defBody s11) (defScope s11) .none kV11 dc11 pm11 an11 cd11 ct11), (PySem.W.fnOf "is_group" "is_group" (defArgs s12) (defBody s12) (defScope s12) .none kV12 dc12 pm12 an12 cd12 ct12), (PySem.W.fnOf "__init__" "NoJob.__init__" (defArgs s13) (defBody s13) (defScope s13) .none kV13 dc13 pm13 an13 cd13 ct13), (PySem.W.fnOf "_law_told" "_law_told" (defArgs s14) (defBody s14) (defScope s14) .none kV14 dc14 pm14 an14 cd14 ct14), (PySem.W.fnOf "__add__" "Jobs.__add__" (defArgs s15) (defBody s15) (defScope s15) .none kV15 dc15 pm15 an15 cd15 ct15), (PySem.W.fnOf "__init__" "Unlike.__init__" (defArgs s16) (defBody s16) (defScope s16) .none kV16 dc16 pm16 an16 cd16 ct16), (PySem.W.fnOf "__init__" "TooMany.__init__" (defArgs s17) (defBody s17) (defScope s17) .none kV17 dc17 pm17 an17 cd17 ct17), (PySem.W.fnOf "__or__" "Jobs.__or__" (defArgs s18) (defBody s18) (defScope s18) .none kV18 dc18 pm18 an18 cd18 ct18), (PySem.W.fnOf "moved" "moved" (defArgs s19) (defBody s19) (defScope s19) .none kV19 dc19 pm19 an19 cd19 ct19), (PySem.W.fnOf "__mul__" "Jobs.__mul__" (defArgs s20) (defBody s20) (defScope s20) .none kV20 dc20 pm20 an20 cd20 ct20), (PySem.W.fnOf "__rmul__" "Jobs.__rmul__" (defArgs s21) (defBody s21) (defScope s21) .none kV21 dc21 pm21 an21 cd21 ct21), (PySem.W.fnOf "_law_sum" "_law_sum" (defArgs s22) (defBody s22) (defScope s22) .none kV22 dc22 pm22 an22 cd22 ct22), (PySem.W.fnOf "_law_alike" "_law_alike" (defArgs s23) (defBody s23) (defScope s23) .none kV23 dc23 pm23 an23 cd23 ct23), (PySem.W.fnOf "_law_beside" "_law_beside" (defArgs s24) (defBody s24) (defScope s24) .none kV24 dc24 pm24 an24 cd24 ct24), (PySem.W.fnOf "_law_repeated" "_law_repeated" (defArgs s25) (defBody s25) (defScope s25) .none kV25 dc25 pm25 an25 cd25 ct25)]) := {
    F0 := F0
    b0 := b0
    k0 := k0
    m0 := PySem.W.mg_of X G a0
    F1 := F1
    b1 := b1
    k1 := k1
    m1 := PySem.W.mg_of X G a1
    F2 := F2
    b2 := b2
    k2 := k2
    m2 := PySem.W.mg_of X G a2
    F3 := F3
    b3 := b3
    k3 := k3
    m3 := PySem.W.mg_of X G a3
    F4 := F4
    b4 := b4
    k4 := k4
    m4 := PySem.W.mg_of X G a4
    F5 := F5
    b5 := b5
    k5 := k5
    m5 := PySem.W.mg_of X G a5
    F6 := F6
    b6 := b6
    k6 := k6
    m6 := PySem.W.mg_of X G a6
    F7 := F7
    b7 := b7
    k7 := k7
    F8 := F8
    b8 := b8
    k8 := k8
    m8 := PySem.W.mg_of X G a8
    F9 := F9
    b9 := b9
    k9 := k9
    m9 := PySem.W.mg_of X G a9
    F10 := F10
    b10 := b10
    k10 := k10
    xi21 := a10
    xt21 := i10
    F11 := F11
    b11 := b11
    k11 := k11
    m11 := PySem.W.mg_of X G a11
    F12 := F12
    b12 := b12
    k12 := k12
    m12 := PySem.W.mg_of X G a12
    F13 := F13
    b13 := b13
    k13 := k13
    xi24 := a13
    xt24 := i13
    F14 := F14
    b14 := b14
    k14 := k14
    m14 := PySem.W.mg_of X G a14
    F15 := F15
    b15 := b15
    k15 := k15
    t15 := ⟨a15, i15, k15⟩
    F16 := F16
    b16 := b16
    k16 := k16
    xi23 := a16
    xt23 := i16
    F17 := F17
    b17 := b17
    k17 := k17
    xi22 := a17
    xt22 := i17
    F18 := F18
    b18 := b18
    k18 := k18
    t18 := ⟨a18, i18, k18⟩
    F19 := F19
    b19 := b19
    k19 := k19
    m19 := PySem.W.mg_of X G a19
    F20 := F20
    b20 := b20
    k20 := k20
    t20 := ⟨a20, i20, k20⟩
    F21 := F21
    b21 := b21
    k21 := k21
    t21 := ⟨a21, i21, k21⟩
    F22 := F22
    b22 := b22
    k22 := k22
    m22 := PySem.W.mg_of X G a22
    F23 := F23
    b23 := b23
    k23 := k23
    m23 := PySem.W.mg_of X G a23
    F24 := F24
    b24 := b24
    k24 := k24
    m24 := PySem.W.mg_of X G a24
    F25 := F25
    b25 := b25
    k25 := k25
    m25 := PySem.W.mg_of X G a25
    mgC0 := PySem.W.mg_of X G aC0
    cl0 := cl0
    mk0 := ⟨mk0, a7, i7, kc0⟩
    mgC20 := PySem.W.mg_of X G aC20
    mgC21 := PySem.W.mg_of X G aC21
    mgC22 := PySem.W.mg_of X G aC22
    mgC23 := PySem.W.mg_of X G aC23
    mgC24 := PySem.W.mg_of X G aC24
    bi0_add := ⟨sf0, bs0_add, i15⟩
    bt0_add_int := ⟨⟨_, br0_add, .inl rfl⟩, ⟨_, bf0_add_int⟩, ⟨_, bg0_add_int⟩, rfl⟩
    bt0_add_tuple := ⟨⟨_, br0_add, .inl rfl⟩, ⟨_, bf0_add_tuple⟩, ⟨_, bg0_add_tuple⟩, rfl⟩
    bi0_mul := ⟨sf0, bs0_mul, i20⟩
    bt0_mul_int := ⟨⟨_, br0_mul, .inr ⟨_, rfl⟩⟩, ⟨_, bf0_mul_int⟩, ⟨_, bg0_mul_int⟩, rfl⟩
    bt0_mul_tuple := ⟨⟨_, br0_mul, .inr ⟨_, rfl⟩⟩, ⟨_, bf0_mul_tuple⟩, ⟨_, bg0_mul_tuple⟩, rfl⟩
    br0_mul := ⟨br0_mul, i21, bv0_mul⟩
    bi0_or := ⟨sf0, bs0_or, i18⟩
    bt0_or_int := ⟨⟨_, br0_or, .inl rfl⟩, ⟨_, bf0_or_int⟩, ⟨_, bg0_or_int⟩, rfl⟩
    bt0_or_tuple := ⟨⟨_, br0_or, .inl rfl⟩, ⟨_, bf0_or_tuple⟩, ⟨_, bg0_or_tuple⟩, rfl⟩
    n0_jobs := n0_jobs
    n0_size := n0_size
    x24 := x24
    xa24_at := xa24_at
    x22 := x22
    xa22_limit := xa22_limit
    x23 := x23
    x21 := x21
    xa21_place := xa21_place
    crd := ⟨e_rd, e_ga⟩
    cri := e_in
    xk := xk0.sub fun C m => pickX_mem m
    xn_limit := fun C m => by
      have m := pickX_mem m
      simp only [List.map_cons, List.map_nil, List.mem_cons, List.not_mem_nil, or_false] at m
      rcases m with rfl | rfl | rfl | rfl | rfl
      · exact xa21_limit
      · exact xa21_limit
      · exact xa22_limit
      · exact xa23_limit
      · exact xa24_limit
    ik := IsiK.of (fun C m => by
      have m := pickC_mem m
      simp only [List.map_cons, List.map_nil, List.mem_cons, List.not_mem_nil, or_false] at m
      rcases m with rfl | rfl
      · exact cf0
      · exact cf0) (fun C m C2 m2 hne => by
      have m := pickC_mem m
      have m2 := pickC_mem m2
      simp only [List.map_cons, List.map_nil, List.mem_cons, List.not_mem_nil, or_false] at m m2
      rcases m with rfl | rfl <;> rcases m2 with rfl | rfl
      · exact absurd rfl hne
      · exact absurd rfl hne
      · exact absurd rfl hne
      · exact absurd rfl hne)
    z_abs := PySem.W.mg_none_of X G z_abs
    z_all := PySem.W.mg_none_of X G z_all
    z_bool := PySem.W.mg_none_of X G z_bool
    z_enumerate := PySem.W.mg_none_of X G z_enumerate
    z_int := PySem.W.mg_none_of X G z_int
    z_isinstance := PySem.W.mg_none_of X G z_isinstance
    z_len := PySem.W.mg_none_of X G z_len
    z_list := PySem.W.mg_none_of X G z_list
    z_min := PySem.W.mg_none_of X G z_min
    z_range := PySem.W.mg_none_of X G z_range
    z_repr := PySem.W.mg_none_of X G z_repr
    z_tuple := PySem.W.mg_none_of X G z_tuple
    gi_MOST_JOBS := ⟨_, PySem.W.mg_of X G g_MOST_JOBS, ⟨_, rfl⟩⟩
    gi_MOST_SIZE := ⟨_, PySem.W.mg_of X G g_MOST_SIZE, ⟨_, rfl⟩⟩ }
  exact ⟨(PySem.W.fnOf "law" "law" (defArgs s0) (defBody s0) (defScope s0) .none kV0 dc0 pm0 an0 cd0 ct0), m_lawK17 (pickA [(0, c0)] c0 c20 [(21, c21), (22, c22), (23, c23), (24, c24)] c21), fun s v => .of_eq rfl, fun ns hn => yes (pickA [(0, c0)] c0 c20 [(21, c21), (22, c22), (23, c23), (24, c24)] c21) (by simp only [List.nodup_cons, List.mem_cons, List.not_mem_nil, or_false, not_or, not_false_eq_true, List.nodup_nil, and_true]; exact ⟨⟨ne20_21, ne20_22, ne20_23, ne20_24⟩, ⟨ne21_22, ne21_23, ne21_24⟩, ⟨ne22_23, ne22_24⟩, ne23_24⟩) ns hn, fun bs _ _ => ok_lawK17 T⟩
end K17

open PySem PySem.W PyProof.Rows in
set_option maxRecDepth 100000 in
set_option maxHeartbeats 0 in
theorem PySem.Challenge.cw_crewlists_k17_jobs_joined_holds : PySem.Challenge.rw_crewlists_k17_jobs_joined.Holds := by
  w_on; o_law; k_head; (case hw => w_witness2)
  k_fill
  refine Cw.walkG (l := PySem.Challenge.rw_crewlists_k17_jobs_joined) (n := 63) (k := 8) (x := "_law_script") rfl (by decide) rfl ⟨rfl, by decide, by decide⟩ (fun w h Y => PySem.W.kIn_of Y) ?F
  case F =>
    intro w mg fa h KX G hmg
    refine' K17.all_mk KX G hmg ?aC0 ?aC20 ?aC21 ?aC22 ?aC23 ?aC24 ?a0 ?l0 ?c0_ ?k0 ?a1 ?l1 ?c1_ ?k1 ?a2 ?l2 ?c2_ ?k2 ?a3 ?l3 ?c3_ ?k3 ?a4 ?l4 ?c4_ ?k4 ?a5 ?l5 ?c5_ ?k5 ?a6 ?l6 ?c6_ ?k6 ?a7 ?i7 ?l7 ?c7_ ?k7 ?a8 ?l8 ?c8_ ?k8 ?a9 ?l9 ?c9_ ?k9 ?a10 ?i10 ?l10 ?c10_ ?k10 ?a11 ?l11 ?c11_ ?k11 ?a12 ?l12 ?c12_ ?k12 ?a13 ?i13 ?l13 ?c13_ ?k13 ?a14 ?l14 ?c14_ ?k14 ?a15 ?i15 ?l15 ?c15_ ?k15 ?a16 ?i16 ?l16 ?c16_ ?k16 ?a17 ?i17 ?l17 ?c17_ ?k17 ?a18 ?i18 ?l18 ?c18_ ?k18 ?a19 ?l19 ?c19_ ?k19 ?a20 ?i20 ?l20 ?c20_ ?k20 ?a21 ?i21 ?l21 ?c21_ ?k21 ?a22 ?l22 ?c22_ ?k22 ?a23 ?l23 ?c23_ ?k23 ?a24 ?l24 ?c24_ ?k24 ?a25 ?l25 ?c25_ ?k25 ?pg0 ?hd0 ?po0 ?sa0 ?mk0 ?kc0 ?ha0 ?ty0 ?cc0 ?mo0 ?mNoneType0 ?mbool0 ?mint0 ?mstr0 ?mtuple0 ?mlist0 ?mdict0 ?hn ?htk ?e_rd ?e_ga ?e_in ?e_ic ?e_ty ?e_sb ?xl21 ?xsa21 ?xeb21 ?xty21 ?xkp21 ?xga21 ?xgg21 ?xhd21 ?xha21 ?xmo21 ?xa21_limit ?xa21_place ?xz21 ?xce21 ?xve21 ?xs21_21 ?xs21_22 ?xs21_23 ?xs21_24 ?xl22 ?xsa22 ?xeb22 ?xty22 ?xkp22 ?xga22 ?xgg22 ?xhd22 ?xha22 ?xmo22 ?xa22_limit ?xz22 ?xce22 ?xve22 ?xs22_21 ?xs22_22 ?xs22_23 ?xs22_24 ?xl23 ?xsa23 ?xeb23 ?xty23 ?xkp23 ?xga23 ?xgg23 ?xhd23 ?xha23 ?xmo23 ?xa23_limit ?xz23 ?xce23 ?xve23 ?xs23_21 ?xs23_22 ?xs23_23 ?xs23_24 ?xl24 ?xsa24 ?xeb24 ?xty24 ?xkp24 ?xga24 ?xgg24 ?xhd24 ?xha24 ?xmo24 ?xa24_at ?xa24_limit ?xz24 ?xce24 ?xve24 ?xs24_21 ?xs24_22 ?xs24_23 ?xs24_24 ?sf0 ?bs0_add ?br0_add ?bf0_add_int ?bg0_add_int ?bf0_add_tuple ?bg0_add_tuple ?bs0_mul ?br0_mul ?bv0_mul ?bf0_mul_int ?bg0_mul_int ?bf0_mul_tuple ?bg0_mul_tuple ?bs0_or ?br0_or ?bf0_or_int ?bg0_or_int ?bf0_or_tuple ?bg0_or_tuple ?n0_jobs ?n0_size ?z_abs ?z_all ?z_bool ?z_enumerate ?z_int ?z_isinstance ?z_len ?z_list ?z_min ?z_range ?z_repr ?z_tuple ?g_MOST_JOBS ?g_MOST_SIZE ?xr21 ?xr22 ?xr23 ?xr24
    (case aC0 => k_is)
    (case aC20 => k_is)
    (case aC21 => k_is)
    (case aC22 => k_is)
    (case aC23 => k_is)
    (case aC24 => k_is)
    (case a0 => k_is)
    (case l0 => k_is)
    (case c0_ => k_is)
    (case k0 => k_is)
    (case a1 => k_is)
    (case l1 => k_is)
    (case c1_ => k_is)
    (case k1 => k_is)
    (case a2 => k_is)
    (case l2 => k_is)
    (case c2_ => k_is)
    (case k2 => k_is)
    (case a3 => k_is)
    (case l3 => k_is)
    (case c3_ => k_is)
    (case k3 => k_is)
    (case a4 => k_is)
    (case l4 => k_is)
    (case c4_ => k_is)
    (case k4 => k_is)
    (case a5 => k_is)
    (case l5 => k_is)
    (case c5_ => k_is)
    (case k5 => k_is)
    (case a6 => k_is)
    (case l6 => k_is)
    (case c6_ => k_is)
    (case k6 => k_is)
    (case a7 => k_is)
    (case i7 => k_is)
    (case l7 => k_is)
    (case c7_ => k_is)
    (case k7 => k_is)
    (case a8 => k_is)
    (case l8 => k_is)
    (case c8_ => k_is)
    (case k8 => k_is)
    (case a9 => k_is)
    (case l9 => k_is)
    (case c9_ => k_is)
    (case k9 => k_is)
    (case a10 => k_is)
    (case i10 => k_is)
    (case l10 => k_is)
    (case c10_ => k_is)
    (case k10 => k_is)
    (case a11 => k_is)
    (case l11 => k_is)
    (case c11_ => k_is)
    (case k11 => k_is)
    (case a12 => k_is)
    (case l12 => k_is)
    (case c12_ => k_is)
    (case k12 => k_is)
    (case a13 => k_is)
    (case i13 => k_is)
    (case l13 => k_is)
    (case c13_ => k_is)
    (case k13 => k_is)
    (case a14 => k_is)
    (case l14 => k_is)
    (case c14_ => k_is)
    (case k14 => k_is)
    (case a15 => k_is)
    (case i15 => k_is)
    (case l15 => k_is)
    (case c15_ => k_is)
    (case k15 => k_is)
    (case a16 => k_is)
    (case i16 => k_is)
    (case l16 => k_is)
    (case c16_ => k_is)
    (case k16 => k_is)
    (case a17 => k_is)
    (case i17 => k_is)
    (case l17 => k_is)
    (case c17_ => k_is)
    (case k17 => k_is)
    (case a18 => k_is)
    (case i18 => k_is)
    (case l18 => k_is)
    (case c18_ => k_is)
    (case k18 => k_is)
    (case a19 => k_is)
    (case l19 => k_is)
    (case c19_ => k_is)
    (case k19 => k_is)
    (case a20 => k_is)
    (case i20 => k_is)
    (case l20 => k_is)
    (case c20_ => k_is)
    (case k20 => k_is)
    (case a21 => k_is)
    (case i21 => k_is)
    (case l21 => k_is)
    (case c21_ => k_is)
    (case k21 => k_is)
    (case a22 => k_is)
    (case l22 => k_is)
    (case c22_ => k_is)
    (case k22 => k_is)
    (case a23 => k_is)
    (case l23 => k_is)
    (case c23_ => k_is)
    (case k23 => k_is)
    (case a24 => k_is)
    (case l24 => k_is)
    (case c24_ => k_is)
    (case k24 => k_is)
    (case a25 => k_is)
    (case l25 => k_is)
    (case c25_ => k_is)
    (case k25 => k_is)
    (case pg0 => k_is)
    (case hd0 => k_is)
    (case po0 => k_is)
    (case sa0 => k_is)
    (case mk0 => k_is)
    (case kc0 => k_is)
    (case ha0 => k_is)
    (case ty0 => k_is)
    (case cc0 => k_is)
    (case mo0 => k_is)
    (case mNoneType0 => k_is)
    (case mbool0 => k_is)
    (case mint0 => k_is)
    (case mstr0 => k_is)
    (case mtuple0 => k_is)
    (case mlist0 => k_is)
    (case mdict0 => k_is)
    (case hn => k_is)
    (case htk => k_is)
    (case e_rd => k_is)
    (case e_ga => k_is)
    (case e_in => k_is)
    (case e_ic => k_is)
    (case e_ty => k_is)
    (case e_sb => k_is)
    (case xl21 => k_is)
    (case xsa21 => k_is)
    (case xeb21 => k_is)
    (case xty21 => k_is)
    (case xkp21 => k_is)
    (case xga21 => k_is)
    (case xgg21 => k_is)
    (case xhd21 => k_is)
    (case xha21 => k_is)
    (case xmo21 => k_is)
    (case xa21_limit => k_is)
    (case xa21_place => k_is)
    (case xz21 => k_is)
    (case xce21 => k_is)
    (case xve21 => k_is)
    (case xs21_21 => k_is)
    (case xs21_22 => k_is)
    (case xs21_23 => k_is)
    (case xs21_24 => k_is)
    (case xl22 => k_is)
    (case xsa22 => k_is)
    (case xeb22 => k_is)
    (case xty22 => k_is)
    (case xkp22 => k_is)
    (case xga22 => k_is)
    (case xgg22 => k_is)
    (case xhd22 => k_is)
    (case xha22 => k_is)
    (case xmo22 => k_is)
    (case xa22_limit => k_is)
    (case xz22 => k_is)
    (case xce22 => k_is)
    (case xve22 => k_is)
    (case xs22_21 => k_is)
    (case xs22_22 => k_is)
    (case xs22_23 => k_is)
    (case xs22_24 => k_is)
    (case xl23 => k_is)
    (case xsa23 => k_is)
    (case xeb23 => k_is)
    (case xty23 => k_is)
    (case xkp23 => k_is)
    (case xga23 => k_is)
    (case xgg23 => k_is)
    (case xhd23 => k_is)
    (case xha23 => k_is)
    (case xmo23 => k_is)
    (case xa23_limit => k_is)
    (case xz23 => k_is)
    (case xce23 => k_is)
    (case xve23 => k_is)
    (case xs23_21 => k_is)
    (case xs23_22 => k_is)
    (case xs23_23 => k_is)
    (case xs23_24 => k_is)
    (case xl24 => k_is)
    (case xsa24 => k_is)
    (case xeb24 => k_is)
    (case xty24 => k_is)
    (case xkp24 => k_is)
    (case xga24 => k_is)
    (case xgg24 => k_is)
    (case xhd24 => k_is)
    (case xha24 => k_is)
    (case xmo24 => k_is)
    (case xa24_at => k_is)
    (case xa24_limit => k_is)
    (case xz24 => k_is)
    (case xce24 => k_is)
    (case xve24 => k_is)
    (case xs24_21 => k_is)
    (case xs24_22 => k_is)
    (case xs24_23 => k_is)
    (case xs24_24 => k_is)
    (case sf0 => k_is)
    (case bs0_add => k_is)
    (case br0_add => k_is)
    (case bf0_add_int => k_is)
    (case bg0_add_int => k_is)
    (case bf0_add_tuple => k_is)
    (case bg0_add_tuple => k_is)
    (case bs0_mul => k_is)
    (case br0_mul => k_is)
    (case bv0_mul => k_is)
    (case bf0_mul_int => k_is)
    (case bg0_mul_int => k_is)
    (case bf0_mul_tuple => k_is)
    (case bg0_mul_tuple => k_is)
    (case bs0_or => k_is)
    (case br0_or => k_is)
    (case bf0_or_int => k_is)
    (case bg0_or_int => k_is)
    (case bf0_or_tuple => k_is)
    (case bg0_or_tuple => k_is)
    (case n0_jobs => k_is)
    (case n0_size => k_is)
    (case z_abs => k_is)
    (case z_all => k_is)
    (case z_bool => k_is)
    (case z_enumerate => k_is)
    (case z_int => k_is)
    (case z_isinstance => k_is)
    (case z_len => k_is)
    (case z_list => k_is)
    (case z_min => k_is)
    (case z_range => k_is)
    (case z_repr => k_is)
    (case z_tuple => k_is)
    (case g_MOST_JOBS => k_is)
    (case g_MOST_SIZE => k_is)
    (case xr21 => decide +kernel)
    (case xr22 => decide +kernel)
    (case xr23 => decide +kernel)
    (case xr24 => decide +kernel)

