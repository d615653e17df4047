import PyProof.Rows.All
import Wide.All
import OpenK.AllK
import Wide.FinOn
import HandS.Base
import HandS.Call
import HandS.List
import HandS.Comp
import HandS.Dict
import HandS.Iter
import HandS.Text
import HandS.Exc
import HandS.TryMany
import HandS.IsInst
import HandS.More
import HandS.Words
import HandS.WordsExc
import HandS.CallSlots
import HandS.WordsDict
import HandS.TupAny
import HandS.WordsList
import HandS.EndBits
import HandS.Codes
import PySem.Challenge.RW_dropfates_k02_names_and_words
set_option Elab.async false
set_option linter.all false
set_option maxRecDepth 100000
set_option maxHeartbeats 4000000
/-! The layer Z over HandS: value semantics. Data as trees, ownership by levels, no heap in the mirrors. -/
namespace Z
open PySem L2

/-! ### data -/
inductive D where
  | non | bl (b : Bool) | int (i : Int) | str (s : Str)
  | lst (xs : List D) | tup (xs : List D) | dct (kvs : List (Key × D)) | obj (C : Str) (fs : List (Str × D)) | rol (xs : List D)
  deriving Inhabited
abbrev T := D × Nat
/-- what stands at an index of the state: nothing known, a tree of that level, another index' tree -/
inductive Ce where
  | un | ow (d : D) (n : Nat) | pa (j : Nat)
  deriving Inhabited
abbrev S := List Ce
structure Ex where
  C : Str
  fs : List (Str × D)

/-- the classes by name -/
structure Zc where
  K : PySem.W.Frag
  cl : Str → Option Addr

/-! ### frozen data -/
inductive RF (c : Zc) (Z : Hp) : D → V → Prop where
  | non : RF c Z .non .non
  | bl {b : Bool} : RF c Z (.bl b) (.bl b)
  | int {i : Int} : RF c Z (.int i) (.int i)
  | str {s : Str} : RF c Z (.str s) (.str s)
  | lst {a : Addr} {vs : List V} {xs : List D} (h : Z a = some (.lst vs)) (hl : xs.length = vs.length) (hx : ∀ (i : Nat) d v, xs[i]? = some d → vs[i]? = some v → RF c Z d v) : RF c Z (.lst xs) (.ref a)
  | rol {a : Addr} {vs : List V} {xs : List D} (h : SqL c.K Z a vs) (hl : xs.length = vs.length) (hx : ∀ (i : Nat) d v, xs[i]? = some d → vs[i]? = some v → RF c Z d v) : RF c Z (.rol xs) (.ref a)
  | tup {a : Addr} {vs : List V} {xs : List D} (h : SqT c.K Z a vs) (hl : xs.length = vs.length) (hx : ∀ (i : Nat) d v, xs[i]? = some d → vs[i]? = some v → RF c Z d v) : RF c Z (.tup xs) (.ref a)
  | dct {a : Addr} {vs : List (Key × V)} {kvs : List (Key × D)} (h : Z a = some (.dK vs)) (hk : kvs.map (·.1) = vs.map (·.1)) (hx : ∀ (i : Nat) d v, (kvs.map (·.2))[i]? = some d → (vs.map (·.2))[i]? = some v → RF c Z d v) : RF c Z (.dct kvs) (.ref a)
  | obj {C : Str} {A a dx : Addr} {vs : List (Str × V)} {fs : List (Str × D)} (hc : c.cl C = some A) (h : Z a = some (.ins A dx vs)) (hk : fs.map (·.1) = vs.map (·.1)) (hx : ∀ (i : Nat) d v, (fs.map (·.2))[i]? = some d → (vs.map (·.2))[i]? = some v → RF c Z d v) : RF c Z (.obj C fs) (.ref a)

def Sm (Z Z' : Hp) : Prop := ∀ a o, Z a = some o → Z' a = some o
theorem Sm.refl (Z : Hp) : Sm Z Z := fun _ _ h => h
theorem Sm.trans {A B C : Hp} (h : Sm A B) (k : Sm B C) : Sm A C := fun a o e => k a o (h a o e)
theorem Sm.rd {Z Z' : Hp} (s : Sm Z Z') {a : Addr} {u : HO} (h : Rd Z a u) : Rd Z' a u := by
  rcases h with h | ⟨o, h⟩
  · exact .inl (s _ _ h)
  · exact .inr ⟨o, s _ _ h⟩
theorem Sm.sqL {K : PySem.W.Frag} {Z Z' : Hp} (s : Sm Z Z') {a : Addr} {xs : List V} (h : SqL K Z a xs) : SqL K Z' a xs := by
  rcases h with h | h
  · exact .inl (s.rd h)
  · exact .inr h
theorem Sm.sqT {K : PySem.W.Frag} {Z Z' : Hp} (s : Sm Z Z') {a : Addr} {xs : List V} (h : SqT K Z a xs) : SqT K Z' a xs := by
  rcases h with h | h
  · exact .inl (s.rd h)
  · exact .inr h
theorem RF.mono {c : Zc} {Z Z' : Hp} (s : Sm Z Z') {d : D} {v : V} (h : RF c Z d v) : RF c Z' d v := by
  induction h with
  | non => exact .non
  | bl => exact .bl
  | int => exact .int
  | str => exact .str
  | lst h hl _ ih => exact .lst (s _ _ h) hl ih
  | rol h hl _ ih => exact .rol (s.sqL h) hl ih
  | tup h hl _ ih => exact .tup (s.sqT h) hl ih
  | dct h hk _ ih => exact .dct (s _ _ h) hk ih
  | obj hc h hk _ ih => exact .obj hc (s _ _ h) hk ih

/-- the frozen part lies in the heap; a dict that a loop walks may be locked there -/
def Sub (Z H : Hp) : Prop := ∀ a o, Z a = some o → H a = some o ∨ ∃ ob kvs, H a = some (.frz ob o) ∧ o = .dK kvs
theorem Sub.rd {Z H : Hp} (s : Sub Z H) {a : Addr} {u : HO} (h : Rd Z a u) : Rd H a u := by
  rcases h with h | ⟨o, h⟩
  · rcases s _ _ h with h | ⟨ob, _, h, _⟩
    · exact .inl h
    · exact .inr ⟨ob, h⟩
  · rcases s _ _ h with h | ⟨ob, _, _, m⟩
    · exact .inr ⟨o, h⟩
    · cases m
theorem Sub.sqL {K : PySem.W.Frag} {Z H : Hp} (s : Sub Z H) {a : Addr} {xs : List V} (h : SqL K Z a xs) : SqL K H a xs := by
  rcases h with h | h
  · exact .inl (s.rd h)
  · exact .inr h
theorem Sub.sqT {K : PySem.W.Frag} {Z H : Hp} (s : Sub Z H) {a : Addr} {xs : List V} (h : SqT K Z a xs) : SqT K H a xs := by
  rcases h with h | h
  · exact .inl (s.rd h)
  · exact .inr h
theorem Sub.get {Z H : Hp} (s : Sub Z H) {a : Addr} {o : HO} (h : Z a = some o) (hn : ∀ kvs, o ≠ .dK kvs) : H a = some o := by
  rcases s _ _ h with h | ⟨_, kvs, _, e⟩
  · exact h
  · exact absurd e (hn kvs)
theorem Sub.some {Z H : Hp} (s : Sub Z H) {a : Addr} {o : HO} (h : Z a = some o) : H a ≠ none := by
  rcases s _ _ h with h | ⟨_, _, h, _⟩ <;> rw [h] <;> exact fun z => nomatch z
theorem Sub.none {Z H : Hp} (s : Sub Z H) {a : Addr} (h : H a = none) : Z a = none := by
  cases e : Z a with
  | none => rfl
  | some o => exact absurd h (s.some e)

/-! ### lists with footprints -/
def LR {α β : Type} (R : α → β → List Addr → Prop) : List α → List β → List Addr → Prop
  | [], [], fp => fp = []
  | a :: as, b :: bs, fp => ∃ f g, fp = f ++ g ∧ R a b f ∧ LR R as bs g
  | _, _, _ => False
section
variable {α β : Type} {R R' : α → β → List Addr → Prop}
theorem LR.len : ∀ {as : List α} {bs : List β} {fp : List Addr}, LR R as bs fp → as.length = bs.length
  | [], [], _, _ => rfl
  | _ :: _, _ :: _, _, ⟨_, _, _, _, h⟩ => congrArg (· + 1) (LR.len h)
  | [], _ :: _, _, h => h.elim
  | _ :: _, [], _, h => h.elim
theorem LR.imp : ∀ {as : List α} {bs : List β} {fp : List Addr}, LR R as bs fp → (∀ a b f, (∀ x ∈ f, x ∈ fp) → a ∈ as → R a b f → R' a b f) → LR R' as bs fp
  | [], [], _, h, _ => h
  | a :: as, b :: bs, _, ⟨f, g, e, h1, h2⟩, k => ⟨f, g, e, k a b f (fun x hx => by rw [e]; exact List.mem_append_left _ hx) List.mem_cons_self h1, LR.imp h2 fun a b f hf ha => k a b f (fun x hx => by rw [e]; exact List.mem_append_right _ (hf x hx)) (List.mem_cons_of_mem _ ha)⟩
  | [], _ :: _, _, h, _ => h.elim
  | _ :: _, [], _, h, _ => h.elim
theorem LR.append : ∀ {as as' : List α} {bs bs' : List β} {f g : List Addr}, LR R as bs f → LR R as' bs' g → LR R (as ++ as') (bs ++ bs') (f ++ g)
  | [], _, [], _, _, _, h, k => by rw [show _ = [] from h]; exact k
  | a :: as, _, b :: bs, _, _, _, ⟨f, g, e, h1, h2⟩, k => ⟨f, _, by rw [e, List.append_assoc], h1, LR.append h2 k⟩
  | [], _, _ :: _, _, _, _, h, _ => h.elim
  | _ :: _, _, [], _, _, _, h, _ => h.elim
theorem LR.split : ∀ {as as' : List α} {bs bs' : List β} {fp : List Addr}, as.length = bs.length → LR R (as ++ as') (bs ++ bs') fp → ∃ f g, fp = f ++ g ∧ LR R as bs f ∧ LR R as' bs' g
  | [], _, [], _, fp, _, h => ⟨[], fp, rfl, rfl, h⟩
  | a :: as, _, b :: bs, _, _, hl, ⟨f, g, e, h1, h2⟩ => by
    obtain ⟨f', g', e', k1, k2⟩ := LR.split (Nat.succ.inj hl) h2
    exact ⟨f ++ f', g', by rw [e, e', List.append_assoc], ⟨f, f', rfl, h1, k1⟩, k2⟩
  | [], _, _ :: _, _, _, hl, _ => by cases hl
  | _ :: _, _, [], _, _, hl, _ => by cases hl
/-- the item at an index, and what may be put in its place -/
theorem LR.get : ∀ {as : List α} {bs : List β} {fp : List Addr} {i : Nat} {a : α}, LR R as bs fp → as[i]? = some a → ∃ b g1 f g2, bs[i]? = some b ∧ fp = g1 ++ f ++ g2 ∧ R a b f ∧ ∀ a' b' f', R a' b' f' → LR R (as.set i a') (bs.set i b') (g1 ++ f' ++ g2)
  | a :: as, b :: bs, _, 0, x, ⟨f, g, e, h1, h2⟩, hi => by
    cases hi
    exact ⟨b, [], f, g, rfl, e, h1, fun a' b' f' h => ⟨f', g, rfl, h, h2⟩⟩
  | a :: as, b :: bs, _, i + 1, x, ⟨f, g, e, h1, h2⟩, hi => by
    obtain ⟨y, g1, f', g2, e1, e2, r, k⟩ := LR.get (i := i) h2 (by simpa using hi)
    exact ⟨y, f ++ g1, f', g2, by simpa using e1, by rw [e, e2]; simp [List.append_assoc], r, fun a' b' f'' h => ⟨f, _, by simp [List.append_assoc], h1, k a' b' f'' h⟩⟩
  | [], _, _, i, _, _, hi => by simp at hi
  | _ :: _, [], _, _, _, h, _ => h.elim
theorem LR.nil {bs : List β} {fp : List Addr} (h : LR R [] bs fp) : bs = [] ∧ fp = [] := by
  cases bs with
  | nil => exact ⟨rfl, h⟩
  | cons => exact h.elim
theorem LR.one {a : α} {b : β} {f : List Addr} (h : R a b f) : LR R [a] [b] f := ⟨f, [], by simp, h, rfl⟩
theorem LR.of_one {a : α} {bs : List β} {f : List Addr} (h : LR R [a] bs f) : ∃ b, bs = [b] ∧ R a b f := by
  cases bs with
  | nil => exact h.elim
  | cons b r =>
    obtain ⟨f1, g, e, h1, h2⟩ := h
    obtain ⟨rfl, rfl⟩ := LR.nil h2
    rw [List.append_nil] at e
    subst e
    exact ⟨b, rfl, h1⟩
end

/-! ### live trees -/
def RT (c : Zc) (Z H : Hp) : Nat → D → V → List Addr → Prop
  | 0, d, v, fp => RF c Z d v ∧ fp = []
  | n + 1, .lst xs, v, fp => ∃ a vs f, v = .ref a ∧ H a = some (.lst vs) ∧ LR (RT c Z H n) xs vs f ∧ fp = a :: f
  | n + 1, .tup xs, v, fp => ∃ a vs f, v = .ref a ∧ H a = some (.tup vs) ∧ LR (RT c Z H n) xs vs f ∧ fp = a :: f
  | n + 1, .dct kvs, v, fp => ∃ a vs f, v = .ref a ∧ H a = some (.dK vs) ∧ kvs.map (·.1) = vs.map (·.1) ∧ LR (RT c Z H n) (kvs.map (·.2)) (vs.map (·.2)) f ∧ fp = a :: f
  | n + 1, .obj C fs, v, fp => ∃ A a dx vs f, v = .ref a ∧ c.cl C = some A ∧ H a = some (.ins A dx vs) ∧ fs.map (·.1) = vs.map (·.1) ∧ LR (RT c Z H n) (fs.map (·.2)) (vs.map (·.2)) f ∧ fp = a :: f
  | _ + 1, .rol xs, v, fp => RF c Z (.rol xs) v ∧ fp = []
  | _ + 1, .non, v, fp => v = .non ∧ fp = []
  | _ + 1, .bl b, v, fp => v = .bl b ∧ fp = []
  | _ + 1, .int i, v, fp => v = .int i ∧ fp = []
  | _ + 1, .str s, v, fp => v = .str s ∧ fp = []

theorem RT.stay {c : Zc} {Z Z' H H' : Hp} (sz : Sm Z Z') : ∀ {n : Nat} {d : D} {v : V} {fp : List Addr}, RT c Z H n d v fp → (∀ a ∈ fp, H' a = H a) → RT c Z' H' n d v fp
  | 0, d, v, fp, ⟨h, e⟩, _ => ⟨h.mono sz, e⟩
  | n + 1, .lst xs, v, fp, ⟨a, vs, f, h1, h2, h3, h4⟩, k => ⟨a, vs, f, h1, (k a (by rw [h4]; exact List.mem_cons_self)).trans h2, LR.imp h3 fun _ _ g hg _ h => RT.stay sz h fun x hx => k x (by rw [h4]; exact List.mem_cons_of_mem _ (hg x hx)), h4⟩
  | n + 1, .tup xs, v, fp, ⟨a, vs, f, h1, h2, h3, h4⟩, k => ⟨a, vs, f, h1, (k a (by rw [h4]; exact List.mem_cons_self)).trans h2, LR.imp h3 fun _ _ g hg _ h => RT.stay sz h fun x hx => k x (by rw [h4]; exact List.mem_cons_of_mem _ (hg x hx)), h4⟩
  | n + 1, .dct kvs, v, fp, ⟨a, vs, f, h1, h2, h0, h3, h4⟩, k => ⟨a, vs, f, h1, (k a (by rw [h4]; exact List.mem_cons_self)).trans h2, h0, LR.imp h3 fun _ _ g hg _ h => RT.stay sz h fun x hx => k x (by rw [h4]; exact List.mem_cons_of_mem _ (hg x hx)), h4⟩
  | n + 1, .obj C fs, v, fp, ⟨A, a, dx, vs, f, h1, hc, h2, h0, h3, h4⟩, k => ⟨A, a, dx, vs, f, h1, hc, (k a (by rw [h4]; exact List.mem_cons_self)).trans h2, h0, LR.imp h3 fun _ _ g hg _ h => RT.stay sz h fun x hx => k x (by rw [h4]; exact List.mem_cons_of_mem _ (hg x hx)), h4⟩
  | _ + 1, .rol _, _, _, h, _ => ⟨h.1.mono sz, h.2⟩
  | _ + 1, .non, _, _, h, _ => h
  | _ + 1, .bl _, _, _, h, _ => h
  | _ + 1, .int _, _, _, h, _ => h
  | _ + 1, .str _, _, _, h, _ => h

theorem LR.mem {α β : Type} {R : α → β → List Addr → Prop} {P : Addr → Prop} : ∀ {as : List α} {bs : List β} {fp : List Addr}, LR R as bs fp → (∀ a b f, R a b f → ∀ x ∈ f, P x) → ∀ x ∈ fp, P x
  | [], [], _, h, _, x, hx => by rw [show _ = [] from h] at hx; cases hx
  | a :: as, b :: bs, _, ⟨f, g, e, h1, h2⟩, k, x, hx => by
    rw [e] at hx
    rcases List.mem_append.mp hx with hx | hx
    · exact k a b f h1 x hx
    · exact LR.mem h2 k x hx
  | [], _ :: _, _, h, _, _, _ => h.elim
  | _ :: _, [], _, h, _, _, _ => h.elim

theorem RT.there {c : Zc} {Z H : Hp} : ∀ {n : Nat} {d : D} {v : V} {fp : List Addr}, RT c Z H n d v fp → ∀ a ∈ fp, H a ≠ none
  | 0, d, v, fp, ⟨h, e⟩, a, ha => by rw [e] at ha; cases ha
  | n + 1, .lst xs, v, fp, ⟨b, vs, f, h1, h2, h3, h4⟩, a, ha => by
    rw [h4] at ha
    rcases List.mem_cons.mp ha with rfl | ha
    · rw [h2]; exact fun z => nomatch z
    · exact LR.mem h3 (fun _ _ _ h x hx => RT.there h x hx) a ha
  | n + 1, .tup xs, v, fp, ⟨b, vs, f, h1, h2, h3, h4⟩, a, ha => by
    rw [h4] at ha
    rcases List.mem_cons.mp ha with rfl | ha
    · rw [h2]; exact fun z => nomatch z
    · exact LR.mem h3 (fun _ _ _ h x hx => RT.there h x hx) a ha
  | n + 1, .dct xs, v, fp, ⟨b, vs, f, h1, h2, _, h3, h4⟩, a, ha => by
    rw [h4] at ha
    rcases List.mem_cons.mp ha with rfl | ha
    · rw [h2]; exact fun z => nomatch z
    · exact LR.mem h3 (fun _ _ _ h x hx => RT.there h x hx) a ha
  | n + 1, .obj C xs, v, fp, ⟨_, b, _, vs, f, h1, _, h2, _, h3, h4⟩, a, ha => by
    rw [h4] at ha
    rcases List.mem_cons.mp ha with rfl | ha
    · rw [h2]; exact fun z => nomatch z
    · exact LR.mem h3 (fun _ _ _ h x hx => RT.there h x hx) a ha
  | _ + 1, .rol _, _, _, ⟨_, e⟩, a, ha => by rw [e] at ha; cases ha
  | _ + 1, .non, _, _, ⟨_, e⟩, a, ha => by rw [e] at ha; cases ha
  | _ + 1, .bl _, _, _, ⟨_, e⟩, a, ha => by rw [e] at ha; cases ha
  | _ + 1, .int _, _, _, ⟨_, e⟩, a, ha => by rw [e] at ha; cases ha
  | _ + 1, .str _, _, _, ⟨_, e⟩, a, ha => by rw [e] at ha; cases ha

theorem LR.items {α β : Type} {R : α → β → List Addr → Prop} : ∀ {as : List α} {bs : List β} {fp : List Addr}, LR R as bs fp → ∀ (i : Nat) a b, as[i]? = some a → bs[i]? = some b → ∃ f, (∀ x ∈ f, x ∈ fp) ∧ R a b f
  | a :: as, b :: bs, _, ⟨f, g, e, h1, h2⟩, 0, x, y, hx, hy => by
    cases hx; cases hy
    exact ⟨f, fun x hx => by rw [e]; exact List.mem_append_left _ hx, h1⟩
  | a :: as, b :: bs, _, ⟨f, g, e, h1, h2⟩, i + 1, x, y, hx, hy => by
    obtain ⟨f', k, r⟩ := LR.items h2 i x y (by simpa using hx) (by simpa using hy)
    exact ⟨f', fun x hx => by rw [e]; exact List.mem_append_right _ (k x hx), r⟩
  | [], _, _, _, _, _, _, hx, _ => by simp at hx
  | _ :: _, [], _, h, _, _, _, _, _ => h.elim

/-- a live tree whose nodes are frozen -/
theorem RT.freeze {c : Zc} {Z Z' H : Hp} (sz : Sm Z Z') : ∀ {n : Nat} {d : D} {v : V} {fp : List Addr}, RT c Z H n d v fp → (∀ a ∈ fp, Z' a = H a) → RF c Z' d v
  | 0, d, v, fp, ⟨h, e⟩, _ => h.mono sz
  | n + 1, .lst xs, v, fp, ⟨a, vs, f, h1, h2, h3, h4⟩, k => by
    subst h1
    refine .lst ((k a (by rw [h4]; exact List.mem_cons_self)).trans h2) h3.len fun i d v hd hv => ?_
    obtain ⟨g, hg, r⟩ := h3.items i d v hd hv
    exact r.freeze sz fun x hx => k x (by rw [h4]; exact List.mem_cons_of_mem _ (hg x hx))
  | n + 1, .tup xs, v, fp, ⟨a, vs, f, h1, h2, h3, h4⟩, k => by
    subst h1
    refine .tup (.inl (.inl ((k a (by rw [h4]; exact List.mem_cons_self)).trans h2))) h3.len fun i d v hd hv => ?_
    obtain ⟨g, hg, r⟩ := h3.items i d v hd hv
    exact r.freeze sz fun x hx => k x (by rw [h4]; exact List.mem_cons_of_mem _ (hg x hx))
  | n + 1, .dct kvs, v, fp, ⟨a, vs, f, h1, h2, h0, h3, h4⟩, k => by
    subst h1
    refine .dct ((k a (by rw [h4]; exact List.mem_cons_self)).trans h2) h0 fun i d v hd hv => ?_
    obtain ⟨g, hg, r⟩ := h3.items i d v hd hv
    exact r.freeze sz fun x hx => k x (by rw [h4]; exact List.mem_cons_of_mem _ (hg x hx))
  | n + 1, .obj C fs, v, fp, ⟨A, a, dx, vs, f, h1, hc, h2, h0, h3, h4⟩, k => by
    subst h1
    refine .obj hc ((k a (by rw [h4]; exact List.mem_cons_self)).trans h2) h0 fun i d v hd hv => ?_
    obtain ⟨g, hg, r⟩ := h3.items i d v hd hv
    exact r.freeze sz fun x hx => k x (by rw [h4]; exact List.mem_cons_of_mem _ (hg x hx))
  | _ + 1, .rol _, _, _, ⟨h, _⟩, _ => h.mono sz
  | _ + 1, .non, _, _, ⟨e, _⟩, _ => by rw [e]; exact .non
  | _ + 1, .bl _, _, _, ⟨e, _⟩, _ => by rw [e]; exact .bl
  | _ + 1, .int _, _, _, ⟨e, _⟩, _ => by rw [e]; exact .int
  | _ + 1, .str _, _, _, ⟨e, _⟩, _ => by rw [e]; exact .str

/-- nodes added to the frozen part -/
def zadd (Z H : Hp) (fp : List Addr) : Hp := fun a => if a ∈ fp then H a else Z a
theorem zadd_in {Z H : Hp} {fp : List Addr} {a : Addr} (h : a ∈ fp) : zadd Z H fp a = H a := if_pos h
theorem zadd_out {Z H : Hp} {fp : List Addr} {a : Addr} (h : a ∉ fp) : zadd Z H fp a = Z a := if_neg h
theorem zadd_sm {Z H : Hp} {fp : List Addr} (h : ∀ a ∈ fp, Z a = none) : Sm Z (zadd Z H fp) := fun a o e => by
  by_cases ha : a ∈ fp
  · rw [h a ha] at e; cases e
  · rw [zadd_out ha]; exact e
theorem zadd_sub {Z H : Hp} {fp : List Addr} (s : Sub Z H) : Sub (zadd Z H fp) H := fun a o e => by
  by_cases ha : a ∈ fp
  · rw [zadd_in ha] at e; exact .inl e
  · rw [zadd_out ha] at e; exact s a o e
end Z

namespace Z
open PySem L2

theorem LR.get2 {α β : Type} {R : α → β → List Addr → Prop} : ∀ {as : List α} {bs : List β} {fp : List Addr} {i : Nat} {a : α}, LR R as bs fp → as[i]? = some a → ∃ b g1 f g2, bs[i]? = some b ∧ fp = g1 ++ f ++ g2 ∧ R a b f ∧
    ∀ (R' : α → β → List Addr → Prop) a' b' f', (∀ x y g, (∀ z ∈ g, z ∈ g1 ∨ z ∈ g2) → R x y g → R' x y g) → R' a' b' f' → LR R' (as.set i a') (bs.set i b') (g1 ++ f' ++ g2)
  | a :: as, b :: bs, _, 0, x, ⟨f, g, e, h1, h2⟩, hi => by
    cases hi
    exact ⟨b, [], f, g, rfl, e, h1, fun R' a' b' f' k h => ⟨f', g, rfl, h, LR.imp h2 fun x y g' hg _ r => k x y g' (fun z hz => .inr (hg z hz)) r⟩⟩
  | a :: as, b :: bs, _, i + 1, x, ⟨f, g, e, h1, h2⟩, hi => by
    obtain ⟨y, g1, f', g2, e1, e2, r, k⟩ := LR.get2 (i := i) h2 (by simpa using hi)
    refine ⟨y, f ++ g1, f', g2, by simpa using e1, by rw [e, e2]; simp [List.append_assoc], r, fun R' a' b' f'' kk h => ⟨f, _, by simp [List.append_assoc], kk _ _ _ (fun z hz => .inl (List.mem_append_left _ hz)) h1, k R' a' b' f'' (fun x y g hg r => kk x y g (fun z hz => (hg z hz).imp (List.mem_append_right _) id) r) h⟩⟩
  | [], _, _, i, _, _, hi => by simp at hi
  | _ :: _, [], _, _, _, h, _ => h.elim
theorem set_same {α : Type} : ∀ {l : List α} {i : Nat} {x : α}, l[i]? = some x → l.set i x = l
  | a :: l, 0, x, h => by cases h; rfl
  | a :: l, i + 1, x, h => by
    have := set_same (l := l) (i := i) (x := x) (by simpa using h)
    simp [this]
  | [], i, x, h => by simp at h

/-! ### the world -/
def CeR (c : Zc) (vc : Nat → Option V) (Z H : Hp) : Ce → Option V → List Addr → Prop
  | .un, _, fp => fp = []
  | .ow d n, ov, fp => ∃ v, ov = some v ∧ RT c Z H n d v fp
  | .pa j, ov, fp => fp = [] ∧ ∃ v, ov = some v ∧ vc j = some v

structure Wl (c : Zc) (L : Nat) (vc : Nat → Option V) (Z H : Hp) (σ : St) (vx : List (Option V)) (st tx : S) (fp : List Addr) : Prop where
  len : σ.length = L
  hst : L ≤ st.length
  hvc : ∀ j v, vc j = some v → L ≤ j ∧ vx[j - L]? = some (some v)
  sub : Sub Z H
  lr : LR (CeR c vc Z H) (st ++ tx) (σ ++ vx) fp
  nd : fp.Nodup
  dj : ∀ a ∈ fp, Z a = none

structure Stp (fp : List Addr) (Z H : Hp) (fp' : List Addr) (Z' H' : Hp) : Prop where
  zz : Sm Z Z'
  hh : ∀ a o, H a = some o → a ∉ fp → H' a = some o
  nn : ∀ a, H a ≠ none → H' a ≠ none
  ff : ∀ a ∈ fp', a ∈ fp ∨ H a = none
  zn : ∀ a, Z' a ≠ none → Z a ≠ none ∨ a ∈ fp ∨ H a = none
theorem Stp.refl {fp : List Addr} {Z H : Hp} : Stp fp Z H fp Z H := ⟨Sm.refl _, fun _ _ h _ => h, fun _ h => h, fun _ h => .inl h, fun _ h => .inl h⟩
theorem Stp.less {fp fp' : List Addr} {Z H : Hp} (h : ∀ a ∈ fp', a ∈ fp) : Stp fp Z H fp' Z H := ⟨Sm.refl _, fun _ _ h _ => h, fun _ h => h, fun _ k => .inl (h _ k), fun _ h => .inl h⟩
theorem Stp.trans {fp fp1 fp2 : List Addr} {Z H Z1 H1 Z2 H2 : Hp} (h : Stp fp Z H fp1 Z1 H1) (k : Stp fp1 Z1 H1 fp2 Z2 H2) : Stp fp Z H fp2 Z2 H2 := by
  have back : ∀ a, H1 a = none → H a = none := fun a e => by
    cases q : H a with
    | none => rfl
    | some o => exact absurd e (h.nn a (by rw [q]; exact fun z => nomatch z))
  refine ⟨h.zz.trans k.zz, fun a o e ha => k.hh a o (h.hh a o e ha) fun z => ?_, fun a e => k.nn a (h.nn a e), fun a ha => ?_, fun a e => ?_⟩
  · rcases h.ff a z with z | z
    · exact ha z
    · rw [z] at e; cases e
  · rcases k.ff a ha with z | z
    · exact h.ff a z
    · exact .inr (back a z)
  · rcases k.zn a e with z | z | z
    · exact h.zn a z
    · exact .inr (h.ff a z)
    · exact .inr (.inr (back a z))

section
variable {c : Zc} {L : Nat} {vc : Nat → Option V} {Z H Z' H' : Hp} {σ : St} {vx : List (Option V)} {st tx : S} {fp : List Addr}

theorem CeR.stay (sz : Sm Z Z') {x : Ce} {ov : Option V} {f : List Addr} (h : CeR c vc Z H x ov f) (k : ∀ a ∈ f, H' a = H a) : CeR c vc Z' H' x ov f := by
  cases x with
  | un => exact h
  | ow d n =>
    obtain ⟨v, e, r⟩ := h
    exact ⟨v, e, r.stay sz k⟩
  | pa j => exact h
theorem CeR.there {x : Ce} {ov : Option V} {f : List Addr} (h : CeR c vc Z H x ov f) : ∀ a ∈ f, H a ≠ none := by
  cases x with
  | un => intro a ha; rw [show f = [] from h] at ha; cases ha
  | ow d n =>
    obtain ⟨v, e, r⟩ := h
    exact r.there
  | pa j => intro a ha; rw [h.1] at ha; cases ha
theorem Wl.there (w : Wl c L vc Z H σ vx st tx fp) : ∀ a ∈ fp, H a ≠ none := LR.mem w.lr fun _ _ _ h => CeR.there h

/-- an index changes what it holds; new things may be laid -/
theorem Wl.upd (w : Wl c L vc Z H σ vx st tx fp) {i : Nat} {x y : Ce} (hi : st[i]? = some x) :
    ∃ ov g1 f g2, (σ ++ vx)[i]? = some ov ∧ fp = g1 ++ f ++ g2 ∧ CeR c vc Z H x ov f ∧
      ∀ (Z' H' : Hp) (y : Ce) (f' : List Addr), Sm Z Z' → Sub Z' H' → (∀ a ∈ fp, a ∉ f → H' a = H a) → CeR c vc Z' H' y ov f' → (∀ a ∈ f', a ∈ f ∨ H a = none) → (∀ a, Z' a ≠ none → Z a ≠ none ∨ a ∈ f ∨ H a = none) →
        f'.Nodup → (∀ a ∈ f', Z' a = none) → Wl c L vc Z' H' σ vx (st.set i y) tx (g1 ++ f' ++ g2) := by
  have hil : i < st.length := (List.getElem?_eq_some_iff.mp hi).1
  have hi' : (st ++ tx)[i]? = some x := by rw [List.getElem?_append_left hil]; exact hi
  obtain ⟨ov, g1, f, g2, e1, e2, r, k⟩ := LR.get2 w.lr hi'
  refine ⟨ov, g1, f, g2, e1, e2, r, fun Z' H' y f' sz sb hs r' hf hz nd dj => ?_⟩
  have nd0 := w.nd
  rw [e2] at nd0
  have n1 := List.nodup_append.mp nd0
  have n2 := List.nodup_append.mp n1.1
  have d1 : ∀ a ∈ g1, a ∉ f := fun a ha hb => (n2.2.2 a ha a hb) rfl
  have d2 : ∀ a ∈ g2, a ∉ f := fun a ha hb => (n1.2.2 a (List.mem_append_right _ hb) a ha) rfl
  have m1 : ∀ a ∈ g1, a ∈ fp := fun a ha => by rw [e2]; exact List.mem_append_left _ (List.mem_append_left _ ha)
  have m2 : ∀ a ∈ g2, a ∈ fp := fun a ha => by rw [e2]; exact List.mem_append_right _ ha
  have mf : ∀ a ∈ f, a ∈ fp := fun a ha => by rw [e2]; exact List.mem_append_left _ (List.mem_append_right _ ha)
  have fo : ∀ a ∈ f', a ∈ fp → a ∈ f := fun a ha hb => by
    rcases hf a ha with z | z
    · exact z
    · exact absurd z (w.there a hb)
  refine ⟨w.len, by rw [List.length_set]; exact w.hst, w.hvc, sb, ?_, ?_, ?_⟩
  · have q := k (CeR c vc Z' H') y ov f' (fun x y g hg r0 => CeR.stay sz r0 fun z hz => (hg z hz).elim (fun q => hs z (m1 z q) (d1 z q)) fun q => hs z (m2 z q) (d2 z q)) r'
    rw [List.set_append_left _ _ hil, set_same e1] at q
    exact q
  · have x1 : ∀ a ∈ g1, a ∉ f' := fun a ha hb => d1 a ha (fo a hb (m1 a ha))
    have x2 : ∀ a ∈ g2, a ∉ f' := fun a ha hb => d2 a ha (fo a hb (m2 a ha))
    refine List.nodup_append.mpr ⟨List.nodup_append.mpr ⟨n2.1, nd, fun a ha b hb e => x1 a ha (e ▸ hb)⟩, n1.2.1, fun a ha b hb e => ?_⟩
    rcases List.mem_append.mp ha with ha | ha
    · exact n1.2.2 a (List.mem_append_left _ ha) b hb e
    · exact x2 b hb (e ▸ ha)
  · intro a ha
    have old : ∀ a, a ∈ fp → a ∉ f → Z' a = none := fun a h1 h2 => by
      cases q : Z' a with
      | none => rfl
      | some o =>
        rcases hz a (by rw [q]; exact fun z => nomatch z) with z | z | z
        · exact absurd (w.dj a h1) z
        · exact absurd z h2
        · exact absurd z (w.there a h1)
    rcases List.mem_append.mp ha with ha | ha
    · rcases List.mem_append.mp ha with ha | ha
      · exact old a (m1 a ha) (d1 a ha)
      · exact dj a ha
    · exact old a (m2 a ha) (d2 a ha)
end
end Z

namespace Z
open PySem L2
section
variable {c : Zc} {L : Nat} {vc : Nat → Option V} {Z H Z' H' : Hp} {σ : St} {vx : List (Option V)} {st tx : S} {fp : List Addr}

theorem Wl.push (w : Wl c L vc Z H σ vx st tx fp) {d : D} {n : Nat} {v : V} {f : List Addr} (sz : Sm Z Z') (sb : Sub Z' H') (hs : ∀ a ∈ fp, H' a = H a) (r : RT c Z' H' n d v f) (hf : ∀ a ∈ f, a ∉ fp) (hz : ∀ a ∈ fp, Z' a = none) (nd : f.Nodup) (dj : ∀ a ∈ f, Z' a = none) :
    Wl c L vc Z' H' σ (vx ++ [some v]) st (tx ++ [.ow d n]) (fp ++ f) := by
  refine ⟨w.len, w.hst, fun j u e => ?_, sb, ?_, List.nodup_append.mpr ⟨w.nd, nd, fun a ha b hb e => hf b hb (e ▸ ha)⟩, fun a ha => ?_⟩
  · obtain ⟨h1, h2⟩ := w.hvc j u e
    refine ⟨h1, ?_⟩
    rw [List.getElem?_append_left (List.getElem?_eq_some_iff.mp h2).1]
    exact h2
  · rw [← List.append_assoc, ← List.append_assoc]
    refine LR.append (LR.imp w.lr fun a b g hg _ q => CeR.stay sz q fun x hx => hs x (hg x hx)) (LR.one ⟨v, rfl, r⟩)
  · rcases List.mem_append.mp ha with ha | ha
    · exact hz a ha
    · exact dj a ha
/-- a frozen value more -/
theorem Wl.pushF (w : Wl c L vc Z H σ vx st tx fp) {d : D} {v : V} (r : RF c Z d v) : Wl c L vc Z H σ (vx ++ [some v]) st (tx ++ [.ow d 0]) fp := by
  have q := w.push (Sm.refl Z) w.sub (fun _ _ => rfl) (f := []) (n := 0) ⟨r, rfl⟩ (fun _ h => nomatch h) w.dj .nil (fun _ h => nomatch h)
  rwa [List.append_nil] at q
theorem Wl.pop {ov : Option V} {y : Ce} (w : Wl c L vc Z H σ (vx ++ [ov]) st (tx ++ [y]) fp) (hvc : ∀ j v, vc j = some v → L ≤ j ∧ vx[j - L]? = some (some v)) :
    ∃ g f, fp = g ++ f ∧ CeR c vc Z H y ov f ∧ Wl c L vc Z H σ vx st tx g := by
  have lr := w.lr
  rw [← List.append_assoc, ← List.append_assoc] at lr
  have hl : (st ++ tx).length = (σ ++ vx).length := by
    have := lr.len
    simp only [List.length_append, List.length_cons, List.length_nil] at this ⊢
    omega
  obtain ⟨g, f, e, h1, h2⟩ := LR.split hl lr
  obtain ⟨b, e1, r⟩ := LR.of_one h2
  cases e1
  have nd := w.nd
  rw [e] at nd
  exact ⟨g, f, e, r, w.len, w.hst, hvc, w.sub, h1, (List.nodup_append.mp nd).1, fun a ha => w.dj a (by rw [e]; exact List.mem_append_left _ ha)⟩
theorem Wl.pop' {ov : Option V} {y : Ce} (w : Wl c L vc Z H σ (vx ++ [ov]) st (tx ++ [y]) fp) (hvc : ∀ j v, vc j = some v → L ≤ j ∧ vx[j - L]? = some (some v)) :
    ∃ g, (∀ a ∈ g, a ∈ fp) ∧ Wl c L vc Z H σ vx st tx g := by
  obtain ⟨g, f, e, _, w'⟩ := w.pop hvc
  exact ⟨g, fun a ha => by rw [e]; exact List.mem_append_left _ ha, w'⟩
/-- many -/
theorem Wl.pops : ∀ {vy : List (Option V)} {ty : S} {fp : List Addr}, vy.length = ty.length → Wl c L vc Z H σ (vx ++ vy) st (tx ++ ty) fp → (∀ j v, vc j = some v → L ≤ j ∧ vx[j - L]? = some (some v)) →
    ∃ g, (∀ a ∈ g, a ∈ fp) ∧ Wl c L vc Z H σ vx st tx g := by
  intro vy ty fp hl w hvc
  have lr := w.lr
  rw [← List.append_assoc, ← List.append_assoc] at lr
  have hl' : (st ++ tx).length = (σ ++ vx).length := by
    have := lr.len
    simp only [List.length_append] at this ⊢
    omega
  obtain ⟨g, f, e, h1, h2⟩ := LR.split hl' lr
  have nd := w.nd
  rw [e] at nd
  exact ⟨g, fun a ha => by rw [e]; exact List.mem_append_left _ ha, w.len, w.hst, hvc, w.sub, h1, (List.nodup_append.mp nd).1, fun a ha => w.dj a (by rw [e]; exact List.mem_append_left _ ha)⟩
end

/-! ### the mirrors' monad -/
inductive R (α : Type) where
  | ok (a : α) (s : S) | ex (x : Ex) (s : S) | no
abbrev M (α : Type) := S → R α
@[inline] def M.pure {α : Type} (a : α) : M α := fun s => .ok a s
@[inline] def M.bind {α β : Type} (m : M α) (f : α → M β) : M β := fun s => match m s with
  | .ok a s' => f a s'
  | .ex x s' => .ex x s'
  | .no => .no
instance : Monad M where
  pure := M.pure
  bind := M.bind
def lft {α : Type} : Option α → M α
  | some a => fun s => .ok a s
  | none => fun _ => .no

/-- where slot i's tree stands -/
def loc (s : S) (i : Nat) : Nat := match s[i]? with
  | some (.pa j) => j
  | _ => i
def at' (s : S) (j : Nat) : Option T := match s[j]? with
  | some (.ow d n) => some (d, n)
  | _ => none
def tre (s : S) (i : Nat) : Option T := at' s (loc s i)

/-! ### what a mirror promises -/
def IsX (c : Zc) (Z H : Hp) (x : Ex) (cls : Value) (dd : Option Addr) : Prop :=
  (∃ A, c.cl x.C = some A ∧ cls = .ref A) ∧ (x.fs = [] ∨ ∃ d vs, dd = some d ∧ H d = some (.xd vs) ∧ x.fs.map (·.1) = vs.map (·.1) ∧ ∀ (i : Nat) a v, (x.fs.map (·.2))[i]? = some a → (vs.map (·.2))[i]? = some v → RF c Z a v)

section
variable (c : Zc) (L : Nat) (W : WX)
/-- of an expression -/
def PoE (vc : Nat → Option V) (Z H : Hp) (σ : St) (vx : List (Option V)) (tx : S) (fp : List Addr) (r : R T) (Q : VK) : Prop := match r with
  | .ok t s => ∀ Z' H' v fp', Stp fp Z H fp' Z' H' → Wl c L vc Z' H' σ (vx ++ [some v]) s (tx ++ [.ow t.1 t.2]) fp' → Q v H'
  | .ex x s => ∀ Z' H' fp' cls dd, Stp fp Z H fp' Z' H' → Wl c L vc Z' H' σ vx s tx fp' → IsX c Z' H' x cls dd → W cls dd σ H'
  | .no => False
def rd (m : M T) : TE := fun σ H Q => ∃ Z vc vx st tx fp, Wl c L vc Z H σ vx st tx fp ∧ PoE c L W vc Z H σ vx tx fp (m st) Q
/-- of a test -/
def PoT (vc : Nat → Option V) (Z H : Hp) (σ : St) (vx : List (Option V)) (tx : S) (fp : List Addr) (r : R Bool) (Q : Bool → Hp → Prop) : Prop := match r with
  | .ok b s => ∀ Z' H' fp', Stp fp Z H fp' Z' H' → Wl c L vc Z' H' σ vx s tx fp' → Q b H'
  | .ex x s => ∀ Z' H' fp' cls dd, Stp fp Z H fp' Z' H' → Wl c L vc Z' H' σ vx s tx fp' → IsX c Z' H' x cls dd → W cls dd σ H'
  | .no => False
def rdT (m : M Bool) : TT := fun σ H Q => ∃ Z vc vx st tx fp, Wl c L vc Z H σ vx st tx fp ∧ PoT c L W vc Z H σ vx tx fp (m st) Q
end

inductive Opd where
  | nm (i : Nat) | tm (m : M T)
def Opd.ev : Opd → M (Option T)
  | .nm i => fun s => match tre s i with
    | some _ => .ok none s
    | none => .no
  | .tm m => fun s => match m s with
    | .ok t s' => .ok (some t) s'
    | .ex x s' => .ex x s'
    | .no => .no
def evs : List Opd → M (List (Option T))
  | [] => fun s => .ok [] s
  | o :: os => fun s => match o.ev s with
    | .ok h s' => match evs os s' with
      | .ok hs s'' => .ok (h :: hs) s''
      | .ex x s'' => .ex x s''
      | .no => .no
    | .ex x s' => .ex x s'
    | .no => .no
def gets : List Opd → List (Option T) → S → Option (List T)
  | .nm i :: os, none :: hs, s => match tre s i with
    | some t => (gets os hs s).map (t :: ·)
    | none => none
  | .tm _ :: os, some t :: hs, s => (gets os hs s).map (t :: ·)
  | [], [], _ => some []
  | _, _, _ => none
/-- an operation on values that makes at most new things -/
def mOp (f : List T → Option T) (os : List Opd) : M T := fun s => match evs os s with
  | .ok hs s' => match gets os hs s' with
    | some ts => match f ts with
      | some t => .ok t s'
      | none => .no
    | none => .no
  | .ex x s' => .ex x s'
  | .no => .no

section
variable {c : Zc} {L : Nat} {W : WX} {vc : Nat → Option V} {Z H Z' H' : Hp} {σ : St} {vx : List (Option V)} {st tx : S} {fp : List Addr}
def tO (c : Zc) (L : Nat) (W : WX) : Opd → TE
  | .nm i => fun σ H Q => i < L ∧ tVar i σ H Q
  | .tm m => rd c L W m
def tOs (c : Zc) (L : Nat) (W : WX) : List Opd → TA
  | [] => tNil
  | o :: os => tCons (tO c L W o) (tOs c L W os)

/-- the slot's value and its tree -/
theorem Wl.look (w : Wl c L vc Z H σ vx st tx fp) {i : Nat} {t : T} (hi : i < L) (h : tre st i = some t) : ∃ v f, σ[i]? = some (some v) ∧ (σ ++ vx)[loc st i]? = some (some v) ∧ RT c Z H t.2 t.1 v f ∧ (∀ a ∈ f, a ∈ fp) := by
  unfold tre at'  at h
  have e1 : ∀ {x : Ce} {j : Nat}, st[j]? = some x → ∃ ov f, (σ ++ vx)[j]? = some ov ∧ CeR c vc Z H x ov f ∧ ∀ a ∈ f, a ∈ fp := fun {x j} hj => by
    obtain ⟨ov, g1, f, g2, h1, h2, r, _⟩ := w.upd (y := .un) hj
    exact ⟨ov, f, h1, r, fun a ha => by rw [h2]; exact List.mem_append_left _ (List.mem_append_right _ ha)⟩
  have hσ : ∀ {ov : Option V}, (σ ++ vx)[i]? = some ov → σ[i]? = some ov := fun {ov} e => by
    rw [List.getElem?_append_left (by rw [w.len]; exact hi)] at e
    exact e
  cases q : st[i]? with
  | none =>
    have el : loc st i = i := by unfold loc; rw [q]
    rw [el, q] at h
    cases h
  | some x =>
    obtain ⟨ov, f, k1, k2, k3⟩ := e1 q
    cases x with
    | un =>
      have el : loc st i = i := by unfold loc; rw [q]
      rw [el, q] at h
      cases h
    | ow d n =>
      have el : loc st i = i := by unfold loc; rw [q]
      rw [el, q] at h
      cases h
      obtain ⟨v, rfl, r⟩ := k2
      exact ⟨v, f, hσ k1, by rw [el]; exact k1, r, k3⟩
    | pa j =>
      have el : loc st i = j := by unfold loc; rw [q]
      rw [el] at h
      obtain ⟨_, v, rfl, hv⟩ := k2
      obtain ⟨m1, m2⟩ := w.hvc j v hv
      have m3 : (σ ++ vx)[j]? = some (some v) := by rw [List.getElem?_append_right (by rw [w.len]; exact m1), w.len]; exact m2
      cases q2 : st[j]? with
      | none => rw [q2] at h; cases h
      | some y =>
        rw [q2] at h
        cases y with
        | un => cases h
        | pa _ => cases h
        | ow d n =>
          cases h
          obtain ⟨ov2, f2, l1, l2, l3⟩ := e1 q2
          rw [m3] at l1
          cases l1
          obtain ⟨v', e', r⟩ := l2
          cases e'
          exact ⟨v, f2, hσ k1, by rw [el]; exact m3, r, l3⟩

/-- what stands behind the operands -/
inductive HR (σ : St) : List Opd → List (Option T) → List V → List (Option V) → S → Prop where
  | nil : HR σ [] [] [] [] []
  | nm {i : Nat} {v : V} {os hs vs vy ty} (hi : σ[i]? = some (some v)) (h : HR σ os hs vs vy ty) : HR σ (.nm i :: os) (none :: hs) (v :: vs) vy ty
  | tm {m : M T} {t : T} {v : V} {os hs vs vy ty} (h : HR σ os hs vs vy ty) : HR σ (.tm m :: os) (some t :: hs) (v :: vs) (some v :: vy) (.ow t.1 t.2 :: ty)
theorem HR.len {os hs vs vy ty} (h : HR σ os hs vs vy ty) : vy.length = ty.length := by
  induction h with
  | nil => rfl
  | nm _ _ ih => exact ih
  | tm _ ih => simp [ih]

theorem tOs_run {os : List Opd} : ∀ {Z H : Hp} {vx : List (Option V)} {st tx : S} {fp : List Addr} {Q : List V → Hp → Prop}, Wl c L vc Z H σ vx st tx fp → (∀ i, Opd.nm i ∈ os → i < L) →
    (match evs os st with
      | .ok hs s => ∀ Z' H' vs vy ty fp', Stp fp Z H fp' Z' H' → Wl c L vc Z' H' σ (vx ++ vy) s (tx ++ ty) fp' → HR σ os hs vs vy ty → Q vs H'
      | .ex x s => ∀ Z' H' fp' cls dd, Stp fp Z H fp' Z' H' → Wl c L vc Z' H' σ vx s tx fp' → IsX c Z' H' x cls dd → W cls dd σ H'
      | .no => False) → tOs c L W os σ H Q := by
  induction os with
  | nil =>
    intro Z H vx st tx fp Q w _ h
    exact h Z H [] [] [] fp Stp.refl (by simpa using w) .nil
  | cons o os ih =>
    intro Z H vx st tx fp Q w hL h
    have hL' : ∀ i, Opd.nm i ∈ os → i < L := fun i hi => hL i (List.mem_cons_of_mem _ hi)
    cases o with
    | nm i =>
      have hi := hL i List.mem_cons_self
      cases q : tre st i with
      | none => simp only [evs, Opd.ev, q] at h
      | some t =>
        simp only [evs, Opd.ev, q] at h
        obtain ⟨v, f, e1, _, _, _⟩ := w.look hi q
        refine ⟨hi, v, e1, ih w hL' ?_⟩
        cases q2 : evs os st with
        | no => simp only [q2] at h
        | ex x s => simp only [q2] at h; exact h
        | ok hs s =>
          simp only [q2] at h
          intro Z' H' vs vy ty fp' k1 k2 k3
          exact h Z' H' (v :: vs) vy ty fp' k1 k2 (.nm e1 k3)
    | tm m =>
      refine ⟨Z, vc, vx, st, tx, fp, w, ?_⟩
      cases q : m st with
      | no => simp only [evs, Opd.ev, q] at h
      | ex x s =>
        simp only [evs, Opd.ev, q] at h
        exact h
      | ok t s =>
        simp only [evs, Opd.ev, q] at h
        intro Z1 H1 v fp1 s1 w1
        refine ih w1 hL' ?_
        cases q2 : evs os s with
        | no => simp only [q2] at h
        | ex x s' =>
          simp only [q2] at h
          intro Z2 H2 fp2 cls dd s2 w2 x2
          obtain ⟨g, hg, w3⟩ := w2.pop' w.hvc
          exact h Z2 H2 g cls dd ((s1.trans s2).trans (Stp.less hg)) w3 x2
        | ok hs s' =>
          simp only [q2] at h
          intro Z2 H2 vs vy ty fp2 s2 w2 r2
          refine h Z2 H2 (v :: vs) (some v :: vy) (.ow t.1 t.2 :: ty) fp2 (s1.trans s2) ?_ (.tm r2)
          simpa [List.append_assoc] using w2

/-- the operands' trees at the operation -/
def Tre (c : Zc) (Z H : Hp) (fp : List Addr) (v : V) (t : T) : Prop := ∃ f, (∀ a ∈ f, a ∈ fp) ∧ RT c Z H t.2 t.1 v f
theorem HR.trees {os : List Opd} {hs : List (Option T)} {vs : List V} {vy : List (Option V)} {ty : S} (h : HR σ os hs vs vy ty) : ∀ {vx : List (Option V)} {tx : S} {ts : List T}, Wl c L vc Z H σ (vx ++ vy) st (tx ++ ty) fp →
    (st ++ tx).length = (σ ++ vx).length → (∀ i, Opd.nm i ∈ os → i < L) → gets os hs st = some ts → Paired (Tre c Z H fp) vs ts := by
  induction h with
  | nil =>
    intro vx tx ts w hl hL e
    cases e
    exact .nil
  | @nm i v os hs vs vy ty hi h ih =>
    intro vx tx ts w hl hL e
    unfold gets at e
    cases q : tre st i with
    | none => rw [q] at e; cases e
    | some t =>
      rw [q] at e
      cases q2 : gets os hs st with
      | none => rw [q2] at e; cases e
      | some ts' =>
        rw [q2] at e
        cases e
        obtain ⟨v', f, e1, _, r, hf⟩ := w.look (hL i List.mem_cons_self) q
        rw [hi] at e1
        cases e1
        exact .cons ⟨f, hf, r⟩ (ih w hl (fun i hi => hL i (List.mem_cons_of_mem _ hi)) q2)
  | @tm m t v os hs vs vy ty h ih =>
    intro vx tx ts w hl hL e
    unfold gets at e
    cases q2 : gets os hs st with
    | none => rw [q2] at e; cases e
    | some ts' =>
      rw [q2] at e
      cases e
      have lr := w.lr
      rw [← List.append_assoc, ← List.append_assoc] at lr
      have i1 : ((st ++ tx) ++ Ce.ow t.1 t.2 :: ty)[(st ++ tx).length]? = some (Ce.ow t.1 t.2) := by simp
      have i2 : ((σ ++ vx) ++ some v :: vy)[(st ++ tx).length]? = some (some v) := by rw [hl]; simp
      obtain ⟨f, hf, v', e', r⟩ := LR.items lr _ _ _ i1 i2
      cases e'
      have w' : Wl c L vc Z H σ ((vx ++ [some v]) ++ vy) st ((tx ++ [Ce.ow t.1 t.2]) ++ ty) fp := by simpa [List.append_assoc] using w
      exact .cons ⟨f, hf, r⟩ (ih w' (by simp at hl ⊢; omega) (fun i hi => hL i (List.mem_cons_of_mem _ hi)) q2)

/-- new things alone -/
structure Al (Z H Z' H' : Hp) (g : List Addr) : Prop where
  sz : Sm Z Z'
  sb : Sub Z' H'
  hh : ∀ a o, H a = some o → H' a = some o
  gn : ∀ a ∈ g, H a = none
  zn : ∀ a, Z' a ≠ none → Z a ≠ none ∨ H a = none
  nd : g.Nodup
  dj : ∀ a ∈ g, Z' a = none
theorem Al.refl (s : Sub Z H) : Al Z H Z H [] := ⟨Sm.refl _, s, fun _ _ h => h, fun _ h => (nomatch h), fun _ h => .inl h, .nil, fun _ h => (nomatch h)⟩
/-- an operation's rule by trees -/
def RuZ (c : Zc) (r : List V → Hp → VK → Prop) (f : List T → Option T) : Prop := ∀ (Z H : Hp) (fp : List Addr) (vs : List V) (ts : List T) (t : T) (Q : VK), f ts = some t → Sub Z H → Paired (Tre c Z H fp) vs ts →
  (∀ Z' H' v g, Al Z H Z' H' g → RT c Z' H' t.2 t.1 v g → Q v H') → r vs H Q

theorem run_op {r : List V → Hp → VK → Prop} {f : List T → Option T} (hr : RuZ c r f) {os : List Opd} (hL : ∀ i, Opd.nm i ∈ os → i < L) {Q : VK} (h : rd c L W (mOp f os) σ H Q) : tOs c L W os σ H (fun vs H1 => r vs H1 Q) := by
  obtain ⟨Z, vc, vx, st, tx, fp, w, h⟩ := h
  refine tOs_run w hL ?_
  unfold mOp at h
  cases q : evs os st with
  | no => simp only [q] at h; exact h.elim
  | ex x s => simp only [q] at h; exact h
  | ok hs s =>
    simp only [q] at h
    intro Z1 H1 vs vy ty fp1 s1 w1 r1
    cases q2 : gets os hs s with
    | none => simp only [q2] at h; exact h.elim
    | some ts =>
      simp only [q2] at h
      cases q3 : f ts with
      | none => simp only [q3] at h; exact h.elim
      | some t =>
        simp only [q3] at h
        have hl : (s ++ tx).length = (σ ++ vx).length := by
          have e := w1.lr.len
          have e2 := r1.len
          simp only [List.length_append] at e ⊢
          omega
        refine hr Z1 H1 fp1 vs ts t Q q3 w1.sub (r1.trees w1 hl hL q2) fun Z2 H2 v g al rt => ?_
        obtain ⟨g1, hg1, w2⟩ := Wl.pops r1.len w1 w.hvc
        have old : ∀ a ∈ g1, H1 a ≠ none := w2.there
        have keep : ∀ a ∈ g1, H2 a = H1 a := fun a ha => by
          cases e : H1 a with
          | none => exact absurd e (old a ha)
          | some o => exact al.hh a o e
        have w3 := w2.push al.sz al.sb keep rt (fun a ha hb => old a hb (al.gn a ha)) (fun a ha => by
          cases e : Z2 a with
          | none => rfl
          | some o =>
            rcases al.zn a (by rw [e]; exact fun z => nomatch z) with z | z
            · exact absurd (w2.dj a ha) z
            · exact absurd z (old a ha)) al.nd al.dj
        refine h Z2 H2 v (g1 ++ g) (s1.trans ⟨al.sz, fun a o e _ => al.hh a o e, fun a e => ?_, fun a ha => ?_, fun a e => ?_⟩) w3
        · cases q : H1 a with
          | none => exact absurd q e
          | some o => rw [al.hh a o q]; exact fun z => nomatch z
        · rcases List.mem_append.mp ha with ha | ha
          · exact .inl (hg1 a ha)
          · exact .inr (al.gn a ha)
        · rcases al.zn a e with z | z
          · exact .inl z
          · exact .inr (.inr z)
end
end Z

namespace Z
open PySem L2
section
variable {c : Zc} {Z H : Hp} {fp : List Addr} {v : V} {n : Nat}
theorem tre_int {i : Int} (h : Tre c Z H fp v (.int i, n)) : v = .int i := by
  obtain ⟨f, _, r⟩ := h
  cases n with
  | zero => obtain ⟨r, _⟩ := r; cases r; rfl
  | succ n => exact r.1
theorem tre_bl {i : Bool} (h : Tre c Z H fp v (.bl i, n)) : v = .bl i := by
  obtain ⟨f, _, r⟩ := h
  cases n with
  | zero => obtain ⟨r, _⟩ := r; cases r; rfl
  | succ n => exact r.1
theorem tre_str {i : Str} (h : Tre c Z H fp v (.str i, n)) : v = .str i := by
  obtain ⟨f, _, r⟩ := h
  cases n with
  | zero => obtain ⟨r, _⟩ := r; cases r; rfl
  | succ n => exact r.1
theorem tre_non (h : Tre c Z H fp v (.non, n)) : v = .non := by
  obtain ⟨f, _, r⟩ := h
  cases n with
  | zero => obtain ⟨r, _⟩ := r; cases r; rfl
  | succ n => exact r.1
theorem tre_rf {d : D} (h : Tre c Z H fp v (d, 0)) : RF c Z d v := by
  obtain ⟨f, _, r, _⟩ := h
  exact r
theorem rf_tre {d : D} (h : RF c Z d v) : Tre c Z H fp v (d, 0) := ⟨[], fun _ h => (nomatch h), h, rfl⟩
theorem tre_lst {xs : List D} (s : Sub Z H) (h : Tre c Z H fp v (.lst xs, n)) : ∃ a vs, v = .ref a ∧ H a = some (.lst vs) ∧ xs.length = vs.length ∧ ∀ (i : Nat) d w, xs[i]? = some d → vs[i]? = some w → Tre c Z H fp w (d, n - 1) := by
  obtain ⟨f, hf, r⟩ := h
  cases n with
  | zero =>
    obtain ⟨r, _⟩ := r
    cases r with
    | lst h hl hx => exact ⟨_, _, rfl, s.get h (fun _ e => nomatch e), hl, fun i d w h1 h2 => rf_tre (hx i d w h1 h2)⟩
  | succ n =>
    obtain ⟨a, vs, g, e, h1, h2, h3⟩ := r
    refine ⟨a, vs, e, h1, h2.len, fun i d w k1 k2 => ?_⟩
    obtain ⟨g', hg, r⟩ := LR.items h2 i d w k1 k2
    exact ⟨g', fun x hx => hf x (by rw [h3]; exact List.mem_cons_of_mem _ (hg x hx)), r⟩
theorem tre_rol {xs : List D} (s : Sub Z H) (h : Tre c Z H fp v (.rol xs, n)) : ∃ a vs, v = .ref a ∧ SqL c.K H a vs ∧ xs.length = vs.length ∧ ∀ (i : Nat) d w, xs[i]? = some d → vs[i]? = some w → RF c Z d w := by
  obtain ⟨f, hf, r⟩ := h
  have r' : RF c Z (.rol xs) v := by
    cases n with
    | zero => exact r.1
    | succ n => exact r.1
  cases r' with
  | rol h hl hx => exact ⟨_, _, rfl, s.sqL h, hl, hx⟩
theorem tre_tup {xs : List D} (s : Sub Z H) (h : Tre c Z H fp v (.tup xs, n)) : ∃ a vs, v = .ref a ∧ SqT c.K H a vs ∧ xs.length = vs.length ∧ ∀ (i : Nat) d w, xs[i]? = some d → vs[i]? = some w → Tre c Z H fp w (d, n - 1) := by
  obtain ⟨f, hf, r⟩ := h
  cases n with
  | zero =>
    obtain ⟨r, _⟩ := r
    cases r with
    | tup h hl hx => exact ⟨_, _, rfl, s.sqT h, hl, fun i d w h1 h2 => rf_tre (hx i d w h1 h2)⟩
  | succ n =>
    obtain ⟨a, vs, g, e, h1, h2, h3⟩ := r
    refine ⟨a, vs, e, .inl (.inl h1), h2.len, fun i d w k1 k2 => ?_⟩
    obtain ⟨g', hg, r⟩ := LR.items h2 i d w k1 k2
    exact ⟨g', fun x hx => hf x (by rw [h3]; exact List.mem_cons_of_mem _ (hg x hx)), r⟩
theorem tre_dct {kvs : List (Key × D)} (s : Sub Z H) (h : Tre c Z H fp v (.dct kvs, n)) : ∃ a vs, v = .ref a ∧ Rd H a (.dK vs) ∧ kvs.map (·.1) = vs.map (·.1) ∧ ∀ (i : Nat) d w, (kvs.map (·.2))[i]? = some d → (vs.map (·.2))[i]? = some w → Tre c Z H fp w (d, n - 1) := by
  obtain ⟨f, hf, r⟩ := h
  cases n with
  | zero =>
    obtain ⟨r, _⟩ := r
    cases r with
    | dct h hl hx => exact ⟨_, _, rfl, s.rd (.inl h), hl, fun i d w h1 h2 => rf_tre (hx i d w h1 h2)⟩
  | succ n =>
    obtain ⟨a, vs, g, e, h1, h0, h2, h3⟩ := r
    refine ⟨a, vs, e, .inl h1, h0, fun i d w k1 k2 => ?_⟩
    obtain ⟨g', hg, r⟩ := LR.items h2 i d w k1 k2
    exact ⟨g', fun x hx => hf x (by rw [h3]; exact List.mem_cons_of_mem _ (hg x hx)), r⟩
/-- frozen items -/
theorem lr0 : ∀ {xs : List D} {vs : List V}, xs.length = vs.length → (∀ (i : Nat) d w, xs[i]? = some d → vs[i]? = some w → RF c Z d w) → LR (RT c Z H 0) xs vs []
  | [], [], _, _ => rfl
  | x :: xs, v :: vs, hl, h => ⟨[], [], rfl, ⟨h 0 x v rfl rfl, rfl⟩, lr0 (Nat.succ.inj hl) fun i d w h1 h2 => h (i + 1) d w (by simpa using h1) (by simpa using h2)⟩
  | [], _ :: _, hl, _ => by cases hl
  | _ :: _, [], hl, _ => by cases hl
theorem sub_upd (s : Sub Z H) {p : Addr} {o : HO} (hp : H p = none) : Sub Z (upd H p o) := fun a u e => by
  have ne : a ≠ p := fun z => by subst z; exact absurd hp (s.some e)
  rw [upd_ne ne]
  exact s a u e
theorem al_new (s : Sub Z H) {p : Addr} {o : HO} (hp : H p = none) : Al Z H Z (upd H p o) [p] :=
  ⟨Sm.refl _, sub_upd s hp, fun a u e => by rw [upd_ne (ne_of_none e hp)]; exact e, fun a ha => by rw [List.mem_singleton.mp ha]; exact hp, fun _ h => .inl h, List.nodup_cons.mpr ⟨fun h => (nomatch h), .nil⟩, fun a ha => by rw [List.mem_singleton.mp ha]; exact s.none hp⟩
/-- .. frozen at once -/
theorem al_newF (s : Sub Z H) {p : Addr} {o : HO} (hp : H p = none) : Al Z H (upd Z p o) (upd H p o) [] := by
  refine ⟨fun a u e => ?_, fun a u e => ?_, fun a u e => by rw [upd_ne (ne_of_none e hp)]; exact e, fun _ h => (nomatch h), fun a e => ?_, .nil, fun _ h => (nomatch h)⟩
  · rw [upd_ne (ne_of_none e (s.none hp))]; exact e
  · by_cases q : a = p
    · subst q
      rw [upd_same] at e ⊢
      exact .inl e
    · rw [upd_ne q] at e ⊢
      exact s a u e
  · by_cases q : a = p
    · subst q; exact .inr hp
    · rw [upd_ne q] at e; exact .inl e
/-- a new list of frozen items -/
theorem rt_lst {vs : List V} {xs : List D} {H : Hp} {p : Addr} (hl : xs.length = vs.length) (hx : ∀ (i : Nat) d w, xs[i]? = some d → vs[i]? = some w → RF c Z d w) : RT c Z (upd H p (.lst vs)) 1 (.lst xs) (.ref p) [p] :=
  ⟨p, vs, [], rfl, upd_same, lr0 hl hx, rfl⟩
theorem rf_tup {vs : List V} {xs : List D} {p : Addr} (s : Z p = none) (hl : xs.length = vs.length) (hx : ∀ (i : Nat) d w, xs[i]? = some d → vs[i]? = some w → RF c Z d w) : RF c (upd Z p (.tup vs)) (.tup xs) (.ref p) :=
  .tup (.inl (.inl upd_same)) hl fun i d w h1 h2 => (hx i d w h1 h2).mono fun a u e => by rw [upd_ne (ne_of_none e s)]; exact e
/-- what is handed to the rest: a frozen value, nothing made -/
theorem kF {Q : VK} {d : D} (s : Sub Z H) (k : ∀ Z' H' v g, Al Z H Z' H' g → RT c Z' H' 0 d v g → Q v H') (r : RF c Z d v) : Q v H := k Z H v [] (Al.refl s) ⟨r, rfl⟩
theorem kL {Q : VK} {xs : List D} {vs : List V} (s : Sub Z H) (k : ∀ Z' H' v g, Al Z H Z' H' g → RT c Z' H' 1 (.lst xs) v g → Q v H') (hl : xs.length = vs.length) (hx : ∀ (i : Nat) d w, xs[i]? = some d → vs[i]? = some w → RF c Z d w) (p : Addr) (hp : H p = none) : Q (.ref p) (upd H p (.lst vs)) :=
  k Z _ _ [p] (al_new s hp) (rt_lst hl hx)
theorem kT {Q : VK} {xs : List D} {vs : List V} (s : Sub Z H) (k : ∀ Z' H' v g, Al Z H Z' H' g → RT c Z' H' 0 (.tup xs) v g → Q v H') (hl : xs.length = vs.length) (hx : ∀ (i : Nat) d w, xs[i]? = some d → vs[i]? = some w → RF c Z d w) (p : Addr) (hp : H p = none) : Q (.ref p) (upd H p (.tup vs)) :=
  k _ _ _ [] (al_newF s hp) ⟨rf_tup (s.none hp) hl hx, rfl⟩
end

/-! ### operations by trees -/
abbrev F := List T → Option T
def r1 (r : V → Hp → VK → Prop) : List V → Hp → VK → Prop := fun vs H Q => match vs with
  | [x] => r x H Q
  | _ => False
def r2 (r : V → V → Hp → VK → Prop) : List V → Hp → VK → Prop := fun vs H Q => match vs with
  | [x, y] => r x y H Q
  | _ => False
theorem tre2 {c : Zc} {Z H : Hp} {fp : List Addr} {vs : List V} {s t : T} (h : Paired (Tre c Z H fp) vs [s, t]) : ∃ x y, vs = [x, y] ∧ Tre c Z H fp x s ∧ Tre c Z H fp y t := by
  cases h with
  | cons h1 h2 =>
    cases h2 with
    | cons h3 h4 =>
      cases h4
      exact ⟨_, _, rfl, h1, h3⟩
theorem tre1 {c : Zc} {Z H : Hp} {fp : List Addr} {vs : List V} {s : T} (h : Paired (Tre c Z H fp) vs [s]) : ∃ x, vs = [x] ∧ Tre c Z H fp x s := by
  cases h with
  | cons h1 h2 =>
    cases h2
    exact ⟨_, rfl, h1⟩

section
variable {c : Zc}
/-- two ints -/
def fI (C : Int → Int → Prop) [∀ i j, Decidable (C i j)] (g : Int → Int → D) : F
  | [(.int i, _), (.int j, _)] => if C i j then some (g i j, 0) else none
  | _ => none
theorem ruI {C : Int → Int → Prop} [∀ i j, Decidable (C i j)] {g : Int → Int → D} {g' : Int → Int → V} (hg : ∀ Z i j, RF c Z (g i j) (g' i j)) : RuZ c (r2 (rI C g')) (fI C g) := by
  intro Z H fp vs ts t Q e s h k
  match ts, e with
  | [(.int i, _), (.int j, _)], e =>
    simp only [fI] at e
    obtain ⟨x, y, rfl, hx, hy⟩ := tre2 h
    by_cases q : C i j
    · rw [if_pos q] at e
      cases e
      exact ⟨i, j, tre_int hx, tre_int hy, q, kF s k (hg Z i j)⟩
    · rw [if_neg q] at e
      cases e
def fI0 (g : Int → Int → D) : F
  | [(.int i, _), (.int j, _)] => some (g i j, 0)
  | _ => none
theorem ruI0 {g : Int → Int → D} {g' : Int → Int → V} (hg : ∀ Z i j, RF c Z (g i j) (g' i j)) : RuZ c (r2 (rI0 g')) (fI0 g) := by
  intro Z H fp vs ts t Q e s h k
  match ts, e with
  | [(.int i, _), (.int j, _)], e =>
    cases e
    obtain ⟨x, y, rfl, hx, hy⟩ := tre2 h
    exact ⟨i, j, tre_int hx, tre_int hy, kF s k (hg Z i j)⟩
/-- either rule -/
def fOr (f g : F) : F := fun ts => match f ts with
  | some t => some t
  | none => g ts
theorem ruOr2 {r r' : V → V → Hp → VK → Prop} {f g : F} (h : RuZ c (r2 r) f) (h' : RuZ c (r2 r') g) : RuZ c (r2 fun x y H Q => r x y H Q ∨ r' x y H Q) (fOr f g) := by
  intro Z H fp vs ts t Q e s hp k
  have two : ∀ {r : V → V → Hp → VK → Prop} {vs : List V}, r2 r vs H Q → ∃ x y, vs = [x, y] ∧ r x y H Q := fun {r vs} q => by
    match vs, q with
    | [x, y], q => exact ⟨x, y, rfl, q⟩
  unfold fOr at e
  cases q : f ts with
  | some u =>
    rw [q] at e
    cases e
    obtain ⟨x, y, rfl, z⟩ := two (h Z H fp vs ts t Q q s hp k)
    exact .inl z
  | none =>
    rw [q] at e
    obtain ⟨x, y, rfl, z⟩ := two (h' Z H fp vs ts t Q e s hp k)
    exact .inr z
theorem ruOr {r r' : List V → Hp → VK → Prop} {f g : F} (h : RuZ c r f) (h' : RuZ c r' g) : RuZ c (fun vs H Q => r vs H Q ∨ r' vs H Q) (fOr f g) := by
  intro Z H fp vs ts t Q e s hp k
  unfold fOr at e
  cases q : f ts with
  | some u =>
    rw [q] at e
    cases e
    exact .inl (h Z H fp vs ts t Q q s hp k)
  | none =>
    rw [q] at e
    exact .inr (h' Z H fp vs ts t Q e s hp k)

/-! the length of a list or text that the mirrors let by -/
def big : Nat := 16000000
theorem big_le : big ≤ sizeLine := by decide
/-- x + y of texts -/
def fAddS : F
  | [(.str a, _), (.str b, _)] => if a.length + b.length ≤ big then some (.str (a ++ b), 0) else none
  | _ => none
theorem ruAddS : RuZ c (r2 fun x y H Q => ∃ i j, x = .str i ∧ y = .str j ∧ i.length + j.length ≤ sizeLine ∧ Q (.str (i ++ j)) H) fAddS := by
  intro Z H fp vs ts t Q e s h k
  match ts, e with
  | [(.str a, _), (.str b, _)], e =>
    obtain ⟨x, y, rfl, hx, hy⟩ := tre2 h
    simp only [fAddS] at e
    by_cases q : a.length + b.length ≤ big
    · rw [if_pos q] at e
      cases e
      exact ⟨a, b, tre_str hx, tre_str hy, Nat.le_trans q big_le, kF s k .str⟩
    · rw [if_neg q] at e
      cases e
theorem items_app {Z : Hp} {xs ys : List D} {vs ws : List V} (hl : xs.length = vs.length) (h1 : ∀ (i : Nat) d w, xs[i]? = some d → vs[i]? = some w → RF c Z d w) (h2 : ∀ (i : Nat) d w, ys[i]? = some d → ws[i]? = some w → RF c Z d w) :
    ∀ (i : Nat) d w, (xs ++ ys)[i]? = some d → (vs ++ ws)[i]? = some w → RF c Z d w := fun i d w hd hw => by
  by_cases q : i < xs.length
  · rw [List.getElem?_append_left q] at hd
    rw [List.getElem?_append_left (by omega)] at hw
    exact h1 i d w hd hw
  · rw [List.getElem?_append_right (by omega)] at hd
    rw [List.getElem?_append_right (by omega), ← hl] at hw
    exact h2 _ d w hd hw
end
end Z

namespace Z
open PySem L2
section
variable {c : Zc} {L : Nat} {W : WX} {vc : Nat → Option V} {Z H Z' H' : Hp} {σ : St} {vx : List (Option V)} {st tx : S} {fp : List Addr}

/-- the last values are frozen and taken off -/
theorem Wl.frz {ts : List T} {vs : List V} (w : Wl c L vc Z H σ (vx ++ vs.map some) st (tx ++ ts.map fun t => .ow t.1 t.2) fp) (hvc : ∀ j v, vc j = some v → L ≤ j ∧ vx[j - L]? = some (some v)) (hl : vs.length = ts.length) :
    ∃ Z' g, Wl c L vc Z' H σ vx st tx g ∧ Stp fp Z H g Z' H ∧ ∀ (i : Nat) d v, (ts.map (·.1))[i]? = some d → vs[i]? = some v → RF c Z' d v := by
  have lr := w.lr
  rw [← List.append_assoc, ← List.append_assoc] at lr
  have hl' : (st ++ tx).length = (σ ++ vx).length := by
    have := lr.len
    simp only [List.length_append, List.length_map] at this ⊢
    omega
  obtain ⟨g, f, e, h1, h2⟩ := LR.split hl' lr
  have nd := w.nd
  rw [e] at nd
  have n1 := List.nodup_append.mp nd
  have df : ∀ a ∈ f, Z a = none := fun a ha => w.dj a (by rw [e]; exact List.mem_append_right _ ha)
  have ng : ∀ a ∈ g, a ∉ f := fun a ha hb => n1.2.2 a ha a hb rfl
  have sz : Sm Z (zadd Z H f) := zadd_sm df
  refine ⟨zadd Z H f, g, ⟨w.len, w.hst, hvc, zadd_sub w.sub, LR.imp h1 fun a b q _ _ r => CeR.stay sz r fun _ _ => rfl, n1.1, fun a ha => ?_⟩, ⟨sz, fun _ _ h _ => h, fun _ h => h, fun a ha => .inl (by rw [e]; exact List.mem_append_left _ ha), fun a ha => ?_⟩, fun i d v hd hv => ?_⟩
  · rw [zadd_out (ng a ha)]
    exact w.dj a (by rw [e]; exact List.mem_append_left _ ha)
  · by_cases q : a ∈ f
    · exact .inr (.inl (by rw [e]; exact List.mem_append_right _ q))
    · rw [zadd_out q] at ha; exact .inl ha
  · rw [List.getElem?_map] at hd
    cases q : ts[i]? with
    | none => rw [q] at hd; cases hd
    | some t =>
      rw [q] at hd
      cases hd
      obtain ⟨f', hf, r⟩ := LR.items h2 i (.ow t.1 t.2) (some v) (by rw [List.getElem?_map, q]; rfl) (by rw [List.getElem?_map, hv]; rfl)
      obtain ⟨v', e', r⟩ := r
      cases e'
      exact r.freeze sz fun a ha => zadd_in (hf a ha)

/-- mirrors one after another -/
def evm : List (M T) → M (List T)
  | [] => fun s => .ok [] s
  | m :: ms => fun s => match m s with
    | .ok t s' => match evm ms s' with
      | .ok ts s'' => .ok (t :: ts) s''
      | .ex x s'' => .ex x s''
      | .no => .no
    | .ex x s' => .ex x s'
    | .no => .no
def tMs (c : Zc) (L : Nat) (W : WX) : List (M T) → TA
  | [] => tNil
  | m :: ms => tCons (rd c L W m) (tMs c L W ms)
theorem tMs_run {ms : List (M T)} : ∀ {Z H : Hp} {vx : List (Option V)} {st tx : S} {fp : List Addr} {Q : List V → Hp → Prop}, Wl c L vc Z H σ vx st tx fp →
    (match evm ms st with
      | .ok ts s => ∀ Z' H' vs fp', Stp fp Z H fp' Z' H' → vs.length = ts.length → Wl c L vc Z' H' σ (vx ++ vs.map some) s (tx ++ ts.map fun t => .ow t.1 t.2) fp' → Q vs H'
      | .ex x s => ∀ Z' H' fp' cls dd, Stp fp Z H fp' Z' H' → Wl c L vc Z' H' σ vx s tx fp' → IsX c Z' H' x cls dd → W cls dd σ H'
      | .no => False) → tMs c L W ms σ H Q := by
  induction ms with
  | nil =>
    intro Z H vx st tx fp Q w h
    exact h Z H [] fp Stp.refl rfl (by simpa using w)
  | cons m ms ih =>
    intro Z H vx st tx fp Q w h
    refine ⟨Z, vc, vx, st, tx, fp, w, ?_⟩
    cases q : m st with
    | no => simp only [evm, q] at h
    | ex x s =>
      simp only [evm, q] at h
      exact h
    | ok t s =>
      simp only [evm, q] at h
      intro Z1 H1 v fp1 s1 w1
      refine ih w1 ?_
      cases q2 : evm ms s with
      | no => simp only [q2] at h
      | ex x s' =>
        simp only [q2] at h
        intro Z2 H2 fp2 cls dd s2 w2 x2
        obtain ⟨g, hg, w3⟩ := w2.pop' w.hvc
        exact h Z2 H2 g cls dd ((s1.trans s2).trans (Stp.less hg)) w3 x2
      | ok ts s' =>
        simp only [q2] at h
        intro Z2 H2 vs fp2 s2 hl w2
        refine h Z2 H2 (v :: vs) fp2 (s1.trans s2) (by simp [hl]) ?_
        simpa [List.append_assoc] using w2

/-- a name as a value: its tree is frozen -/
def mNm (i : Nat) : M T := fun s => match tre s i with
  | some (d, 0) => .ok (d, 0) s
  | some (d, _ + 1) => .ok (d, 0) (s.set (loc s i) (.ow d 0))
  | none => .no
def mC (d : D) : M T := fun s => .ok (d, 0) s

theorem Stp.of_al {g : List Addr} (al : Al Z H Z' H' g) : Stp fp Z H (fp ++ g) Z' H' := by
  refine ⟨al.sz, fun a o e _ => al.hh a o e, fun a e => ?_, fun a ha => ?_, fun a e => ?_⟩
  · cases q : H a with
    | none => exact absurd q e
    | some o => rw [al.hh a o q]; exact fun z => nomatch z
  · rcases List.mem_append.mp ha with ha | ha
    · exact .inl ha
    · exact .inr (al.gn a ha)
  · rcases al.zn a e with z | z
    · exact .inl z
    · exact .inr (.inr z)
/-- something new on top -/
theorem Wl.al (w : Wl c L vc Z H σ vx st tx fp) {g : List Addr} {d : D} {n : Nat} {v : V} (al : Al Z H Z' H' g) (rt : RT c Z' H' n d v g) : Wl c L vc Z' H' σ (vx ++ [some v]) st (tx ++ [.ow d n]) (fp ++ g) := by
  have old : ∀ a ∈ fp, H a ≠ none := w.there
  have keep : ∀ a ∈ fp, H' a = H a := fun a ha => by
    cases e : H a with
    | none => exact absurd e (old a ha)
    | some o => exact al.hh a o e
  exact w.push al.sz al.sb keep rt (fun a ha hb => old a hb (al.gn a ha)) (fun a ha => by
    cases e : Z' a with
    | none => rfl
    | some o =>
      rcases al.zn a (by rw [e]; exact fun z => nomatch z) with z | z
      · exact absurd (w.dj a ha) z
      · exact absurd z (old a ha)) al.nd al.dj

theorem nm_rd {i : Nat} {Q : VK} (hi : i < L) (h : rd c L W (mNm i) σ H Q) : tVar i σ H Q := by
  obtain ⟨Z, vc, vx, st, tx, fp, w, h⟩ := h
  unfold mNm at h
  cases q : tre st i with
  | none => simp only [q] at h; exact h.elim
  | some t =>
    obtain ⟨d, n⟩ := t
    obtain ⟨v, f, e1, e2, r, hf⟩ := w.look hi q
    refine ⟨v, e1, ?_⟩
    cases n with
    | zero =>
      simp only [q] at h
      exact h Z H v fp Stp.refl (w.pushF r.1)
    | succ n =>
      simp only [q] at h
      have hx : st[loc st i]? = some (.ow d (n + 1)) := by
        unfold tre at' at q
        cases q2 : st[loc st i]? with
        | none => rw [q2] at q; cases q
        | some y =>
          rw [q2] at q
          cases y with
          | ow d' n' => cases q; rfl
          | un => cases q
          | pa j => cases q
      obtain ⟨ov, g1, f', g2, k1, k2, k3, k4⟩ := w.upd (y := .un) hx
      rw [e2] at k1
      cases k1
      obtain ⟨v', e', r'⟩ := k3
      cases e'
      have mf : ∀ a ∈ f', a ∈ fp := fun a ha => by rw [k2]; exact List.mem_append_left _ (List.mem_append_right _ ha)
      have df : ∀ a ∈ f', Z a = none := fun a ha => w.dj a (mf a ha)
      have sz : Sm Z (zadd Z H f') := zadd_sm df
      have rf : RF c (zadd Z H f') d v := r'.freeze sz fun a ha => zadd_in ha
      have zz : ∀ a, zadd Z H f' a ≠ none → Z a ≠ none ∨ a ∈ f' ∨ H a = none := fun a ha => by
        by_cases q : a ∈ f'
        · exact .inr (.inl q)
        · rw [zadd_out q] at ha; exact .inl ha
      have w2 := k4 (zadd Z H f') H (.ow d 0) [] sz (zadd_sub w.sub) (fun _ _ _ => rfl) ⟨v, rfl, rf, rfl⟩ (fun _ h => nomatch h) zz .nil (fun _ h => nomatch h)
      refine h _ H v _ ⟨sz, fun _ _ h _ => h, fun _ h => h, fun a ha => .inl ?_, fun a ha => (zz a ha).imp id (Or.imp (mf a) id)⟩ (w2.pushF rf)
      rw [List.append_nil] at ha
      rw [k2]
      rcases List.mem_append.mp ha with ha | ha
      · exact List.mem_append_left _ (List.mem_append_left _ ha)
      · exact List.mem_append_right _ ha
theorem mC_rd {d : D} {v : V} {Q : VK} (r : ∀ Z, RF c Z d v) (h : rd c L W (mC d) σ H Q) : Q v H := by
  obtain ⟨Z, vc, vx, st, tx, fp, w, h⟩ := h
  exact h Z H v fp Stp.refl (w.pushF (r Z))

/-- (a, b, ..), [a, b, ..] of values that are frozen -/
def mTup (ms : List (M T)) : M T := fun s => match evm ms s with
  | .ok ts s' => .ok (.tup (ts.map (·.1)), 0) s'
  | .ex x s' => .ex x s'
  | .no => .no
def mLst (ms : List (M T)) : M T := fun s => match evm ms s with
  | .ok ts s' => .ok (.lst (ts.map (·.1)), 1) s'
  | .ex x s' => .ex x s'
  | .no => .no
theorem evm_len : ∀ {ms : List (M T)} {s s' : S} {ts : List T}, evm ms s = .ok ts s' → ts.length = ms.length
  | [], s, s', ts, h => by cases h; rfl
  | m :: ms, s, s', ts, h => by
    cases q : m s with
    | no => simp only [evm, q] at h; cases h
    | ex x s1 => simp only [evm, q] at h; cases h
    | ok t s1 =>
      cases q2 : evm ms s1 with
      | no => simp only [evm, q, q2] at h; cases h
      | ex x s1 => simp only [evm, q, q2] at h; cases h
      | ok ts' s2 =>
        simp only [evm, q, q2] at h
        cases h
        simp [evm_len q2]
theorem disp_rd {ms : List (M T)} {mk : List D → D} {n : Nat} {o : List V → HO} {Q : VK} (hl : ms.length ≤ big)
    (h : rd c L W (fun s => match evm ms s with
      | .ok ts s' => .ok (mk (ts.map (·.1)), n) s'
      | .ex x s' => .ex x s'
      | .no => .no) σ H Q)
    (hk : ∀ {Z H : Hp} {xs : List D} {vs : List V} {p : Addr}, Sub Z H → H p = none → xs.length = vs.length → (∀ (i : Nat) d w, xs[i]? = some d → vs[i]? = some w → RF c Z d w) → ∃ Z' g, Al Z H Z' (upd H p (o vs)) g ∧ RT c Z' (upd H p (o vs)) n (mk xs) (.ref p) g) :
    tMs c L W ms σ H fun xs H1 => xs.length ≤ sizeLine ∧ ∀ p, H1 p = none → Q (.ref p) (upd H1 p (o xs)) := by
  obtain ⟨Z, vc, vx, st, tx, fp, w, h⟩ := h
  refine tMs_run w ?_
  cases q : evm ms st with
  | no => simp only [q] at h; exact h.elim
  | ex x s => simp only [q] at h; exact h
  | ok ts s =>
    simp only [q] at h
    intro Z1 H1 vs fp1 s1 hl1 w1
    obtain ⟨Z2, g, w2, s2, rf⟩ := w1.frz w.hvc hl1
    refine ⟨Nat.le_trans (by rw [hl1, evm_len q]; exact hl) big_le, fun p hp => ?_⟩
    obtain ⟨Z3, g3, al, rt⟩ := hk w2.sub hp (xs := ts.map (·.1)) (vs := vs) (by simp [hl1]) rf
    exact h Z3 _ (.ref p) _ ((s1.trans s2).trans (Stp.of_al al)) (w2.al al rt)
theorem tup_rd {ms : List (M T)} {Q : VK} (hl : ms.length ≤ big) (h : rd c L W (mTup ms) σ H Q) : tTup (tMs c L W ms) σ H Q :=
  disp_rd (o := .tup) (mk := .tup) (n := 0) hl h fun {Z H xs vs p} s hp hl hx => ⟨_, [], al_newF s hp, rf_tup (s.none hp) hl hx, rfl⟩
theorem lst_rd {ms : List (M T)} {Q : VK} (hl : ms.length ≤ big) (h : rd c L W (mLst ms) σ H Q) : tLst (tMs c L W ms) σ H Q :=
  disp_rd (o := .lst) (mk := .lst) (n := 1) hl h fun {Z H xs vs p} s hp hl hx => ⟨Z, [p], al_new s hp, rt_lst hl hx⟩
end

/-! ### the rules over the text -/
section
variable {X : Cx} {c : Zc} {L : Nat} {W : WX} {pos : Pos}
abbrev ZE (X : Cx) (c : Zc) (L : Nat) (W : WX) (e : Expr) (m : M T) : Prop := PE X e (rd c L W m)
abbrev ZO (X : Cx) (c : Zc) (L : Nat) (W : WX) (e : Expr) (o : Opd) : Prop := PE X e (tO c L W o)
theorem PE.imp {e : Expr} {t t' : TE} (h : PE X e t) (k : ∀ σ H Q, t' σ H Q → t σ H Q) : PE X e t' := ⟨fun pins s σ H Q I q => h.run pins s σ H Q I (k _ _ _ q)⟩
theorem PT.imp {e : Expr} {t t' : TT} (h : PT X e t) (k : ∀ σ H Q, t' σ H Q → t σ H Q) : PT X e t' := ⟨fun pins s σ H Q I q => h.run pins s σ H Q I (k _ _ _ q)⟩
theorem PA.imp {e : List Expr} {t t' : TA} (h : PA X e t) (k : ∀ σ H Q, t' σ H Q → t σ H Q) : PA X e t' := ⟨fun pos pins s σ H Q I q => h.run pos pins s σ H Q I (k _ _ _ q)⟩
theorem PS.imp {e : Stmt} {t t' : TS} (h : PS X e t) (k : ∀ D σ H, t' D σ H → t D σ H) : PS X e t' := ⟨fun pins s σ H D I q => h.run pins s σ H D I (k _ _ _ q)⟩
theorem PSs.imp {e : List Stmt} {t t' : TS} (h : PSs X e t) (k : ∀ D σ H, t' D σ H → t D σ H) : PSs X e t' := ⟨fun pins s σ H D I q => h.run pins s σ H D I (k _ _ _ q)⟩

theorem ze_nm {x : Str} {i : Nat} (hN : X.N[i]? = some x) (hv : Vis X.env.scope x) (hi : i < L) (hd : (x == ("__debug__" : Str)) = false := by decide) (hcd : (x == ("__classdict__" : Str)) = false := by decide) : ZE X c L W (.Name x pos) (mNm i) :=
  PE.imp (pe_var hN hv hd hcd) fun _ _ _ => nm_rd hi
theorem zo_nm {x : Str} {i : Nat} (hN : X.N[i]? = some x) (hv : Vis X.env.scope x) (hd : (x == ("__debug__" : Str)) = false := by decide) (hcd : (x == ("__classdict__" : Str)) = false := by decide) : ZO X c L W (.Name x pos) (.nm i) :=
  PE.imp (pe_var hN hv hd hcd) fun _ _ _ h => h.2
theorem ze_c {e : Expr} {d : D} {v : V} (h : PE X e (tC v)) (r : ∀ Z, RF c Z d v) : ZE X c L W e (mC d) := PE.imp h fun _ _ _ h => mC_rd r h
theorem ze_int {i j} : ZE X c L W (.Constant (.int i) j pos) (mC (.int i)) := ze_c pe_int fun _ => .int
theorem ze_bl {i j} : ZE X c L W (.Constant (.bool i) j pos) (mC (.bl i)) := ze_c pe_bl fun _ => .bl
theorem ze_str {i j} : ZE X c L W (.Constant (.str i) j pos) (mC (.str i)) := ze_c pe_str fun _ => .str
theorem ze_non {j} : ZE X c L W (.Constant .none j pos) (mC .non) := ze_c pe_non fun _ => .non

/-- argument lists -/
abbrev ZA (X : Cx) (c : Zc) (L : Nat) (W : WX) (es : List Expr) (ms : List (M T)) : Prop := PA X es (tMs c L W ms)
abbrev ZOs (X : Cx) (c : Zc) (L : Nat) (W : WX) (es : List Expr) (os : List Opd) : Prop := PA X es (tOs c L W os)
theorem za_nil : ZA X c L W [] [] := pa_nil
theorem za_cons {e : Expr} {es : List Expr} {m : M T} {ms : List (M T)} (ha : ZE X c L W e m) (hr : ZA X c L W es ms) (hs : starEach (e :: es) X.env = (false, eval e X.env) :: starEach es X.env := by rfl) : ZA X c L W (e :: es) (m :: ms) := pa_cons ha hr hs
theorem zos_nil : ZOs X c L W [] [] := pa_nil
theorem zos_cons {e : Expr} {es : List Expr} {m : Opd} {ms : List Opd} (ha : ZO X c L W e m) (hr : ZOs X c L W es ms) (hs : starEach (e :: es) X.env = (false, eval e X.env) :: starEach es X.env := by rfl) : ZOs X c L W (e :: es) (m :: ms) := pa_cons ha hr hs
theorem ze_tup {es : List Expr} {ms : List (M T)} {k} (h : ZA X c L W es ms) (hl : ms.length ≤ big := by decide) : ZE X c L W (.Tuple es k pos) (mTup ms) := PE.imp (pe_tup h) fun _ _ _ => tup_rd hl
theorem ze_lst {es : List Expr} {ms : List (M T)} (h : ZA X c L W es ms) (hl : ms.length ≤ big := by decide) : ZE X c L W (.List es pos) (mLst ms) := PE.imp (pe_lst h) fun _ _ _ => lst_rd hl

/-- operations -/
def okL (L : Nat) : List Opd → Bool
  | [] => true
  | .nm i :: os => decide (i < L) && okL L os
  | .tm _ :: os => okL L os
theorem okL_mem {L : Nat} : ∀ {os : List Opd}, okL L os = true → ∀ i, Opd.nm i ∈ os → i < L
  | [], _, i, h => nomatch h
  | .nm j :: os, e, i, h => by
    unfold okL at e
    rw [Bool.and_eq_true] at e
    rcases List.mem_cons.mp h with h | h
    · cases h; exact of_decide_eq_true e.1
    · exact okL_mem e.2 i h
  | .tm _ :: os, e, i, h => by
    rcases List.mem_cons.mp h with h | h
    · cases h
    · exact okL_mem (os := os) e i h
theorem ze_bin {a b : Expr} {oa ob : Opd} {op : Operator} {r : R2} {f : F} (ho : OpR X (binaryOp op) r) (hr : RuZ c (r2 r) f) (ha : ZO X c L W a oa) (hb : ZO X c L W b ob) (hL : okL L [oa, ob] = true := by rfl) : ZE X c L W (.BinOp a op b pos) (mOp f [oa, ob]) :=
  PE.imp (pe_op ho ha hb) fun σ H Q h => run_op hr (okL_mem hL) h
theorem ze_un {a : Expr} {oa : Opd} {op : UnaryOp} {r : V → Hp → VK → Prop} {f : F} (ho : UnR X (unaryOp op) r) (hr : RuZ c (r1 r) f) (ha : ZO X c L W a oa) (hL : okL L [oa] = true := by rfl) : ZE X c L W (.UnaryOp op a pos) (mOp f [oa]) :=
  PE.imp (pe_un ho ha) fun σ H Q h => run_op hr (okL_mem hL) h
theorem ze_cmp {a b : Expr} {oa ob : Opd} {op : CmpOp} {r : R2} {f : F} (ho : OpR X (compareOp op) r) (hr : RuZ c (r2 r) f) (ha : ZO X c L W a oa) (hb : ZO X c L W b ob) (hm : behindInMarks op b = false) (hL : okL L [oa, ob] = true := by rfl) : ZE X c L W (.Compare a [op] [b] pos) (mOp f [oa, ob]) :=
  PE.imp (pe_cmpR ho ha hb hm) fun σ H Q h => run_op hr (okL_mem hL) h
theorem ze_ix {a b : Expr} {oa ob : Opd} {r : R2} {f : F} (ho : IxR X r) (hr : RuZ c (r2 r) f) (ha : ZO X c L W a oa) (hb : ZO X c L W b ob) (hs : PlainIx b) (hL : okL L [oa, ob] = true := by rfl) : ZE X c L W (.Subscript a b pos) (mOp f [oa, ob]) :=
  PE.imp (pe_ix ho ha hb hs) fun σ H Q h => run_op hr (okL_mem hL) h
/-- a built-in called -/
theorem ze_blt {x : Str} {id : String} {e : Expr} {es : List Expr} {os : List Opd} {p : Pos} {r : List V → Hp → VK → Prop} {f : F} (hc : CallR X (.builtin id) r) (hr : RuZ c r f) (hg : Gl X x) (hm : X.mg x = none) (hv : bootBuiltins x = some (.builtin id)) (ha : ZOs X c L W (e :: es) os)
    (h : PE X (.Call (.Name x p) (e :: es) [] pos) (tCB r (tOs c L W os)) := by exact pe_callB (by assumption) (by assumption) (by assumption) (by assumption) (by assumption)) (hL : okL L os = true := by rfl) : ZE X c L W (.Call (.Name x p) (e :: es) [] pos) (mOp f os) :=
  PE.imp h fun σ H Q h => run_op hr (okL_mem hL) h
end
end Z

namespace Z
open PySem L2
/-! ### tests -/
def mB (m : M T) : M Bool := fun s => match m s with
  | .ok (.bl b, _) s' => .ok b s'
  | .ok _ _ => .no
  | .ex x s' => .ex x s'
  | .no => .no
def truT : T → Option Bool
  | (.non, _) => some false
  | (.bl b, _) => some b
  | (.int i, _) => some (i != 0)
  | (.str a, _) => if a.length ≤ big then some ((a.length : Int) != 0) else none
  | (.lst xs, _) => some (!xs.isEmpty)
  | (.tup xs, _) => some (!xs.isEmpty)
  | (.rol xs, _) => some (!xs.isEmpty)
  | _ => none
/-- the truth of an operand -/
def mTru (o : Opd) : M Bool := fun s => match evs [o] s with
  | .ok hs s' => match gets [o] hs s' with
    | some [t] => match truT t with
      | some b => .ok b s'
      | none => .no
    | _ => .no
  | .ex x s' => .ex x s'
  | .no => .no
def mAndT (a b : M Bool) : M Bool := fun s => match a s with
  | .ok true s' => b s'
  | r => r
def mOrT (a b : M Bool) : M Bool := fun s => match a s with
  | .ok false s' => b s'
  | r => r
def mNotT (a : M Bool) : M Bool := fun s => match a s with
  | .ok b s' => .ok (!b) s'
  | r => r
def mAnd (a b : M T) : M T := fun s => match a s with
  | .ok (.bl true, _) s' => b s'
  | .ok (.bl false, _) s' => .ok (.bl false, 0) s'
  | .ok _ _ => .no
  | r => r
def mOr (a b : M T) : M T := fun s => match a s with
  | .ok (.bl false, _) s' => b s'
  | .ok (.bl true, _) s' => .ok (.bl true, 0) s'
  | .ok _ _ => .no
  | r => r
def mNot (a : M T) : M T := fun s => match a s with
  | .ok (.bl b, _) s' => .ok (.bl (!b), 0) s'
  | .ok _ _ => .no
  | r => r
def mIf (t : M Bool) (a b : M T) : M T := fun s => match t s with
  | .ok true s' => a s'
  | .ok false s' => b s'
  | .ex x s' => .ex x s'
  | .no => .no
section
variable {c : Zc} {L : Nat} {W : WX} {vc : Nat → Option V} {Z H Z' H' : Hp} {σ : St} {vx : List (Option V)} {st tx : S} {fp : List Addr}
theorem tre_of_push {d : D} {n : Nat} {v : V} (w : Wl c L vc Z H σ (vx ++ [some v]) st (tx ++ [.ow d n]) fp) : Tre c Z H fp v (d, n) := by
  have lr := w.lr
  rw [← List.append_assoc, ← List.append_assoc] at lr
  have hl' : (st ++ tx).length = (σ ++ vx).length := by
    have := lr.len
    simp only [List.length_append, List.length_cons, List.length_nil] at this ⊢
    omega
  have i1 : ((st ++ tx) ++ [Ce.ow d n])[(st ++ tx).length]? = some (Ce.ow d n) := by simp
  have i2 : ((σ ++ vx) ++ [some v])[(st ++ tx).length]? = some (some v) := by rw [hl']; simp
  obtain ⟨f, hf, v', e', r⟩ := LR.items lr _ _ _ i1 i2
  cases e'
  exact ⟨f, hf, r⟩
/-- a value whose kind is known is taken off -/
theorem rd_off {m : M T} {Q : VK} {P : VK} (h : ∃ Z vc vx st tx fp, Wl c L vc Z H σ vx st tx fp ∧ (match m st with
    | .ok t s => ∀ Z' H' fp', Stp fp Z H fp' Z' H' → Wl c L vc Z' H' σ vx s tx fp' → ∀ v fp1, Tre c Z' H' fp1 v t → Sub Z' H' → P v H'
    | .ex x s => ∀ Z' H' fp' cls dd, Stp fp Z H fp' Z' H' → Wl c L vc Z' H' σ vx s tx fp' → IsX c Z' H' x cls dd → W cls dd σ H'
    | .no => False)) : rd c L W m σ H P := by
  obtain ⟨Z, vc, vx, st, tx, fp, w, h⟩ := h
  refine ⟨Z, vc, vx, st, tx, fp, w, ?_⟩
  cases q : m st with
  | no => simp only [q] at h
  | ex x s => simp only [q] at h; exact h
  | ok t s =>
    simp only [q] at h
    intro Z1 H1 v fp1 s1 w1
    have tr := tre_of_push w1
    obtain ⟨g, hg, w2⟩ := w1.pop' w.hvc
    exact h Z1 H1 g (s1.trans (Stp.less hg)) w2 v fp1 tr w1.sub
theorem mB_rd {m : M T} {Q : Bool → Hp → Prop} (h : rdT c L W (mB m) σ H Q) : rd c L W m σ H (fun x H' => ∃ k, x = .bl k ∧ Q k H') := by
  obtain ⟨Z, vc, vx, st, tx, fp, w, h⟩ := h
  refine rd_off (Q := fun _ _ => True) ⟨Z, vc, vx, st, tx, fp, w, ?_⟩
  cases q : m st with
  | no => simp only [mB, q] at h; exact h.elim
  | ex x s => simp only [mB, q] at h; exact h
  | ok t s =>
    obtain ⟨d, n⟩ := t
    intro Z1 H1 fp1 s1 w1 v fp2 tr _
    cases d with
    | bl b =>
      simp only [mB, q] at h
      exact ⟨b, tre_bl tr, h Z1 H1 fp1 s1 w1⟩
    | _ => simp only [mB, q] at h; exact h.elim
theorem mNotT_rd {a : M Bool} {Q : Bool → Hp → Prop} (h : rdT c L W (mNotT a) σ H Q) : tNot (rdT c L W a) σ H Q := by
  obtain ⟨Z, vc, vx, st, tx, fp, w, h⟩ := h
  refine ⟨Z, vc, vx, st, tx, fp, w, ?_⟩
  cases q : a st with
  | no => simp only [mNotT, q] at h; exact h
  | ex x s => simp only [mNotT, q] at h; exact h
  | ok t s => simp only [mNotT, q] at h; exact h
theorem mAndT_rd {a b : M Bool} {Q : Bool → Hp → Prop} (h : rdT c L W (mAndT a b) σ H Q) : tAnd (rdT c L W a) (rdT c L W b) σ H Q := by
  obtain ⟨Z, vc, vx, st, tx, fp, w, h⟩ := h
  refine ⟨Z, vc, vx, st, tx, fp, w, ?_⟩
  cases q : a st with
  | no => simp only [mAndT, q] at h; exact h
  | ex x s => simp only [mAndT, q] at h; exact h
  | ok t s =>
    cases t with
    | false =>
      simp only [mAndT, q] at h
      intro Z1 H1 fp1 s1 w1
      rw [if_neg Bool.false_ne_true]
      exact h Z1 H1 fp1 s1 w1
    | true =>
      simp only [mAndT, q] at h
      intro Z1 H1 fp1 s1 w1
      rw [if_pos rfl]
      refine ⟨Z1, vc, vx, s, tx, fp1, w1, ?_⟩
      cases q2 : b s with
      | no => simp only [q2] at h; exact h
      | ex x s' =>
        simp only [q2] at h
        exact fun Z2 H2 fp2 cls dd s2 => h Z2 H2 fp2 cls dd (s1.trans s2)
      | ok t s' =>
        simp only [q2] at h
        exact fun Z2 H2 fp2 s2 => h Z2 H2 fp2 (s1.trans s2)
theorem mOrT_rd {a b : M Bool} {Q : Bool → Hp → Prop} (h : rdT c L W (mOrT a b) σ H Q) : tOr (rdT c L W a) (rdT c L W b) σ H Q := by
  obtain ⟨Z, vc, vx, st, tx, fp, w, h⟩ := h
  refine ⟨Z, vc, vx, st, tx, fp, w, ?_⟩
  cases q : a st with
  | no => simp only [mOrT, q] at h; exact h
  | ex x s => simp only [mOrT, q] at h; exact h
  | ok t s =>
    cases t with
    | true =>
      simp only [mOrT, q] at h
      intro Z1 H1 fp1 s1 w1
      rw [if_pos rfl]
      exact h Z1 H1 fp1 s1 w1
    | false =>
      simp only [mOrT, q] at h
      intro Z1 H1 fp1 s1 w1
      rw [if_neg Bool.false_ne_true]
      refine ⟨Z1, vc, vx, s, tx, fp1, w1, ?_⟩
      cases q2 : b s with
      | no => simp only [q2] at h; exact h
      | ex x s' =>
        simp only [q2] at h
        exact fun Z2 H2 fp2 cls dd s2 => h Z2 H2 fp2 cls dd (s1.trans s2)
      | ok t s' =>
        simp only [q2] at h
        exact fun Z2 H2 fp2 s2 => h Z2 H2 fp2 (s1.trans s2)
/-- behind a step, an expression -/
theorem PoE.behind {Z1 H1 : Hp} {fp1 : List Addr} {r : R T} {Q : VK} (s1 : Stp fp Z H fp1 Z1 H1) (h : PoE c L W vc Z H σ vx tx fp r Q) : PoE c L W vc Z1 H1 σ vx tx fp1 r Q := by
  cases r with
  | no => exact h
  | ex x s' => exact fun Z2 H2 fp2 cls dd s2 => h Z2 H2 fp2 cls dd (s1.trans s2)
  | ok t s' => exact fun Z2 H2 v fp2 s2 => h Z2 H2 v fp2 (s1.trans s2)
theorem mIf_rd {t : M Bool} {a b : M T} {Q : VK} (h : rd c L W (mIf t a b) σ H Q) : tIf (rdT c L W t) (rd c L W a) (rd c L W b) σ H Q := by
  obtain ⟨Z, vc, vx, st, tx, fp, w, h⟩ := h
  refine ⟨Z, vc, vx, st, tx, fp, w, ?_⟩
  cases q : t st with
  | no => simp only [mIf, q] at h; exact h
  | ex x s => simp only [mIf, q] at h; exact h
  | ok k s =>
    intro Z1 H1 fp1 s1 w1
    cases k with
    | true =>
      simp only [mIf, q] at h
      rw [if_pos rfl]
      exact ⟨Z1, vc, vx, s, tx, fp1, w1, h.behind s1⟩
    | false =>
      simp only [mIf, q] at h
      rw [if_neg Bool.false_ne_true]
      exact ⟨Z1, vc, vx, s, tx, fp1, w1, h.behind s1⟩
theorem mAnd_rd {a b : M T} {Q : VK} (h : rd c L W (mAnd a b) σ H Q) : tAndV (rd c L W a) (rd c L W b) σ H Q := by
  obtain ⟨Z, vc, vx, st, tx, fp, w, h⟩ := h
  refine rd_off (Q := fun _ _ => True) ⟨Z, vc, vx, st, tx, fp, w, ?_⟩
  cases q : a st with
  | no => simp only [mAnd, q] at h; exact h
  | ex x s => simp only [mAnd, q] at h; exact h
  | ok t s =>
    obtain ⟨d, n⟩ := t
    intro Z1 H1 fp1 s1 w1 v fp2 tr sb
    cases d with
    | bl k =>
      cases k with
      | true =>
        simp only [mAnd, q] at h
        refine ⟨true, tre_bl tr, ?_⟩
        rw [if_pos rfl]
        exact ⟨Z1, vc, vx, s, tx, fp1, w1, h.behind s1⟩
      | false =>
        simp only [mAnd, q] at h
        refine ⟨false, tre_bl tr, ?_⟩
        rw [if_neg Bool.false_ne_true]
        exact h Z1 H1 (.bl false) fp1 s1 (w1.pushF .bl)
    | _ => simp only [mAnd, q] at h; exact h.elim
theorem mOr_rd {a b : M T} {Q : VK} (h : rd c L W (mOr a b) σ H Q) : tOrV (rd c L W a) (rd c L W b) σ H Q := by
  obtain ⟨Z, vc, vx, st, tx, fp, w, h⟩ := h
  refine rd_off (Q := fun _ _ => True) ⟨Z, vc, vx, st, tx, fp, w, ?_⟩
  cases q : a st with
  | no => simp only [mOr, q] at h; exact h
  | ex x s => simp only [mOr, q] at h; exact h
  | ok t s =>
    obtain ⟨d, n⟩ := t
    intro Z1 H1 fp1 s1 w1 v fp2 tr sb
    cases d with
    | bl k =>
      cases k with
      | false =>
        simp only [mOr, q] at h
        refine ⟨false, tre_bl tr, ?_⟩
        rw [if_neg Bool.false_ne_true]
        exact ⟨Z1, vc, vx, s, tx, fp1, w1, h.behind s1⟩
      | true =>
        simp only [mOr, q] at h
        refine ⟨true, tre_bl tr, ?_⟩
        rw [if_pos rfl]
        exact h Z1 H1 (.bl true) fp1 s1 (w1.pushF .bl)
    | _ => simp only [mOr, q] at h; exact h.elim
theorem mNot_rd {a : M T} {Q : VK} (h : rd c L W (mNot a) σ H Q) : tNotV (rd c L W a) σ H Q := by
  obtain ⟨Z, vc, vx, st, tx, fp, w, h⟩ := h
  refine rd_off (Q := fun _ _ => True) ⟨Z, vc, vx, st, tx, fp, w, ?_⟩
  cases q : a st with
  | no => simp only [mNot, q] at h; exact h
  | ex x s => simp only [mNot, q] at h; exact h
  | ok t s =>
    obtain ⟨d, n⟩ := t
    intro Z1 H1 fp1 s1 w1 v fp2 tr sb
    cases d with
    | bl k =>
      simp only [mNot, q] at h
      exact ⟨k, tre_bl tr, h Z1 H1 (.bl (!k)) fp1 s1 (w1.pushF .bl)⟩
    | _ => simp only [mNot, q] at h; exact h.elim
theorem truT_ok {t : T} {b : Bool} {v : V} (s : Sub Z H) (h : Tre c Z H fp v t) (e : truT t = some b) : TruV c.K v H b := by
  obtain ⟨d, n⟩ := t
  cases d with
  | non => cases e; rw [tre_non h]; exact rfl
  | bl k => cases e; rw [tre_bl h]; exact rfl
  | int k => cases e; rw [tre_int h]; exact rfl
  | str a =>
    rw [tre_str h]
    by_cases q : a.length ≤ big
    · simp only [truT, if_pos q, Option.some.injEq] at e
      exact ⟨Nat.le_trans q big_le, e.symm⟩
    · simp only [truT, if_neg q] at e
      cases e
  | lst xs =>
    cases e
    obtain ⟨a, vs, rfl, h1, h2, _⟩ := tre_lst s h
    refine .inl ⟨vs, .inl (.inl h1), ?_⟩
    cases xs <;> cases vs <;> first | rfl | cases h2
  | rol xs =>
    cases e
    obtain ⟨a, vs, rfl, h1, h2, _⟩ := tre_rol s h
    refine .inl ⟨vs, h1, ?_⟩
    cases xs <;> cases vs <;> first | rfl | cases h2
  | tup xs =>
    cases e
    obtain ⟨a, vs, rfl, h1, h2, _⟩ := tre_tup s h
    refine .inr (.inl ⟨vs, h1, ?_⟩)
    cases xs <;> cases vs <;> first | rfl | cases h2
  | dct kvs => cases e
  | obj C fs => cases e
theorem mTru_rd {o : Opd} {Q : Bool → Hp → Prop} (hL : okL L [o] = true) (h : rdT c L W (mTru o) σ H Q) : tO c L W o σ H fun x H' => ∃ k, TruV c.K x H' k ∧ Q k H' := by
  obtain ⟨Z, vc, vx, st, tx, fp, w, h⟩ := h
  have z : tOs c L W [o] σ H (fun vs H1 => ∃ x, vs = [x] ∧ ∃ k, TruV c.K x H1 k ∧ Q k H1) := by
    refine tOs_run w (okL_mem hL) ?_
    unfold mTru at h
    cases q : evs [o] st with
    | no => simp only [q] at h; exact h.elim
    | ex x s => simp only [q] at h; exact h
    | ok hs s =>
      simp only [q] at h
      intro Z1 H1 vs vy ty fp1 s1 w1 r1
      have hl : (s ++ tx).length = (σ ++ vx).length := by
        have e := w1.lr.len
        have e2 := r1.len
        simp only [List.length_append] at e ⊢
        omega
      cases q2 : gets [o] hs s with
      | none => simp only [q2] at h; exact h.elim
      | some ts =>
        have tr := r1.trees w1 hl (okL_mem hL) q2
        match ts, tr, q2 with
        | [], _, q2 => simp only [q2] at h; exact h.elim
        | _ :: _ :: _, _, q2 => simp only [q2] at h; exact h.elim
        | [t], tr, q2 =>
          simp only [q2] at h
          obtain ⟨x, rfl, tx1⟩ := tre1 tr
          cases q3 : truT t with
          | none => simp only [q3] at h; exact h.elim
          | some b =>
            simp only [q3] at h
            obtain ⟨g, hg, w2⟩ := Wl.pops r1.len w1 w.hvc
            exact ⟨x, rfl, b, truT_ok w1.sub tx1 q3, h Z1 H1 g (s1.trans (Stp.less hg)) w2⟩
  cases o with
  | nm i =>
    obtain ⟨hi, v, e, x, ex, q⟩ := z
    cases ex
    exact ⟨hi, v, e, q⟩
  | tm m =>
    obtain ⟨Z, vc, vx, st, tx, fp, w, h⟩ := z
    refine ⟨Z, vc, vx, st, tx, fp, w, ?_⟩
    cases q : m st with
    | no => rw [q] at h; exact h
    | ex x s => rw [q] at h; exact h
    | ok t s =>
      rw [q] at h
      intro Z1 H1 v fp1 s1 w1
      obtain ⟨x, ex, q⟩ := h Z1 H1 v fp1 s1 w1
      cases ex
      exact q
end
section
variable {X : Cx} {c : Zc} {L : Nat} {W : WX} {pos : Pos}
abbrev ZT (X : Cx) (c : Zc) (L : Nat) (W : WX) (e : Expr) (m : M Bool) : Prop := PT X e (rdT c L W m)
abbrev ZW (X : Cx) (c : Zc) (L : Nat) (W : WX) (e : Expr) (m : M Bool) : Prop := PW X e (rdT c L W m)
theorem zt_val {e : Expr} {m : M T} (h : ZE X c L W e m) (he : ∀ whole, isTrue e X.env whole = (do let v ← whole; standAt e.pos; holding [v] (truthy v)) := by intro _; rfl) : ZT X c L W e (mB m) :=
  PT.imp (pt_val h he) fun _ _ _ h => mB_rd h
theorem zt_cmp {a b : Expr} {oa ob : Opd} {op : CmpOp} {r : R2} {f : F} (ho : OpR X (compareOp op) r) (hr : RuZ c (r2 r) f) (ha : ZO X c L W a oa) (hb : ZO X c L W b ob) (hm : behindInMarks op b = false) (hL : okL L [oa, ob] = true := by rfl) : ZT X c L W (.Compare a [op] [b] pos) (mB (mOp f [oa, ob])) :=
  PT.imp (pt_cmpR ho ha hb hm) fun σ H Q h => run_op hr (okL_mem hL) (mB_rd h)
theorem zt_tru {a : Expr} {o : Opd} (hK : c.K = X.K) (ha : ZO X c L W a o) (he : ∀ whole, isTrue a X.env whole = (do let v ← whole; standAt a.pos; holding [v] (truthy v)) := by intro _; rfl) (hL : okL L [o] = true := by rfl) : ZT X c L W a (mTru o) :=
  PT.imp (pt_truth ha he) fun σ H Q h => hK ▸ mTru_rd hL h
theorem zt_not {a : Expr} {m : M Bool} (h : ZT X c L W a m) : ZT X c L W (.UnaryOp .Not a pos) (mNotT m) := PT.imp (pt_not h) fun _ _ _ h => mNotT_rd h
theorem zw_and1 {a : Expr} {m : M Bool} (h : ZT X c L W a m) : ZW X c L W (.BoolOp .And [a] pos) m := pw_and1 h
theorem zw_or1 {a : Expr} {m : M Bool} (h : ZT X c L W a m) : ZW X c L W (.BoolOp .Or [a] pos) m := pw_or1 h
theorem PW.imp {e : Expr} {t t' : TT} (h : PW X e t) (k : ∀ σ H Q, t' σ H Q → t σ H Q) : PW X e t' := ⟨fun wh pins s σ H Q I q => h.run wh pins s σ H Q I (k _ _ _ q)⟩
theorem zw_and {a b : Expr} {rest : List Expr} {m n : M Bool} (h : ZT X c L W a m) (k : ZW X c L W (.BoolOp .And (b :: rest) pos) n) : ZW X c L W (.BoolOp .And (a :: b :: rest) pos) (mAndT m n) := PW.imp (pw_and h k) fun _ _ _ h => mAndT_rd h
theorem zw_or {a b : Expr} {rest : List Expr} {m n : M Bool} (h : ZT X c L W a m) (k : ZW X c L W (.BoolOp .Or (b :: rest) pos) n) : ZW X c L W (.BoolOp .Or (a :: b :: rest) pos) (mOrT m n) := PW.imp (pw_or h k) fun _ _ _ h => mOrT_rd h
theorem zt_w {e : Expr} {m : M Bool} (h : ZW X c L W e m) : ZT X c L W e m := h.pt
theorem ze_one {a : Expr} {op} {m : M T} (h : ZE X c L W a m) : ZE X c L W (.BoolOp op [a] pos) m := pe_one h
theorem ze_and {a b : Expr} {rest : List Expr} {m n : M T} (h : ZE X c L W a m) (k : ZE X c L W (.BoolOp .And (b :: rest) pos) n) : ZE X c L W (.BoolOp .And (a :: b :: rest) pos) (mAnd m n) := PE.imp (pe_and h k) fun _ _ _ h => mAnd_rd h
theorem ze_or {a b : Expr} {rest : List Expr} {m n : M T} (h : ZE X c L W a m) (k : ZE X c L W (.BoolOp .Or (b :: rest) pos) n) : ZE X c L W (.BoolOp .Or (a :: b :: rest) pos) (mOr m n) := PE.imp (pe_or h k) fun _ _ _ h => mOr_rd h
theorem ze_not {a : Expr} {m : M T} (h : ZE X c L W a m) : ZE X c L W (.UnaryOp .Not a pos) (mNot m) := PE.imp (pe_not h) fun _ _ _ h => mNot_rd h
theorem ze_if {t a b : Expr} {m : M Bool} {n k : M T} (h : ZT X c L W t m) (ha : ZE X c L W a n) (hb : ZE X c L W b k) : ZE X c L W (.IfExp t a b pos) (mIf m n k) := PE.imp (pe_ifExp h ha hb) fun _ _ _ h => mIf_rd h
end
end Z

namespace Z
open PySem L2
/-! ### statements -/
inductive Fl where
  | nx | rt (t : T) | bk | ct
section
variable (c : Zc) (L : Nat) (W : WX)
def PoS (vc : Nat → Option V) (Z H : Hp) (vx : List (Option V)) (tx : S) (fp : List Addr) (r : R Fl) (D : Ends) : Prop := match r with
  | .ok .nx s => ∀ Z' H' σ' fp', Stp fp Z H fp' Z' H' → Wl c L vc Z' H' σ' vx s tx fp' → D.nx σ' H'
  | .ok (.rt t) s => ∀ Z' H' σ' v fp', Stp fp Z H fp' Z' H' → Wl c L vc Z' H' σ' (vx ++ [some v]) s (tx ++ [.ow t.1 t.2]) fp' → D.rt v H'
  | .ok .bk s => ∀ Z' H' σ' fp', Stp fp Z H fp' Z' H' → Wl c L vc Z' H' σ' vx s tx fp' → D.bk σ' H'
  | .ok .ct s => ∀ Z' H' σ' fp', Stp fp Z H fp' Z' H' → Wl c L vc Z' H' σ' vx s tx fp' → D.ct σ' H'
  | .ex x s => ∀ Z' H' σ' fp' cls dd, Stp fp Z H fp' Z' H' → Wl c L vc Z' H' σ' vx s tx fp' → IsX c Z' H' x cls dd → W cls dd σ' H'
  | .no => False
def rdS (m : M Fl) : TS := fun D σ H => ∃ Z vc vx st tx fp, Wl c L vc Z H σ vx st tx fp ∧ PoS c L W vc Z H vx tx fp (m st) D
end

/-- where values go -/
inductive Tg where
  | nm (i : Nat) | tp (is : List Nat)
def setsF : List Nat → List D → S → Option S
  | [], [], s => some s
  | i :: is, d :: ds, s => if i < s.length then setsF is ds (s.set i (.ow d 0)) else none
  | _, _, _ => none
def Tg.set : Tg → D → S → Option S
  | .nm i, d, s => if i < s.length then some (s.set i (.ow d 0)) else none
  | .tp is, .tup ds, s => setsF is ds s
  | .tp _, _, _ => none

section
variable {c : Zc} {L : Nat} {W : WX} {vc : Nat → Option V} {Z H Z' H' Z1 H1 : Hp} {σ : St} {vx : List (Option V)} {st tx : S} {fp fp1 : List Addr}
theorem PoS.behind {r : R Fl} {D : Ends} (s1 : Stp fp Z H fp1 Z1 H1) (h : PoS c L W vc Z H vx tx fp r D) : PoS c L W vc Z1 H1 vx tx fp1 r D := by
  cases r with
  | no => exact h
  | ex x s' => exact fun Z2 H2 σ2 fp2 cls dd s2 => h Z2 H2 σ2 fp2 cls dd (s1.trans s2)
  | ok t s' =>
    cases t with
    | nx => exact fun Z2 H2 σ2 fp2 s2 => h Z2 H2 σ2 fp2 (s1.trans s2)
    | rt t => exact fun Z2 H2 σ2 v fp2 s2 => h Z2 H2 σ2 v fp2 (s1.trans s2)
    | bk => exact fun Z2 H2 σ2 fp2 s2 => h Z2 H2 σ2 fp2 (s1.trans s2)
    | ct => exact fun Z2 H2 σ2 fp2 s2 => h Z2 H2 σ2 fp2 (s1.trans s2)

theorem set_app {α : Type} {l k : List α} {i : Nat} {x : α} (h : i < l.length) : (l ++ k).set i x = l.set i x ++ k := List.set_append_left _ _ h
/-- a slot takes a value; its footprint comes from elsewhere -/
theorem Wl.put {g f : List Addr} {i : Nat} {d : D} {n : Nat} {v : V} (w : Wl c L vc Z H σ vx st tx g) (nd : (g ++ f).Nodup) (dj : ∀ a ∈ f, Z a = none) (r : RT c Z H n d v f) (hi : i < L) (his : i < st.length) :
    ∃ fp', (∀ a ∈ fp', a ∈ g ++ f) ∧ Wl c L vc Z H (σ.set i (some v)) vx (st.set i (.ow d n)) tx fp' := by
  have hi2 : (st ++ tx)[i]? = some st[i] := by rw [List.getElem?_append_left his, List.getElem?_eq_getElem his]
  obtain ⟨ov, g1, f0, g2, e1, e2, r0, k⟩ := LR.get2 w.lr hi2
  have lr := k (CeR c vc Z H) (.ow d n) (some v) f (fun _ _ _ _ h => h) ⟨v, rfl, r⟩
  rw [set_app his, set_app (by rw [w.len]; exact hi)] at lr
  have n0 := List.nodup_append.mp nd
  rw [e2] at n0
  have n1 := List.nodup_append.mp n0.1
  have n2 := List.nodup_append.mp n1.1
  have m1 : ∀ a ∈ g1, a ∈ g1 ++ f0 ++ g2 := fun a h => List.mem_append_left _ (List.mem_append_left _ h)
  have m2 : ∀ a ∈ g2, a ∈ g1 ++ f0 ++ g2 := fun a h => List.mem_append_right _ h
  refine ⟨g1 ++ f ++ g2, fun a ha => ?_, by rw [List.length_set]; exact w.len, by rw [List.length_set]; exact w.hst, w.hvc, w.sub, lr, ?_, fun a ha => ?_⟩
  · rw [e2]
    rcases List.mem_append.mp ha with ha | ha
    · rcases List.mem_append.mp ha with ha | ha
      · exact List.mem_append_left _ (m1 a ha)
      · exact List.mem_append_right _ ha
    · exact List.mem_append_left _ (m2 a ha)
  · refine List.nodup_append.mpr ⟨List.nodup_append.mpr ⟨n2.1, n0.2.1, fun a ha b hb => n0.2.2 a (m1 a ha) b hb⟩, n1.2.1, fun a ha b hb e => ?_⟩
    rcases List.mem_append.mp ha with ha | ha
    · exact n1.2.2 a (List.mem_append_left _ ha) b hb e
    · exact n0.2.2 b (m2 b hb) a ha e.symm
  · rcases List.mem_append.mp ha with ha | ha
    · rcases List.mem_append.mp ha with ha | ha
      · exact w.dj a (by rw [e2]; exact m1 a ha)
      · exact dj a ha
    · exact w.dj a (by rw [e2]; exact m2 a ha)
theorem Wl.putF {i : Nat} {d : D} {v : V} (w : Wl c L vc Z H σ vx st tx fp) (r : RF c Z d v) (hi : i < L) (his : i < st.length) : ∃ fp', (∀ a ∈ fp', a ∈ fp) ∧ Wl c L vc Z H (σ.set i (some v)) vx (st.set i (.ow d 0)) tx fp' := by
  obtain ⟨fp', h1, h2⟩ := w.put (f := []) (n := 0) (by rw [List.append_nil]; exact w.nd) (fun _ h => nomatch h) ⟨r, rfl⟩ hi his
  exact ⟨fp', fun a ha => by have := h1 a ha; rwa [List.append_nil] at this, h2⟩
theorem Wl.putTop {i : Nat} {d : D} {n : Nat} {v : V} (w : Wl c L vc Z H σ (vx ++ [some v]) st (tx ++ [.ow d n]) fp) (hvc : ∀ j v, vc j = some v → L ≤ j ∧ vx[j - L]? = some (some v)) (hi : i < L) (his : i < st.length) :
    ∃ fp', (∀ a ∈ fp', a ∈ fp) ∧ Wl c L vc Z H (σ.set i (some v)) vx (st.set i (.ow d n)) tx fp' := by
  obtain ⟨g, f, e, ⟨v', e', r⟩, w2⟩ := w.pop hvc
  cases e'
  obtain ⟨fp', h1, h2⟩ := w2.put (f := f) (by rw [← e]; exact w.nd) (fun a ha => w.dj a (by rw [e]; exact List.mem_append_right _ ha)) r hi his
  exact ⟨fp', fun a ha => by rw [e]; exact h1 a ha, h2⟩

/-- a target's reading -/
theorem wipe_set {σ : St} {i : Nat} {x : Option V} : ∀ {vs : List Nat}, i ∈ vs → wipe (σ.set i x) vs = wipe σ vs
  | v :: vs, h => by
    have com : ∀ (vs : List Nat), i ∉ vs → wipe (σ.set i x) vs = (wipe σ vs).set i x := by
      intro vs
      induction vs with
      | nil => intro _; rfl
      | cons u us ih =>
        intro hn
        have h1 : i ≠ u := fun e => hn (by rw [e]; exact List.mem_cons_self)
        have h2 : i ∉ us := fun e => hn (List.mem_cons_of_mem _ e)
        show (wipe (σ.set i x) us).set u none = ((wipe σ us).set u none).set i x
        rw [ih h2, List.set_comm _ _ h1]
    show (wipe (σ.set i x) vs).set v none = (wipe σ vs).set v none
    by_cases q : i ∈ vs
    · rw [wipe_set q]
    · rw [com vs q]
      rcases List.mem_cons.mp h with e | e
      · rw [e, List.set_set]
      · exact absurd e q
  | [], h => nomatch h
def Tg.slots : Tg → List Nat
  | .nm i => [i]
  | .tp is => is
def TgR (c : Zc) (L : Nat) (g : TG) (tg : Tg) : Prop := ∀ {vc : Nat → Option V} {Z H : Hp} {σ : St} {vx : List (Option V)} {st tx st' : S} {fp : List Addr} {d : D} {v : V} {Q : St → Hp → Prop}, Wl c L vc Z H σ vx st tx fp → RF c Z d v → tg.set d st = some st' →
  (∀ σ' fp', (∀ a ∈ fp', a ∈ fp) → Wl c L vc Z H σ' vx st' tx fp' → (∀ vs : List Nat, (∀ i ∈ tg.slots, i ∈ vs) → wipe σ' vs = wipe σ vs) → Q σ' H) → g v σ H Q
theorem tgr_nm {i : Nat} (hi : i < L) : TgR c L (gName i) (.nm i) := by
  intro vc Z H σ vx st tx st' fp d v Q w r e k
  simp only [Tg.set] at e
  by_cases q : i < st.length
  · rw [if_pos q] at e
    cases e
    obtain ⟨fp', h1, h2⟩ := w.putF r hi q
    exact k _ fp' h1 h2 fun vs hv => wipe_set (hv i List.mem_cons_self)
  · rw [if_neg q] at e; cases e
def gNames : List Nat → TGs
  | [] => gNil
  | i :: is => gCons (gName i) (gNames is)
theorem sets_ok : ∀ {is : List Nat} {ds : List D} {vs : List V} {σ : St} {st st' : S} {fp : List Addr} {Q : St → Hp → Prop}, (∀ i ∈ is, i < L) → ds.length = vs.length → Wl c L vc Z H σ vx st tx fp → (∀ (i : Nat) d w, ds[i]? = some d → vs[i]? = some w → RF c Z d w) → setsF is ds st = some st' →
    (∀ σ' fp', (∀ a ∈ fp', a ∈ fp) → Wl c L vc Z H σ' vx st' tx fp' → (∀ us : List Nat, (∀ i ∈ is, i ∈ us) → wipe σ' us = wipe σ us) → Q σ' H) → gNames is vs σ H Q
  | [], [], vs, σ, st, st', fp, Q, _, hl, w, _, e, k => by
    cases e
    cases vs with
    | nil => exact ⟨rfl, k σ fp (fun _ h => h) w fun _ _ => rfl⟩
    | cons => cases hl
  | i :: is, d :: ds, [], _, _, _, _, _, _, hl, _, _, _, _ => by cases hl
  | i :: is, d :: ds, v :: vs, σ, st, st', fp, Q, hL, hl, w, hx, e, k => by
    simp only [setsF] at e
    by_cases q : i < st.length
    · rw [if_pos q] at e
      obtain ⟨fp1, h1, w1⟩ := w.putF (hx 0 d v rfl rfl) (hL i List.mem_cons_self) q
      exact ⟨v, vs, rfl, sets_ok (fun j hj => hL j (List.mem_cons_of_mem _ hj)) (Nat.succ.inj hl) w1 (fun j d w h1 h2 => hx (j + 1) d w (by simpa using h1) (by simpa using h2)) e fun σ' fp' h2 w2 hw => k σ' fp' (fun a ha => h1 a (h2 a ha)) w2 fun us hu => (hw us fun j hj => hu j (List.mem_cons_of_mem _ hj)).trans (wipe_set (hu i List.mem_cons_self))⟩
    · rw [if_neg q] at e; cases e
  | [], _ :: _, _, _, _, _, _, _, _, _, _, _, e, _ => by cases e
  | _ :: _, [], _, _, _, _, _, _, _, _, _, _, e, _ => by cases e
theorem setsF_len : ∀ {is : List Nat} {ds : List D} {s s' : S}, setsF is ds s = some s' → is.length = ds.length
  | [], [], _, _, _ => rfl
  | i :: is, d :: ds, s, s', e => by
    simp only [setsF] at e
    by_cases q : i < s.length
    · rw [if_pos q] at e; simp [setsF_len e]
    · rw [if_neg q] at e; cases e
  | [], _ :: _, _, _, e => by cases e
  | _ :: _, [], _, _, e => by cases e
theorem tgr_tp {is : List Nat} (hL : ∀ i ∈ is, i < L) : TgR c L (gTup c.K is.length (gNames is)) (.tp is) := by
  intro vc Z H σ vx st tx st' fp d v Q w r e k
  cases r with
  | tup h hl hx =>
    rename_i a vs xs
    have e' : setsF is xs st = some st' := e
    exact ⟨a, vs, rfl, w.sub.sqT h, by rw [← hl]; exact (setsF_len e').symm, sets_ok hL hl w hx e' k⟩
  | _ => cases e

/-! ### the mirrors of statements -/
def mAsg (i : Nat) (m : M T) : M Fl := fun s => match m s with
  | .ok t s' => if i < s'.length then .ok .nx (s'.set i (.ow t.1 t.2)) else .no
  | .ex x s' => .ex x s'
  | .no => .no
/-- the value is frozen, then goes to the target -/
def mAsgF (tg : Tg) (m : M T) : M Fl := fun s => match m s with
  | .ok t s' => match tg.set t.1 s' with
    | some s'' => .ok .nx s''
    | none => .no
  | .ex x s' => .ex x s'
  | .no => .no
def mExpr (m : M T) : M Fl := fun s => match m s with
  | .ok _ s' => .ok .nx s'
  | .ex x s' => .ex x s'
  | .no => .no
def mRet (m : M T) : M Fl := fun s => match m s with
  | .ok t s' => .ok (.rt t) s'
  | .ex x s' => .ex x s'
  | .no => .no
def mRetN : M Fl := fun s => .ok (.rt (.non, 0)) s
def mNx : M Fl := fun s => .ok .nx s
def mBk : M Fl := fun s => .ok .bk s
def mCt : M Fl := fun s => .ok .ct s
def mSeq (a b : M Fl) : M Fl := fun s => match a s with
  | .ok .nx s' => b s'
  | r => r
def mIfS (t : M Bool) (a b : M Fl) : M Fl := fun s => match t s with
  | .ok true s' => a s'
  | .ok false s' => b s'
  | .ex x s' => .ex x s'
  | .no => .no
theorem mAsg_rd {i : Nat} {m : M T} {D : Ends} (hi : i < L) (h : rdS c L W (mAsg i m) D σ H) : tAsg (rd c L W m) (gName i) D σ H := by
  obtain ⟨Z, vc, vx, st, tx, fp, w, h⟩ := h
  refine ⟨Z, vc, vx, st, tx, fp, w, ?_⟩
  cases q : m st with
  | no => simp only [mAsg, q] at h; exact h
  | ex x s => simp only [mAsg, q] at h; exact fun Z2 H2 => h Z2 H2 σ
  | ok t s =>
    simp only [mAsg, q] at h
    intro Z1 H1 v fp1 s1 w1
    by_cases k : i < s.length
    · rw [if_pos k] at h
      obtain ⟨fp2, h1, w2⟩ := w1.putTop w.hvc hi k
      exact h Z1 H1 _ fp2 (s1.trans (Stp.less h1)) w2
    · rw [if_neg k] at h; exact h.elim
theorem mAsgF_rd {tg : Tg} {g : TG} {m : M T} {D : Ends} (hg : TgR c L g tg) (h : rdS c L W (mAsgF tg m) D σ H) : tAsg (rd c L W m) g D σ H := by
  obtain ⟨Z, vc, vx, st, tx, fp, w, h⟩ := h
  refine ⟨Z, vc, vx, st, tx, fp, w, ?_⟩
  cases q : m st with
  | no => simp only [mAsgF, q] at h; exact h
  | ex x s => simp only [mAsgF, q] at h; exact fun Z2 H2 => h Z2 H2 σ
  | ok t s =>
    simp only [mAsgF, q] at h
    intro Z1 H1 v fp1 s1 w1
    cases q2 : tg.set t.1 s with
    | none => simp only [q2] at h; exact h.elim
    | some s' =>
      simp only [q2] at h
      obtain ⟨Z2, g2, w2, s2, rf⟩ := Wl.frz (ts := [t]) (vs := [v]) w1 w.hvc rfl
      exact hg w2 (rf 0 t.1 v rfl rfl) q2 fun σ' fp' h1 w3 _ => h Z2 H1 σ' fp' ((s1.trans s2).trans (Stp.less h1)) w3
theorem mExpr_rd {m : M T} {D : Ends} (h : rdS c L W (mExpr m) D σ H) : tDrop (rd c L W m) D σ H := by
  obtain ⟨Z, vc, vx, st, tx, fp, w, h⟩ := h
  refine ⟨Z, vc, vx, st, tx, fp, w, ?_⟩
  cases q : m st with
  | no => simp only [mExpr, q] at h; exact h
  | ex x s => simp only [mExpr, q] at h; exact fun Z2 H2 => h Z2 H2 σ
  | ok t s =>
    simp only [mExpr, q] at h
    intro Z1 H1 v fp1 s1 w1
    obtain ⟨g, hg, w2⟩ := w1.pop' w.hvc
    exact h Z1 H1 σ g (s1.trans (Stp.less hg)) w2
theorem mRet_rd {m : M T} {D : Ends} (h : rdS c L W (mRet m) D σ H) : tRet (rd c L W m) D σ H := by
  obtain ⟨Z, vc, vx, st, tx, fp, w, h⟩ := h
  refine ⟨Z, vc, vx, st, tx, fp, w, ?_⟩
  cases q : m st with
  | no => simp only [mRet, q] at h; exact h
  | ex x s => simp only [mRet, q] at h; exact fun Z2 H2 => h Z2 H2 σ
  | ok t s =>
    simp only [mRet, q] at h
    exact fun Z1 H1 => h Z1 H1 σ
theorem mRetN_rd {D : Ends} (h : rdS c L W mRetN D σ H) : tRetN D σ H := by
  obtain ⟨Z, vc, vx, st, tx, fp, w, h⟩ := h
  exact h Z H σ .non fp Stp.refl (w.pushF .non)
theorem mNx_rd {D : Ends} (h : rdS c L W mNx D σ H) : tNext D σ H := by
  obtain ⟨Z, vc, vx, st, tx, fp, w, h⟩ := h
  exact h Z H σ fp Stp.refl w
theorem mBk_rd {D : Ends} (h : rdS c L W mBk D σ H) : tBreak D σ H := by
  obtain ⟨Z, vc, vx, st, tx, fp, w, h⟩ := h
  exact h Z H σ fp Stp.refl w
theorem mCt_rd {D : Ends} (h : rdS c L W mCt D σ H) : tCont D σ H := by
  obtain ⟨Z, vc, vx, st, tx, fp, w, h⟩ := h
  exact h Z H σ fp Stp.refl w
theorem mSeq_rd {a b : M Fl} {D : Ends} (h : rdS c L W (mSeq a b) D σ H) : tSeq (rdS c L W a) (rdS c L W b) D σ H := by
  obtain ⟨Z, vc, vx, st, tx, fp, w, h⟩ := h
  refine ⟨Z, vc, vx, st, tx, fp, w, ?_⟩
  cases q : a st with
  | no => simp only [mSeq, q] at h; exact h
  | ex x s => simp only [mSeq, q] at h; exact h
  | ok t s =>
    cases t with
    | nx =>
      simp only [mSeq, q] at h
      exact fun Z1 H1 σ1 fp1 s1 w1 => ⟨Z1, vc, vx, s, tx, fp1, w1, h.behind s1⟩
    | rt t => simp only [mSeq, q] at h; exact h
    | bk => simp only [mSeq, q] at h; exact h
    | ct => simp only [mSeq, q] at h; exact h
theorem mIfS_rd {t : M Bool} {a b : M Fl} {D : Ends} (h : rdS c L W (mIfS t a b) D σ H) : tIfS (rdT c L W t) (rdS c L W a) (rdS c L W b) D σ H := by
  obtain ⟨Z, vc, vx, st, tx, fp, w, h⟩ := h
  refine ⟨Z, vc, vx, st, tx, fp, w, ?_⟩
  cases q : t st with
  | no => simp only [mIfS, q] at h; exact h
  | ex x s => simp only [mIfS, q] at h; exact fun Z2 H2 => h Z2 H2 σ
  | ok k s =>
    intro Z1 H1 fp1 s1 w1
    cases k with
    | true =>
      simp only [mIfS, q] at h
      rw [if_pos rfl]
      exact ⟨Z1, vc, vx, s, tx, fp1, w1, h.behind s1⟩
    | false =>
      simp only [mIfS, q] at h
      rw [if_neg Bool.false_ne_true]
      exact ⟨Z1, vc, vx, s, tx, fp1, w1, h.behind s1⟩

/-! ### loops -/
structure ItR (c : Zc) (Z0 : Hp) (J : It) (items : List D) : Prop where
  go : ∀ i Z H, Sm Z0 Z → Sub Z H → i < items.length → J.go i H
  yld : ∀ i Z H x H' d, Sm Z0 Z → Sub Z H → items[i]? = some d → J.yld i H x H' → ∃ Z', Al Z H Z' H' [] ∧ RF c Z' d x
  stop : ∀ i Z H, Sm Z0 Z → Sub Z H → items.length ≤ i → J.stop i H
def rdI (c : Zc) (L : Nat) (W : WX) (m : M (List D)) : TI := fun σ H R => ∃ Z vc vx st tx fp, Wl c L vc Z H σ vx st tx fp ∧ match m st with
  | .ok items s => ∀ Z' H' fp' J, Stp fp Z H fp' Z' H' → Wl c L vc Z' H' σ vx s tx fp' → ItR c Z' J items → R J H'
  | .ex x s => ∀ Z' H' fp' cls dd, Stp fp Z H fp' Z' H' → Wl c L vc Z' H' σ vx s tx fp' → IsX c Z' H' x cls dd → W cls dd σ H'
  | .no => False
def forL (tg : Tg) (body : M Fl) : List D → M Fl
  | [] => fun s => .ok .nx s
  | d :: ds => fun s => match tg.set d s with
    | none => .no
    | some s1 => match body s1 with
      | .ok .nx s2 => forL tg body ds s2
      | .ok .ct s2 => forL tg body ds s2
      | .ok .bk s2 => .ok .nx s2
      | r => r
def mFor (tg : Tg) (mi : M (List D)) (body : M Fl) : M Fl := fun s => match mi s with
  | .ok items s' => forL tg body items s'
  | .ex x s' => .ex x s'
  | .no => .no
theorem mFor_rd {tg : Tg} {g : TG} {mi : M (List D)} {body : M Fl} {D : Ends} (hg : TgR c L g tg) (h : rdS c L W (mFor tg mi body) D σ H) : tFor (rdI c L W mi) g (rdS c L W body) D σ H := by
  obtain ⟨Z, vc, vx, st, tx, fp, w, h⟩ := h
  refine ⟨Z, vc, vx, st, tx, fp, w, ?_⟩
  cases q : mi st with
  | no => simp only [mFor, q] at h; exact h
  | ex x s => simp only [mFor, q] at h; exact fun Z2 H2 => h Z2 H2 σ
  | ok items s =>
    simp only [mFor, q] at h
    intro Z1 H1 fp1 J s1 w1 it
    refine ⟨fun i m σ' H' => m = items.length - i ∧ i ≤ items.length ∧ ∃ Z' st' fp', Sm Z1 Z' ∧ Wl c L vc Z' H' σ' vx st' tx fp' ∧ PoS c L W vc Z' H' vx tx fp' (forL tg body (items.drop i) st') D,
      ⟨items.length, by simp, Nat.zero_le _, Z1, s, fp1, Sm.refl _, w1, by rw [List.drop_zero]; exact h.behind s1⟩, ?_⟩
    rintro i m σ' H' ⟨rfl, hi, Z', st', fp', sz, w', h'⟩
    by_cases hlt : i < items.length
    · refine .inr ⟨it.go i Z' H' sz w'.sub hlt, fun σ2 H2 => ∃ Z2 st2 fp2, Sm Z1 Z2 ∧ Wl c L vc Z2 H2 σ2 vx st2 tx fp2 ∧ PoS c L W vc Z2 H2 vx tx fp2 (forL tg body (items.drop (i + 1)) st2) D, fun σ2 H2 hn => ⟨items.length - (i + 1), by omega, rfl, hlt, hn⟩, fun x H2 hy => ?_⟩
      have hd : items[i]? = some items[i] := List.getElem?_eq_getElem hlt
      obtain ⟨Z2, al, rf⟩ := it.yld i Z' H' x H2 items[i] sz w'.sub hd hy
      rw [List.drop_eq_getElem_cons hlt] at h'
      cases q2 : tg.set items[i] st' with
      | none => simp only [forL, q2] at h'; exact h'.elim
      | some s2 =>
        simp only [forL, q2] at h'
        -- the state with what the iterator has made
        have wal := (w'.al (d := .non) (n := 0) (v := .non) al ⟨.non, rfl⟩)
        obtain ⟨g0, f0, e0, _, w2⟩ := wal.pop w'.hvc
        have sg : Stp fp' Z' H' g0 Z2 H2 := (Stp.of_al al).trans (Stp.less fun a ha => by rw [e0]; exact List.mem_append_left _ ha)
        refine hg w2 rf q2 fun σ3 fp3 h3 w3 _ => ⟨Z2, vc, vx, s2, tx, fp3, w3, ?_⟩
        have s3 : Stp fp' Z' H' fp3 Z2 H2 := sg.trans (Stp.less h3)
        have sz3 : Sm Z1 Z2 := sz.trans al.sz
        cases q3 : body s2 with
        | no => simp only [q3] at h'; exact h'
        | ex x s4 => simp only [q3] at h'; exact h'.behind s3
        | ok t s4 =>
          cases t with
          | nx =>
            simp only [q3] at h'
            exact fun Z5 H5 σ5 fp5 s5 w5 => ⟨Z5, s4, fp5, sz3.trans s5.zz, w5, h'.behind (s3.trans s5)⟩
          | ct =>
            simp only [q3] at h'
            exact fun Z5 H5 σ5 fp5 s5 w5 => ⟨Z5, s4, fp5, sz3.trans s5.zz, w5, h'.behind (s3.trans s5)⟩
          | bk =>
            simp only [q3] at h'
            exact fun Z5 H5 σ5 fp5 s5 w5 => h' Z5 H5 σ5 fp5 (s3.trans s5) w5
          | rt t =>
            simp only [q3] at h'
            exact fun Z5 H5 σ5 v fp5 s5 w5 => h' Z5 H5 σ5 v fp5 (s3.trans s5) w5
    · have e : items.drop i = [] := List.drop_eq_nil_of_le (by omega)
      rw [e] at h'
      exact .inl ⟨it.stop i Z' H' sz w'.sub (by omega), h' Z' H' σ' fp' Stp.refl w'⟩
end

/-! ### while -/
def whL (t : M Bool) (body : M Fl) : Nat → M Fl
  | 0 => fun _ => .no
  | n + 1 => fun s => match t s with
    | .ok false s1 => .ok .nx s1
    | .ok true s1 => match body s1 with
      | .ok .nx s2 => whL t body n s2
      | .ok .ct s2 => whL t body n s2
      | .ok .bk s2 => .ok .nx s2
      | r => r
    | .ex x s1 => .ex x s1
    | .no => .no
open Classical in
noncomputable def mWhile (t : M Bool) (body : M Fl) : M Fl := fun s => if h : ∃ n, whL t body n s ≠ .no then whL t body (Classical.choose h) s else .no
theorem whL_mono {t : M Bool} {body : M Fl} : ∀ {n : Nat} {s : S}, whL t body n s ≠ .no → whL t body (n + 1) s = whL t body n s
  | 0, s, h => absurd rfl h
  | n + 1, s, h => by
    unfold whL at h ⊢
    cases q : t s with
    | no => rfl
    | ex x s1 => rfl
    | ok b s1 =>
      cases b with
      | false => rfl
      | true =>
        simp only [q] at h ⊢
        cases q2 : body s1 with
        | no => rfl
        | ex x s2 => rfl
        | ok f s2 =>
          cases f with
          | nx => simp only [q2] at h ⊢; exact whL_mono h
          | ct => simp only [q2] at h ⊢; exact whL_mono h
          | bk => rfl
          | rt t => rfl
theorem whL_le {t : M Bool} {body : M Fl} {n : Nat} {s : S} (h : whL t body n s ≠ .no) : ∀ k, whL t body (n + k) s = whL t body n s
  | 0 => rfl
  | k + 1 => by
    have ih := whL_le h k
    rw [← Nat.add_assoc, whL_mono (by rw [ih]; exact h), ih]
theorem mWhile_eq {t : M Bool} {body : M Fl} {n : Nat} {s : S} {r : R Fl} (h : whL t body n s = r) (hr : r ≠ .no) : mWhile t body s = r := by
  have e : ∃ n, whL t body n s ≠ .no := ⟨n, by rw [h]; exact hr⟩
  unfold mWhile
  rw [dif_pos e]
  have hc := Classical.choose_spec e
  have h1 := whL_le hc n
  have h2 := whL_le (n := n) (by rw [h]; exact hr) (Classical.choose e)
  rw [Nat.add_comm, h2] at h1
  rw [← h1, h]
section
variable {c : Zc} {L : Nat} {W : WX} {vc : Nat → Option V} {Z H Z' H' Z1 H1 : Hp} {σ : St} {vx : List (Option V)} {st tx : S} {fp fp1 : List Addr}
theorem mWhile_rd {t : M Bool} {body : M Fl} {D : Ends} (h : rdS c L W (mWhile t body) D σ H) : tWhile (rdT c L W t) (rdS c L W body) D σ H := by
  obtain ⟨Z, vc, vx, st, tx, fp, w, h⟩ := h
  have e : ∃ n, PoS c L W vc Z H vx tx fp (whL t body n st) D := by
    unfold mWhile at h
    by_cases q : ∃ n, whL t body n st ≠ .no
    · rw [dif_pos q] at h; exact ⟨_, h⟩
    · rw [dif_neg q] at h; exact h.elim
  obtain ⟨n, h⟩ := e
  refine ⟨fun m σ' H' => ∃ Z' st' fp', Wl c L vc Z' H' σ' vx st' tx fp' ∧ PoS c L W vc Z' H' vx tx fp' (whL t body m st') D, ⟨n, Z, st, fp, w, h⟩, ?_⟩
  rintro m σ' H' ⟨Z', st', fp', w', h'⟩
  cases m with
  | zero => exact h'.elim
  | succ m =>
    refine ⟨Z', vc, vx, st', tx, fp', w', ?_⟩
    cases q : t st' with
    | no => simp only [whL, q] at h'; exact h'
    | ex x s1 => simp only [whL, q] at h'; exact fun Z2 H2 => h' Z2 H2 σ'
    | ok b s1 =>
      intro Z1 H1 fp1 e1 w1
      cases b with
      | false =>
        simp only [whL, q] at h'
        rw [if_neg Bool.false_ne_true]
        exact h' Z1 H1 σ' fp1 e1 w1
      | true =>
        simp only [whL, q] at h'
        rw [if_pos rfl]
        refine ⟨fun σ2 H2 => ∃ Z2 st2 fp2, Wl c L vc Z2 H2 σ2 vx st2 tx fp2 ∧ PoS c L W vc Z2 H2 vx tx fp2 (whL t body m st2) D, fun σ2 H2 hn => ⟨m, Nat.lt_succ_self _, hn⟩, Z1, vc, vx, s1, tx, fp1, w1, ?_⟩
        cases q3 : body s1 with
        | no => simp only [q3] at h'; exact h'
        | ex x s4 => simp only [q3] at h'; exact h'.behind e1
        | ok f s4 =>
          cases f with
          | nx =>
            simp only [q3] at h'
            exact fun Z5 H5 σ5 fp5 s5 w5 => ⟨Z5, s4, fp5, w5, h'.behind (e1.trans s5)⟩
          | ct =>
            simp only [q3] at h'
            exact fun Z5 H5 σ5 fp5 s5 w5 => ⟨Z5, s4, fp5, w5, h'.behind (e1.trans s5)⟩
          | bk =>
            simp only [q3] at h'
            exact fun Z5 H5 σ5 fp5 s5 w5 => h' Z5 H5 σ5 fp5 (e1.trans s5) w5
          | rt t =>
            simp only [q3] at h'
            exact fun Z5 H5 σ5 v fp5 s5 w5 => h' Z5 H5 σ5 v fp5 (e1.trans s5) w5
end

/-! ### the rules over the text -/
section
variable {X : Cx} {c : Zc} {L : Nat} {W : WX} {pos : Pos}
abbrev ZS (X : Cx) (c : Zc) (L : Nat) (W : WX) (s : Stmt) (m : M Fl) : Prop := PS X s (rdS c L W m)
abbrev ZSs (X : Cx) (c : Zc) (L : Nat) (W : WX) (s : List Stmt) (m : M Fl) : Prop := PSs X s (rdS c L W m)
theorem zss_nil : ZSs X c L W [] mNx := PSs.imp pss_nil fun _ _ _ h => mNx_rd h
theorem zss_cons {s : Stmt} {r : List Stmt} {m n : M Fl} (h : ZS X c L W s m) (k : ZSs X c L W r n) : ZSs X c L W (s :: r) (mSeq m n) := PSs.imp (pss_cons h k) fun _ _ _ h => mSeq_rd h
theorem zss_one {s : Stmt} {m : M Fl} (h : ZS X c L W s m) : ZSs X c L W [s] m := pss_one h
theorem zs_asg {i : Nat} {x : Str} {e : Expr} {m : M T} {pos' : Pos} (hN : X.N.Nodup) (hi : X.N[i]? = some x) (hx : Loc X.env.scope x) (he : ZE X c L W e m) (hL : i < L) (hs : swapsWith e (some (.Name x pos')) pos.line X.env = pure false := by rfl)
    (hf : X.fn x = true ∨ X.env.scope.names.lookup x = some .local := by first | exact .inl rfl | exact .inr rfl | assumption) : ZS X c L W (.Assign [.Name x pos'] e pos) (mAsg i m) := PS.imp (ps_set hN hi hx he hs hf) fun _ _ _ h => mAsg_rd hL h
theorem zs_asgF {tg e : Expr} {g : TG} {t : Tg} {m : M T} (he : ZE X c L W e m) (hg : PG X tg g) (ht : TgR c L g t) (hs : swapsWithSole [tg] e pos.line X.env = pure false := by rfl) (hw : swappedStores [tg] e X.env = pure none := by rfl)
    (h1 : (assignEach [tg] X.env).map (·.2) = [assign tg X.env] := by rfl) : ZS X c L W (.Assign [tg] e pos) (mAsgF t m) := PS.imp (ps_asg he hg hs hw h1) fun _ _ _ h => mAsgF_rd ht h
theorem zs_expr {e : Expr} {m : M T} (he : ZE X c L W e m) (hs : swapsWith e none pos.line X.env = pure false := by rfl) : ZS X c L W (.Expr e pos) (mExpr m) := PS.imp (ps_expr he hs) fun _ _ _ h => mExpr_rd h
theorem zs_ret {e : Expr} {m : M T} (he : ZE X c L W e m) : ZS X c L W (.Return (some e) pos) (mRet m) := PS.imp (ps_ret he) fun _ _ _ h => mRet_rd h
theorem zs_retN : ZS X c L W (.Return none pos) mRetN := PS.imp ps_retN fun _ _ _ h => mRetN_rd h
theorem zs_pass : ZS X c L W (.Pass pos) mNx := PS.imp ps_pass fun _ _ _ h => mNx_rd h
theorem zs_bk : ZS X c L W (.Break pos) mBk := PS.imp ps_break fun _ _ _ h => mBk_rd h
theorem zs_ct : ZS X c L W (.Continue pos) mCt := PS.imp ps_continue fun _ _ _ h => mCt_rd h
theorem zs_if {t : Expr} {a b : List Stmt} {m : M Bool} {n k : M Fl} (h : ZT X c L W t m) (ha : ZSs X c L W a n) (hb : ZSs X c L W b k) : ZS X c L W (.If t a b pos) (mIfS m n k) := PS.imp (ps_if h ha hb) fun _ _ _ h => mIfS_rd h
theorem zs_for {tg iter : Expr} {g : TG} {t : Tg} {body : List Stmt} {mi : M (List D)} {m : M Fl} (hp : PassesOwn (model X.prog X.w) X.A X.env X.xe) (hc : X.calm = true) (hi : PI X tg iter (rdI c L W mi)) (hg : PG X tg g) (ht : TgR c L g t) (hb : ZSs X c L W body m)
    (hs : ∀ x, foldedSetIterable iter X.env x = pure x := by intro _; rfl) : ZS X c L W (.For tg iter body [] pos) (mFor t mi m) := PS.imp (ps_for hp hc hi hg hb hs) fun _ _ _ h => mFor_rd ht h
theorem zs_while {t : Expr} {body : List Stmt} {mt : M Bool} {m : M Fl} (hp : PassesOwn (model X.prog X.w) X.A X.env X.xe) (hc : ZT X c L W t mt) (hb : ZSs X c L W body m) : ZS X c L W (.While t body [] pos) (mWhile mt m) := PS.imp (ps_while hp hc hb) fun _ _ _ h => mWhile_rd h
end
end Z

namespace Z
open PySem L2
open PyProof.Rows (envOfC)
/-! ### defs and their calls -/
inductive Fr where
  | ok (t : T) (ts : List T) | ex (x : Ex) (ts : List T) | no
abbrev Fn := List T → Fr
def parS (L : Nat) : Nat → List T → S
  | _, [] => []
  | k, (d, 0) :: ts => .ow d 0 :: parS L (k + 1) ts
  | k, (_, _ + 1) :: ts => .pa (L + k) :: parS L (k + 1) ts
def st0 (L : Nat) (ts : List T) : S := parS L 0 ts ++ List.replicate (L - ts.length) .un ++ ts.map fun t => .ow t.1 t.2
def cells : S → Option (List T)
  | [] => some []
  | .ow d n :: r => (cells r).map ((d, n) :: ·)
  | _ => none
def fnOf (L : Nat) (body : M Fl) : Fn := fun ts => match body (st0 L ts) with
  | .ok .nx s => match cells (s.drop L) with
    | some ts' => .ok (.non, 0) ts'
    | none => .no
  | .ok (.rt t) s => match cells (s.drop L) with
    | some ts' => .ok t ts'
    | none => .no
  | .ex x s => match cells (s.drop L) with
    | some ts' => .ex x ts'
    | none => .no
  | _ => .no

structure Ar (c : Zc) (Z H : Hp) (ts : List T) (vs : List V) (fp : List Addr) : Prop where
  sub : Sub Z H
  lr : LR (fun (t : T) v f => RT c Z H t.2 t.1 v f) ts vs fp
  nd : fp.Nodup
  dj : ∀ a ∈ fp, Z a = none
def spZ (c : Zc) (np : Nat) (fn : Fn) : Sp := fun vs H Q E => ∃ Z ts fp, ts.length = np ∧ Ar c Z H ts vs fp ∧ match fn ts with
  | .ok t ts' => ∀ Z' H' v fp', Stp fp Z H fp' Z' H' → Ar c Z' H' (ts' ++ [t]) (vs ++ [v]) fp' → Q v H'
  | .ex x ts' => ∀ Z' H' fp' cls dd, Stp fp Z H fp' Z' H' → Ar c Z' H' ts' vs fp' → IsX c Z' H' x cls dd → E cls dd H'
  | .no => False

section
variable {c : Zc} {Z H Z' H' : Hp} {fp : List Addr}
theorem parS_lr {L : Nat} {vc : Nat → Option V} : ∀ {ts : List T} {vs : List V} {k : Nat} {fp : List Addr}, LR (fun (t : T) v f => RT c Z H t.2 t.1 v f) ts vs fp → (∀ (j : Nat) v, vs[j]? = some v → vc (L + (k + j)) = some v) →
    LR (CeR c vc Z H) (parS L k ts) (vs.map some) []
  | [], [], _, _, _, _ => rfl
  | (d, 0) :: ts, v :: vs, k, fp, ⟨f, g, e, h1, h2⟩, hv => ⟨[], [], rfl, ⟨v, rfl, h1.1, rfl⟩, parS_lr h2 fun j w hj => by
      have := hv (j + 1) w (by simpa using hj)
      rwa [show k + 1 + j = k + (j + 1) by omega]⟩
  | (d, n + 1) :: ts, v :: vs, k, fp, ⟨f, g, e, h1, h2⟩, hv => ⟨[], [], rfl, ⟨rfl, v, rfl, hv 0 v rfl⟩, parS_lr h2 fun j w hj => by
      have := hv (j + 1) w (by simpa using hj)
      rwa [show k + 1 + j = k + (j + 1) by omega]⟩
  | [], _ :: _, _, _, h, _ => h.elim
  | _ :: _, [], _, _, h, _ => h.elim
theorem un_lr {vc : Nat → Option V} : ∀ (n : Nat), LR (CeR c vc Z H) (List.replicate n .un) (List.replicate n none) []
  | 0 => rfl
  | n + 1 => ⟨[], [], rfl, rfl, un_lr n⟩
theorem ow_lr {vc : Nat → Option V} : ∀ {ts : List T} {vs : List V} {fp : List Addr}, LR (fun (t : T) v f => RT c Z H t.2 t.1 v f) ts vs fp → LR (CeR c vc Z H) (ts.map fun t => .ow t.1 t.2) (vs.map some) fp
  | [], [], _, h => h
  | t :: ts, v :: vs, _, ⟨f, g, e, h1, h2⟩ => ⟨f, g, e, ⟨v, rfl, h1⟩, ow_lr h2⟩
  | [], _ :: _, _, h => h.elim
  | _ :: _, [], _, h => h.elim
theorem lr_ow {vc : Nat → Option V} : ∀ {ts : List T} {vs : List V} {fp : List Addr}, LR (CeR c vc Z H) (ts.map fun t => .ow t.1 t.2) (vs.map some) fp → LR (fun (t : T) v f => RT c Z H t.2 t.1 v f) ts vs fp
  | [], [], _, h => h
  | t :: ts, v :: vs, _, ⟨f, g, e, ⟨v', e', h1⟩, h2⟩ => by
    cases e'
    exact ⟨f, g, e, h1, lr_ow h2⟩
  | [], _ :: _, _, h => h.elim
  | _ :: _, [], _, h => h.elim
theorem cells_eq : ∀ {s : S} {ts : List T}, cells s = some ts → s = ts.map fun t => .ow t.1 t.2
  | [], ts, h => by cases h; rfl
  | .ow d n :: r, ts, h => by
    cases q : cells r with
    | none => simp only [cells, q] at h; cases h
    | some ts' =>
      simp only [cells, q, Option.map_some, Option.some.injEq] at h
      subst h
      rw [cells_eq q]
      rfl
  | .un :: _, _, h => by cases h
  | .pa _ :: _, _, h => by cases h
theorem parS_len {L : Nat} : ∀ {ts : List T} {k : Nat}, (parS L k ts).length = ts.length
  | [], _ => rfl
  | (d, 0) :: ts, k => by simp [parS, parS_len (ts := ts)]
  | (d, n + 1) :: ts, k => by simp [parS, parS_len (ts := ts)]
theorem st0_len {L : Nat} {ts : List T} (hl : ts.length ≤ L) : L ≤ (st0 L ts).length := by
  simp only [st0, List.length_append, parS_len, List.length_replicate, List.length_map]
  omega
theorem st0_wl {L : Nat} {ts : List T} {vs : List V} (a : Ar c Z H ts vs fp) (hl : ts.length ≤ L) :
    Wl c L (fun j => if L ≤ j then vs[j - L]? else none) Z H (vs.map some ++ List.replicate (L - vs.length) none) (vs.map some) (st0 L ts) [] fp := by
  have e := a.lr.len
  refine ⟨by simp; omega, st0_len hl, fun j v h => ?_, a.sub, ?_, a.nd, a.dj⟩
  · by_cases q : L ≤ j
    · rw [if_pos q] at h
      exact ⟨q, by rw [List.getElem?_map, h]; rfl⟩
    · rw [if_neg q] at h; cases h
  · rw [List.append_nil]
    unfold st0
    have h1 := parS_lr (c := c) (L := L) (vc := fun j => if L ≤ j then vs[j - L]? else none) (k := 0) a.lr fun j v hj => by
      rw [if_pos (by omega), show L + (0 + j) - L = j by omega]; exact hj
    have h2 := LR.append (LR.append h1 (un_lr (c := c) (Z := Z) (H := H) (vc := fun j => if L ≤ j then vs[j - L]? else none) (L - ts.length))) (ow_lr (vc := fun j => if L ≤ j then vs[j - L]? else none) a.lr)
    rw [e] at h2
    rw [e]
    simpa using h2
/-- what the callers see behind the body -/
theorem wl_end {L : Nat} {vc : Nat → Option V} {σ : St} {vs : List V} {s : S} {ts : List T} (w : Wl c L vc Z H σ (vs.map some) s [] fp) (hc : cells (s.drop L) = some ts) : ∃ g, (∀ a ∈ g, a ∈ fp) ∧ Ar c Z H ts vs g := by
  have lr := w.lr
  rw [List.append_nil] at lr
  have hl := lr.len
  rw [List.length_append, List.length_map, w.len] at hl
  have e : s = s.take L ++ s.drop L := (List.take_append_drop L s).symm
  rw [e] at lr
  obtain ⟨f, g, e2, h1, h2⟩ := LR.split (by rw [List.length_take, w.len]; omega) lr
  rw [cells_eq hc] at h2
  have nd := w.nd
  rw [e2] at nd
  exact ⟨g, fun a ha => by rw [e2]; exact List.mem_append_right _ ha, w.sub, lr_ow h2, (List.nodup_append.mp nd).2.1, fun a ha => w.dj a (by rw [e2]; exact List.mem_append_right _ ha)⟩
theorem wl_endT {L : Nat} {vc : Nat → Option V} {σ : St} {vs : List V} {v : V} {t : T} {s : S} {ts : List T} (w : Wl c L vc Z H σ (vs.map some ++ [some v]) s [.ow t.1 t.2] fp) (hvc : ∀ j v, vc j = some v → L ≤ j ∧ (vs.map some)[j - L]? = some (some v)) (hc : cells (s.drop L) = some ts) :
    ∃ g, (∀ a ∈ g, a ∈ fp) ∧ Ar c Z H (ts ++ [t]) (vs ++ [v]) g := by
  have w' : Wl c L vc Z H σ (vs.map some ++ [some v]) s ([] ++ [.ow t.1 t.2]) fp := w
  obtain ⟨g, f, e, ⟨v', e', r⟩, w2⟩ := w'.pop hvc
  cases e'
  obtain ⟨g2, h1, a⟩ := wl_end w2 hc
  have nd := w.nd
  rw [e] at nd
  have n1 := List.nodup_append.mp nd
  refine ⟨g2 ++ f, fun x hx => ?_, w.sub, LR.append a.lr (LR.one r), List.nodup_append.mpr ⟨a.nd, n1.2.1, fun x hx y hy => n1.2.2 x (h1 x hx) y hy⟩, fun x hx => ?_⟩
  · rw [e]
    rcases List.mem_append.mp hx with hx | hx
    · exact List.mem_append_left _ (h1 x hx)
    · exact List.mem_append_right _ hx
  · rcases List.mem_append.mp hx with hx | hx
    · exact a.dj x hx
    · exact w.dj x (by rw [e]; exact List.mem_append_right _ hx)
/-- THE RULE of a def: its body's mirror -/
theorem body_rd {L : Nat} {body : M Fl} {vs : List V} {Q : VK} {E : XK} {np : Nat} (hn : np ≤ L) (h : spZ c np (fnOf L body) vs H Q E) :
    rdS c L (fun cls dd _ H' => E cls dd H') body { nx := fun _ H' => Q .non H', rt := Q } (vs.map some ++ List.replicate (L - vs.length) none) H := by
  obtain ⟨Z, ts, fp, hl, a, h⟩ := h
  have w := st0_wl a (L := L) (by omega)
  refine ⟨Z, _, _, _, _, fp, w, ?_⟩
  unfold fnOf at h
  cases q : body (st0 L ts) with
  | no => simp only [q] at h
  | ex x s =>
    simp only [q] at h
    cases q2 : cells (s.drop L) with
    | none => simp only [q2] at h
    | some ts' =>
      simp only [q2] at h
      intro Z1 H1 σ1 fp1 cls dd s1 w1 hx
      obtain ⟨g, hg, a1⟩ := wl_end w1 q2
      exact h Z1 H1 g cls dd (s1.trans (Stp.less hg)) a1 hx
  | ok t s =>
    cases t with
    | nx =>
      simp only [q] at h
      cases q2 : cells (s.drop L) with
      | none => simp only [q2] at h
      | some ts' =>
        simp only [q2] at h
        intro Z1 H1 σ1 fp1 s1 w1
        have w2 : Wl c L _ Z1 H1 σ1 (vs.map some ++ [some .non]) s [.ow .non 0] fp1 := w1.pushF .non
        obtain ⟨g, hg, a1⟩ := wl_endT (t := (.non, 0)) w2 w.hvc q2
        exact h Z1 H1 .non g (s1.trans (Stp.less hg)) a1
    | rt t =>
      simp only [q] at h
      cases q2 : cells (s.drop L) with
      | none => simp only [q2] at h
      | some ts' =>
        simp only [q2] at h
        intro Z1 H1 σ1 v fp1 s1 w1
        obtain ⟨g, hg, a1⟩ := wl_endT w1 w.hvc q2
        exact h Z1 H1 v g (s1.trans (Stp.less hg)) a1
    | bk => simp only [q] at h
    | ct => simp only [q] at h
end

section
variable {P : Program} {w : World} {K : PySem.W.Frag} {mg : Str → Option Value} {base : Heap}
theorem ok_fn {c : Zc} {x qual : Str} {st : Stmt} {f : Addr} {fd : FuncData} {N ps : List Str} {k : Nat} {body : M Fl} (F0 : Fun K x qual st f fd) (S0 : FnScope N ps (defScope st)) (hn : ps.length ≤ N.length)
    (hb : ∀ (cdv : Value) (A : Around) (outer : List Env) (s : Shared) (H : Hp) (E : XK) (W : WX), Room k (A.deeper (envOfC qual (defScope st) s.heap.objs.size f cdv)) → Takes (cxOf (L2.CX P w) P w K mg base N qual (defScope st) f cdv A outer s H E) W →
      ZSs (cxOf (L2.CX P w) P w K mg base N qual (defScope st) f cdv A outer s H E) c N.length W (defBody st) body) : FnOk P w K mg base (L2.CX P w) (k + 1) f fd ps (spZ c ps.length (fnOf N.length body)) := by
  refine F0.okX S0 (fun vs H Q E h => ?_) fun cdv A outer s H vs Q E hr h => ⟨_, hb cdv A outer s H E (fun cls dd _ H' => E cls dd H') hr (takes_of rfl rfl rfl rfl), ?_⟩
  · obtain ⟨Z, ts, fp, hl, a, _⟩ := h
    rw [← a.lr.len, hl]
  · exact body_rd hn h
end

/-! ### arguments -/
inductive Ag where
  | bo (i : Nat) | tm (m : M T)
abbrev Tk := T × Option Nat
def Ag.ev : Ag → M Tk
  | .tm m => fun s => match m s with
    | .ok t s' => .ok (t, none) s'
    | .ex x s' => .ex x s'
    | .no => .no
  | .bo i => fun s => match tre s i with
    | some (d, 0) => .ok ((d, 0), none) s
    | some (d, n + 1) => .ok ((d, n + 1), some (loc s i)) (s.set (loc s i) .un)
    | none => .no
def eva : List Ag → M (List Tk)
  | [] => fun s => .ok [] s
  | a :: as => fun s => match a.ev s with
    | .ok t s' => match eva as s' with
      | .ok ts s'' => .ok (t :: ts) s''
      | .ex x s'' => .ex x s''
      | .no => .no
    | .ex x s' => .ex x s'
    | .no => .no
/-- what was borrowed comes back -/
def putb : List Tk → List T → S → Option S
  | [], _, s => some s
  | (_, none) :: r, _ :: ts, s => putb r ts s
  | (_, some j) :: r, t :: ts, s => match s[j]? with
    | some .un => putb r ts (s.set j (.ow t.1 t.2))
    | _ => none
  | _ :: _, [], _ => none
def mCall (fn : Fn) (as : List Ag) (ds : List D) : M T := fun s => match eva as s with
  | .ok tks s1 => match fn (tks.map (·.1) ++ ds.map fun d => (d, 0)) with
    | .ok t ts' => match putb tks ts' s1 with
      | some s2 => .ok t s2
      | none => .no
    | .ex x ts' => match putb tks ts' s1 with
      | some s2 => .ex x s2
      | none => .no
    | .no => .no
  | .ex x s1 => .ex x s1
  | .no => .no
section
variable {c : Zc} {L : Nat} {W : WX} {vc : Nat → Option V} {Z H Z' H' Z1 H1 : Hp} {σ : St} {vx : List (Option V)} {st tx : S} {fp fp1 : List Addr}
def tAg (c : Zc) (L : Nat) (W : WX) : Ag → TE
  | .tm m => rd c L W m
  | .bo i => fun σ H Q => i < L ∧ tVar i σ H Q
def tAs (c : Zc) (L : Nat) (W : WX) : List Ag → TA
  | [] => tNil
  | a :: as => tCons (tAg c L W a) (tAs c L W as)
/-- a slot's tree is taken off and stands on top -/
theorem Wl.take {i : Nat} {d : D} {n : Nat} (w : Wl c L vc Z H σ vx st tx fp) (hi : i < L) (e : tre st i = some (d, n)) : ∃ v fp', σ[i]? = some (some v) ∧ (σ ++ vx)[loc st i]? = some (some v) ∧ (∀ a ∈ fp', a ∈ fp) ∧ Wl c L vc Z H σ (vx ++ [some v]) (st.set (loc st i) .un) (tx ++ [.ow d n]) fp' := by
  obtain ⟨v, _, e1, e2, _, _⟩ := w.look hi e
  have hx : st[loc st i]? = some (.ow d n) := by
    unfold tre at' at e
    cases q2 : st[loc st i]? with
    | none => rw [q2] at e; cases e
    | some y =>
      rw [q2] at e
      cases y with
      | ow d' n' => cases e; rfl
      | un => cases e
      | pa j => cases e
  obtain ⟨ov, g1, f, g2, k1, k2, k3, k4⟩ := w.upd (y := .un) hx
  rw [e2] at k1
  cases k1
  obtain ⟨v', e', r⟩ := k3
  cases e'
  have nd := w.nd
  rw [k2] at nd
  have n1 := List.nodup_append.mp nd
  have n2 := List.nodup_append.mp n1.1
  have w2 := k4 Z H .un [] (Sm.refl Z) w.sub (fun _ _ _ => rfl) rfl (fun _ h => nomatch h) (fun _ h => .inl h) .nil (fun _ h => nomatch h)
  have mf : ∀ a ∈ f, a ∈ fp := fun a ha => by rw [k2]; exact List.mem_append_left _ (List.mem_append_right _ ha)
  have w3 := w2.push (d := d) (n := n) (v := v) (f := f) (Sm.refl Z) w.sub (fun _ _ => rfl) r (fun a ha hb => ?_) w2.dj n2.2.1 fun a ha => w.dj a (mf a ha)
  · refine ⟨v, _, e1, e2, fun a ha => ?_, w3⟩
    rcases List.mem_append.mp ha with ha | ha
    · rw [List.append_nil] at ha
      rw [k2]
      rcases List.mem_append.mp ha with ha | ha
      · exact List.mem_append_left _ (List.mem_append_left _ ha)
      · exact List.mem_append_right _ ha
    · exact mf a ha
  · rw [List.append_nil] at hb
    rcases List.mem_append.mp hb with hb | hb
    · exact n2.2.2 a hb a ha rfl
    · exact n1.2.2 a (List.mem_append_right _ ha) a hb rfl
theorem lowp {i : Nat} {t : T} (w : Wl c L vc Z H σ vx st tx fp) (e : tre st i = some t) : loc st i < (σ ++ vx).length - tx.length := by
  have hl := w.lr.len
  have hx : loc st i < st.length := by
    unfold tre at' at e
    cases q2 : st[loc st i]? with
    | none => rw [q2] at e; cases e
    | some y => exact (List.getElem?_eq_some_iff.mp q2).1
  simp only [List.length_append] at hl ⊢
  omega
/-- where what was taken came from -/
def TkR (vs : List (Option V)) (n0 : Nat) (tk : Tk) (v : V) : Prop := ∀ j, tk.2 = some j → j < n0 ∧ vs[j]? = some (some v)
theorem tAs_run {as : List Ag} : ∀ {Z H : Hp} {vx : List (Option V)} {st tx : S} {fp : List Addr} {Q : List V → Hp → Prop}, Wl c L vc Z H σ vx st tx fp → (∀ i, Ag.bo i ∈ as → i < L) →
    (match eva as st with
      | .ok tks s => ∀ Z' H' vs fp', Stp fp Z H fp' Z' H' → vs.length = tks.length → Paired (fun tk v => TkR (σ ++ vx) ((σ ++ vx).length - tx.length) tk v) tks vs → Wl c L vc Z' H' σ (vx ++ vs.map some) s (tx ++ (tks.map (·.1)).map fun t => .ow t.1 t.2) fp' → Q vs H'
      | .ex x s => ∀ Z' H' fp' cls dd, Stp fp Z H fp' Z' H' → (∃ vy ty, vy.length = ty.length ∧ Wl c L vc Z' H' σ (vx ++ vy) s (tx ++ ty) fp') → IsX c Z' H' x cls dd → W cls dd σ H'
      | .no => False) → tAs c L W as σ H Q := by
  induction as with
  | nil =>
    intro Z H vx st tx fp Q w _ h
    exact h Z H [] fp Stp.refl rfl .nil (by simpa using w)
  | cons m ms ih =>
    intro Z H vx st tx fp Q w hL h
    have hL' : ∀ i, Ag.bo i ∈ ms → i < L := fun i hi => hL i (List.mem_cons_of_mem _ hi)
    -- the rest, behind a value on top
    have go : ∀ {tk : Tk} {s : S} {Z1 H1 : Hp} {v : V} {fp1 : List Addr}, m.ev st = .ok tk s → Stp fp Z H fp1 Z1 H1 → TkR (σ ++ vx) ((σ ++ vx).length - tx.length) tk v → Wl c L vc Z1 H1 σ (vx ++ [some v]) s (tx ++ [.ow tk.1.1 tk.1.2]) fp1 → tAs c L W ms σ H1 (fun xs H2 => Q (v :: xs) H2) := by
      intro tk s Z1 H1 v fp1 q s1 tr w1
      refine ih w1 hL' ?_
      cases q2 : eva ms s with
      | no => simp only [eva, q, q2] at h
      | ex x s' =>
        simp only [eva, q, q2] at h
        intro Z2 H2 fp2 cls dd s2 ⟨vy, ty, hl, w2⟩ x2
        exact h Z2 H2 fp2 cls dd (s1.trans s2) ⟨some v :: vy, .ow tk.1.1 tk.1.2 :: ty, by simp [hl], by simpa [List.append_assoc] using w2⟩ x2
      | ok ts s' =>
        simp only [eva, q, q2] at h
        intro Z2 H2 vs fp2 s2 hl pr w2
        refine h Z2 H2 (v :: vs) fp2 (s1.trans s2) (by simp [hl]) (.cons tr ?_) (by simpa [List.append_assoc] using w2)
        refine Paired.mapP pr fun tk v r j hj => ?_
        obtain ⟨z1, z2⟩ := r j hj
        have z3 : j < (σ ++ vx).length - tx.length := by
          simp only [List.length_append, List.length_cons, List.length_nil] at z1 ⊢
          omega
        refine ⟨z3, ?_⟩
        rw [← List.append_assoc, List.getElem?_append_left (by omega)] at z2
        exact z2
    cases m with
    | bo i =>
      have hi := hL i List.mem_cons_self
      cases q : tre st i with
      | none => simp only [eva, Ag.ev, q] at h
      | some t =>
        obtain ⟨d, n⟩ := t
        obtain ⟨v, fp', e1, e2, hf, w2⟩ := w.take hi q
        refine ⟨hi, v, e1, ?_⟩
        cases n with
        | zero =>
          obtain ⟨v', f, e3, _, r, _⟩ := w.look hi q
          rw [e1] at e3
          cases e3
          exact go (tk := ((d, 0), none)) (s := st) (by simp only [Ag.ev, q]) Stp.refl (fun _ h => nomatch h) (w.pushF r.1)
        | succ n =>
          exact go (tk := ((d, n + 1), some (loc st i))) (s := st.set (loc st i) .un) (by simp only [Ag.ev, q]) (Stp.less hf) (fun j hj => by cases hj; exact ⟨lowp w q, e2⟩) w2
    | tm m =>
      refine ⟨Z, vc, vx, st, tx, fp, w, ?_⟩
      cases q : m st with
      | no => simp only [eva, Ag.ev, q] at h
      | ex x s =>
        simp only [eva, Ag.ev, q] at h
        exact fun Z2 H2 fp2 cls dd s2 w2 x2 => h Z2 H2 fp2 cls dd s2 ⟨[], [], rfl, by simpa using w2⟩ x2
      | ok t s =>
        exact fun Z1 H1 v fp1 s1 w1 => go (tk := (t, none)) (by simp only [Ag.ev, q]) s1 (fun _ h => nomatch h) w1
end
end Z

namespace Z
open PySem L2
section
variable {c : Zc} {L : Nat} {W : WX} {vc : Nat → Option V} {Z H Z' H' Z1 H1 : Hp} {σ : St} {vx : List (Option V)} {st tx : S} {fp fp1 : List Addr}
/-- an index takes a tree at the value that it holds -/
theorem Wl.putc {g f : List Addr} {j : Nat} {x : Ce} {d : D} {n : Nat} {v : V} (w : Wl c L vc Z H σ vx st tx g) (nd : (g ++ f).Nodup) (dj : ∀ a ∈ f, Z a = none) (r : RT c Z H n d v f) (hj : st[j]? = some x) (hv : (σ ++ vx)[j]? = some (some v)) :
    ∃ fp', (∀ a ∈ fp', a ∈ g ++ f) ∧ Wl c L vc Z H σ vx (st.set j (.ow d n)) tx fp' := by
  have his : j < st.length := (List.getElem?_eq_some_iff.mp hj).1
  have hi2 : (st ++ tx)[j]? = some x := by rw [List.getElem?_append_left his]; exact hj
  obtain ⟨ov, g1, f0, g2, e1, e2, r0, k⟩ := LR.get2 w.lr hi2
  have lr := k (CeR c vc Z H) (.ow d n) (some v) f (fun _ _ _ _ h => h) ⟨v, rfl, r⟩
  rw [set_app his, set_same hv] at lr
  have n0 := List.nodup_append.mp nd
  rw [e2] at n0
  have n1 := List.nodup_append.mp n0.1
  have n2 := List.nodup_append.mp n1.1
  have m1 : ∀ a ∈ g1, a ∈ g1 ++ f0 ++ g2 := fun a h => List.mem_append_left _ (List.mem_append_left _ h)
  have m2 : ∀ a ∈ g2, a ∈ g1 ++ f0 ++ g2 := fun a h => List.mem_append_right _ h
  refine ⟨g1 ++ f ++ g2, fun a ha => ?_, w.len, by rw [List.length_set]; exact w.hst, w.hvc, w.sub, lr, ?_, fun a ha => ?_⟩
  · rw [e2]
    rcases List.mem_append.mp ha with ha | ha
    · rcases List.mem_append.mp ha with ha | ha
      · exact List.mem_append_left _ (m1 a ha)
      · exact List.mem_append_right _ ha
    · exact List.mem_append_left _ (m2 a ha)
  · refine List.nodup_append.mpr ⟨List.nodup_append.mpr ⟨n2.1, n0.2.1, fun a ha b hb => n0.2.2 a (m1 a ha) b hb⟩, n1.2.1, fun a ha b hb e => ?_⟩
    rcases List.mem_append.mp ha with ha | ha
    · exact n1.2.2 a (List.mem_append_left _ ha) b hb e
    · exact n0.2.2 b (m2 b hb) a ha e.symm
  · rcases List.mem_append.mp ha with ha | ha
    · rcases List.mem_append.mp ha with ha | ha
      · exact w.dj a (by rw [e2]; exact m1 a ha)
      · exact dj a ha
    · exact w.dj a (by rw [e2]; exact m2 a ha)

theorem putb_ok {n0 : Nat} : ∀ {tks : List Tk} {ts : List T} {vs : List V} {s s2 : S} {g f : List Addr}, Wl c L vc Z H σ vx s tx g → Paired (fun tk v => TkR (σ ++ vx) n0 tk v) tks (vs.take tks.length) → LR (fun (t : T) v f => RT c Z H t.2 t.1 v f) ts vs f → (g ++ f).Nodup → (∀ a ∈ f, Z a = none) → putb tks ts s = some s2 →
    ∃ g2, (∀ a ∈ g2, a ∈ g ++ f) ∧ Wl c L vc Z H σ vx s2 tx g2
  | [], ts, vs, s, s2, g, f, w, _, _, _, _, e => by
    cases e
    exact ⟨g, fun a ha => List.mem_append_left _ ha, w⟩
  | (t0, o) :: r, t :: ts, v :: vs, s, s2, g, f, w, p, ⟨f1, f2, ef, h1, h2⟩, nd, dj, e => by
    rw [ef] at nd dj
    have p' : Paired (fun tk v => TkR (σ ++ vx) n0 tk v) ((t0, o) :: r) (v :: vs.take r.length) := p
    cases p' with
    | cons p1 p2 =>
      have n0' := List.nodup_append.mp nd
      have n1 := List.nodup_append.mp n0'.2.1
      cases o with
      | none =>
        have e' : putb r ts s = some s2 := e
        have ndg : (g ++ f2).Nodup := List.nodup_append.mpr ⟨n0'.1, n1.2.1, fun a ha b hb => n0'.2.2 a ha b (List.mem_append_right _ hb)⟩
        obtain ⟨g2, k1, k2⟩ := putb_ok w p2 h2 ndg (fun a ha => dj a (List.mem_append_right _ ha)) e'
        refine ⟨g2, fun a ha => ?_, k2⟩
        rw [ef]
        rcases List.mem_append.mp (k1 a ha) with h | h
        · exact List.mem_append_left _ h
        · exact List.mem_append_right _ (List.mem_append_right _ h)
      | some j =>
        obtain ⟨hj, hv⟩ := p1 j rfl
        cases q : s[j]? with
        | none => simp only [putb, q] at e; cases e
        | some y =>
          cases y with
          | ow _ _ => simp only [putb, q] at e; cases e
          | pa _ => simp only [putb, q] at e; cases e
          | un =>
            simp only [putb, q] at e
            have ndg : (g ++ f1).Nodup := List.nodup_append.mpr ⟨n0'.1, n1.1, fun a ha b hb => n0'.2.2 a ha b (List.mem_append_left _ hb)⟩
            obtain ⟨g1, l1, w1⟩ := w.putc ndg (fun a ha => dj a (List.mem_append_left _ ha)) h1 q hv
            have ndg2 : (g1 ++ f2).Nodup := List.nodup_append.mpr ⟨w1.nd, n1.2.1, fun a ha b hb => by
              rcases List.mem_append.mp (l1 a ha) with h | h
              · exact n0'.2.2 a h b (List.mem_append_right _ hb)
              · exact n1.2.2 a h b hb⟩
            obtain ⟨g2, k1, k2⟩ := putb_ok w1 p2 h2 ndg2 (fun a ha => dj a (List.mem_append_right _ ha)) e
            refine ⟨g2, fun a ha => ?_, k2⟩
            rw [ef]
            rcases List.mem_append.mp (k1 a ha) with h | h
            · rcases List.mem_append.mp (l1 a h) with h | h
              · exact List.mem_append_left _ h
              · exact List.mem_append_right _ (List.mem_append_left _ h)
            · exact List.mem_append_right _ (List.mem_append_right _ h)
  | (_, none) :: _, [], _, _, _, _, _, _, _, _, _, _, e => by cases e
  | (_, some _) :: _, [], _, _, _, _, _, _, _, _, _, _, e => by cases e
  | _ :: _, _ :: _, [], _, _, _, _, _, _, h, _, _, _ => h.elim

/-- behind the arguments: the call -/
theorem call_run {fn : Fn} {np : Nat} {tks : List Tk} {s : S} {vs dvs : List V} {ds : List D} {Q : VK} (hvc : ∀ j v, vc j = some v → L ≤ j ∧ vx[j - L]? = some (some v)) (hnp : tks.length + ds.length = np) (hl : vs.length = tks.length)
    (hd : Paired (fun d v => ∀ Z, RF c Z d v) ds dvs) (pr : Paired (fun tk v => TkR (σ ++ vx) ((σ ++ vx).length - tx.length) tk v) tks vs) (w : Wl c L vc Z H σ (vx ++ vs.map some) s (tx ++ (tks.map (·.1)).map fun t => .ow t.1 t.2) fp)
    (h : PoE c L W vc Z H σ vx tx fp (match fn (tks.map (·.1) ++ ds.map fun d => (d, 0)) with
      | .ok t ts' => match putb tks ts' s with
        | some s2 => .ok t s2
        | none => .no
      | .ex x ts' => match putb tks ts' s with
        | some s2 => .ex x s2
        | none => .no
      | .no => .no) Q) : spZ c np fn (vs ++ dvs) H Q (fun cls d H' => W cls d σ H') := by
  have lr := w.lr
  rw [← List.append_assoc, ← List.append_assoc] at lr
  have hl' : (s ++ tx).length = (σ ++ vx).length := by
    have := lr.len
    simp only [List.length_append, List.length_map] at this ⊢
    omega
  obtain ⟨g, f, e, h1, h2⟩ := LR.split hl' lr
  have nd := w.nd
  rw [e] at nd
  have n1 := List.nodup_append.mp nd
  have dg : ∀ a ∈ g, Z a = none := fun a ha => w.dj a (by rw [e]; exact List.mem_append_left _ ha)
  have df : ∀ a ∈ f, Z a = none := fun a ha => w.dj a (by rw [e]; exact List.mem_append_right _ ha)
  have tg : ∀ a ∈ g, H a ≠ none := LR.mem h1 fun _ _ _ h => CeR.there h
  have lds : ∀ {ds : List D} {dvs : List V}, Paired (fun d v => ∀ Z, RF c Z d v) ds dvs → LR (fun (t : T) v f => RT c Z H t.2 t.1 v f) (ds.map fun d => (d, 0)) dvs [] := by
    intro ds dvs p
    induction p with
    | nil => rfl
    | cons q _ ih => exact ⟨[], [], rfl, ⟨q Z, rfl⟩, ih⟩
  have ar : Ar c Z H (tks.map (·.1) ++ ds.map fun d => (d, 0)) (vs ++ dvs) f := by
    have q := LR.append (lr_ow h2) (lds hd)
    rw [List.append_nil] at q
    exact ⟨w.sub, q, n1.2.1, df⟩
  -- the world without the arguments, behind the call
  have base : ∀ {Z2 H2 : Hp} {f' : List Addr}, Sub Z2 H2 → Stp f Z H f' Z2 H2 → Wl c L vc Z2 H2 σ vx s tx g ∧ (∀ a ∈ g, a ∉ f') := by
    intro Z2 H2 f' sb s2
    have keep : ∀ a ∈ g, H2 a = H a := fun a ha => by
      cases q : H a with
      | none => exact absurd q (tg a ha)
      | some o => exact s2.hh a o q fun hb => n1.2.2 a ha a hb rfl
    refine ⟨⟨w.len, w.hst, hvc, sb, LR.imp h1 fun a b q hq _ r => CeR.stay s2.zz r fun x hx => keep x (hq x hx), n1.1, fun a ha => ?_⟩, fun a ha hb => ?_⟩
    · cases q : Z2 a with
      | none => rfl
      | some o =>
        rcases s2.zn a (by rw [q]; exact fun z => nomatch z) with z | z | z
        · exact absurd (dg a ha) z
        · exact absurd rfl (n1.2.2 a ha a z)
        · exact absurd z (tg a ha)
    · rcases s2.ff a hb with z | z
      · exact n1.2.2 a ha a z rfl
      · exact tg a ha z
  have stp : ∀ {Z2 H2 : Hp} {f' g2 : List Addr}, Stp f Z H f' Z2 H2 → (∀ a ∈ g2, a ∈ g ∨ a ∈ f') → Stp fp Z H g2 Z2 H2 := by
    intro Z2 H2 f' g2 s2 hg
    refine ⟨s2.zz, fun a o q ha => s2.hh a o q fun hb => ha (by rw [e]; exact List.mem_append_right _ hb), s2.nn, fun a ha => ?_, fun a ha => ?_⟩
    · rcases hg a ha with z | z
      · exact .inl (by rw [e]; exact List.mem_append_left _ z)
      · rcases s2.ff a z with z | z
        · exact .inl (by rw [e]; exact List.mem_append_right _ z)
        · exact .inr z
    · rcases s2.zn a ha with z | z | z
      · exact .inl z
      · exact .inr (.inl (by rw [e]; exact List.mem_append_right _ z))
      · exact .inr (.inr z)
  have prt : ∀ (ws : List V), Paired (fun tk v => TkR (σ ++ vx) ((σ ++ vx).length - tx.length) tk v) tks ((vs ++ ws).take tks.length) := fun ws => by
    rw [← hl, List.take_left]
    exact pr
  refine ⟨Z, _, f, by rw [List.length_append, List.length_map, List.length_map]; exact hnp, ar, ?_⟩
  cases q : fn (tks.map (·.1) ++ ds.map fun d => (d, 0)) with
  | no => simp only [q] at h; exact h
  | ex x ts' =>
    simp only [q] at h
    cases q2 : putb tks ts' s with
    | none => simp only [q2] at h; exact h.elim
    | some s2 =>
      simp only [q2] at h
      intro Z2 H2 f' cls dd st2 a2 hx
      obtain ⟨wb, dis⟩ := base a2.sub st2
      obtain ⟨g2, k1, k2⟩ := putb_ok wb (prt dvs) a2.lr (List.nodup_append.mpr ⟨wb.nd, a2.nd, fun a ha b hb z => dis a ha (z ▸ hb)⟩) a2.dj q2
      exact h Z2 H2 g2 cls dd (stp st2 fun a ha => List.mem_append.mp (k1 a ha)) k2 hx
  | ok t ts' =>
    simp only [q] at h
    cases q2 : putb tks ts' s with
    | none => simp only [q2] at h; exact h.elim
    | some s2 =>
      simp only [q2] at h
      intro Z2 H2 v f' st2 a2
      obtain ⟨wb, dis⟩ := base a2.sub st2
      -- the answer stands apart from what came back
      have lr2 := a2.lr
      have hlt : ts'.length = (vs ++ dvs).length := by
        have := lr2.len
        simp only [List.length_append, List.length_cons, List.length_nil] at this ⊢
        omega
      obtain ⟨fa, ft, ef, l1, l2⟩ := LR.split hlt lr2
      obtain ⟨v', ev, rt⟩ := LR.of_one l2
      cases ev
      have nd2 := a2.nd
      rw [ef] at nd2
      have n2 := List.nodup_append.mp nd2
      have da : ∀ a ∈ fa, Z2 a = none := fun a ha => a2.dj a (by rw [ef]; exact List.mem_append_left _ ha)
      have dt : ∀ a ∈ ft, Z2 a = none := fun a ha => a2.dj a (by rw [ef]; exact List.mem_append_right _ ha)
      obtain ⟨g2, k1, k2⟩ := putb_ok wb (prt dvs) l1 (List.nodup_append.mpr ⟨wb.nd, n2.1, fun a ha b hb z => dis a ha (by rw [ef]; exact List.mem_append_left _ (z ▸ hb))⟩) da q2
      have w3 := k2.push (Sm.refl _) a2.sub (fun _ _ => rfl) rt (fun a ha hb => by
        rcases List.mem_append.mp (k1 a hb) with z | z
        · exact dis a z (by rw [ef]; exact List.mem_append_right _ ha)
        · exact n2.2.2 a z a ha rfl) k2.dj n2.2.1 dt
      refine h Z2 H2 v (g2 ++ ft) (stp st2 fun a ha => ?_) w3
      rw [ef]
      rcases List.mem_append.mp ha with ha | ha
      · rcases List.mem_append.mp (k1 a ha) with z | z
        · exact .inl z
        · exact .inr (List.mem_append_left _ z)
      · exact .inr (List.mem_append_right _ ha)

def okA (L : Nat) : List Ag → Bool
  | [] => true
  | .bo i :: as => decide (i < L) && okA L as
  | .tm _ :: as => okA L as
theorem okA_mem {L : Nat} : ∀ {as : List Ag}, okA L as = true → ∀ i, Ag.bo i ∈ as → i < L
  | [], _, i, h => nomatch h
  | .bo j :: as, e, i, h => by
    simp only [okA, Bool.and_eq_true] at e
    rcases List.mem_cons.mp h with h | h
    · cases h; exact of_decide_eq_true e.1
    · exact okA_mem e.2 i h
  | .tm _ :: as, e, i, h => by
    rcases List.mem_cons.mp h with h | h
    · cases h
    · exact okA_mem (as := as) e i h
theorem eva_len : ∀ {as : List Ag} {s s' : S} {ts : List Tk}, eva as s = .ok ts s' → ts.length = as.length
  | [], s, s', ts, h => by cases h; rfl
  | m :: ms, s, s', ts, h => by
    cases q : m.ev s with
    | no => simp only [eva, q] at h; cases h
    | ex x s1 => simp only [eva, q] at h; cases h
    | ok t s1 =>
      cases q2 : eva ms s1 with
      | no => simp only [eva, q, q2] at h; cases h
      | ex x s1 => simp only [eva, q, q2] at h; cases h
      | ok ts' s2 =>
        simp only [eva, q, q2] at h
        cases h
        simp [eva_len q2]
theorem mCall_rd {fn : Fn} {np : Nat} {as : List Ag} {ds : List D} {dvs : List V} {Q : VK} (hL : okA L as = true) (hnp : as.length + ds.length = np) (hd : Paired (fun d v => ∀ Z, RF c Z d v) ds dvs) (h : rd c L W (mCall fn as ds) σ H Q) :
    tAs c L W as σ H (fun vs H1 => spZ c np fn (vs ++ dvs) H1 Q (fun cls d H' => W cls d σ H')) := by
  obtain ⟨Z, vc, vx, st, tx, fp, w, h⟩ := h
  refine tAs_run w (okA_mem hL) ?_
  unfold mCall at h
  cases q : eva as st with
  | no => simp only [q] at h; exact h.elim
  | ex x s =>
    simp only [q] at h
    intro Z1 H1 fp1 cls dd s1 ⟨vy, ty, hl, w1⟩ hx
    obtain ⟨g, hg, w2⟩ := Wl.pops hl w1 w.hvc
    exact h Z1 H1 g cls dd (s1.trans (Stp.less hg)) w2 hx
  | ok tks s =>
    simp only [q] at h
    intro Z1 H1 vs fp1 s1 hl pr w1
    exact call_run w.hvc (by rw [eva_len q]; exact hnp) hl hd pr w1 (PoE.behind s1 h)
end

section
variable {X : Cx} {c : Zc} {L : Nat} {W : WX} {pos : Pos}
abbrev ZG (X : Cx) (c : Zc) (L : Nat) (W : WX) (e : Expr) (a : Ag) : Prop := PE X e (tAg c L W a)
abbrev ZGs (X : Cx) (c : Zc) (L : Nat) (W : WX) (es : List Expr) (as : List Ag) : Prop := PA X es (tAs c L W as)
theorem zg_bo {x : Str} {i : Nat} (hN : X.N[i]? = some x) (hv : Vis X.env.scope x) (hd : (x == ("__debug__" : Str)) = false := by decide) (hcd : (x == ("__classdict__" : Str)) = false := by decide) : ZG X c L W (.Name x pos) (.bo i) :=
  PE.imp (pe_var hN hv hd hcd) fun _ _ _ h => h.2
theorem zgs_nil : ZGs X c L W [] [] := pa_nil
theorem zgs_cons {e : Expr} {es : List Expr} {m : Ag} {ms : List Ag} (ha : ZG X c L W e m) (hr : ZGs X c L W es ms) (hs : starEach (e :: es) X.env = (false, eval e X.env) :: starEach es X.env := by rfl) : ZGs X c L W (e :: es) (m :: ms) := pa_cons ha hr hs
/-- f(..) -/
theorem ze_call {k np : Nat} {f : Addr} {fd : FuncData} {ps : List Str} {fn : Fn} {x : Str} {p : Pos} {e : Expr} {es : List Expr} {as : List Ag} {ds : List Value} {dds : List D} {dvs : List V} (tk : Takes X W) (F0 : FnOk X.prog X.w X.K X.mg X.base (L2.CX X.prog X.w) k f fd ps (spZ c np fn)) (hr : Room k X.A) (hg : Gl X x) (hm : X.mg x = some (.ref f)) (hk : PySem.W.keepIn X.K (.ref f) = true)
    (hb : Binds X.K fd ps ds) (hd : Vals dvs ds) (hdd : Paired (fun d v => ∀ Z, RF c Z d v) dds dvs) (ha : ZGs X c L W (e :: es) as) (hnp : as.length + dds.length = np := by rfl) (hL : okA L as = true := by rfl) (hdb : (x == ("__debug__" : Str)) = false := by decide)
    (he : starEach (e :: es) X.env = (false, eval e X.env) :: starEach es X.env := by rfl) (hpl : (backTo pos (starEach es X.env)).any (·.1) = false := by rfl) : ZE X c L W (.Call (.Name x p) (e :: es) [] pos) (mCall fn as dds) :=
  PE.imp (pe_callSD (E := WE W) F0 hr hg hm hk hb hd (fun σ => passAt tk σ) ha hdb he hpl) fun σ H Q h => mCall_rd hL hnp hdd h
/-- f() -/
theorem ze_call0 {k np : Nat} {f : Addr} {fd : FuncData} {ps : List Str} {fn : Fn} {x : Str} {p : Pos} {ds : List Value} {dds : List D} {dvs : List V} (tk : Takes X W) (F0 : FnOk X.prog X.w X.K X.mg X.base (L2.CX X.prog X.w) k f fd ps (spZ c np fn)) (hr : Room k X.A) (hg : Gl X x) (hm : X.mg x = some (.ref f)) (hk : PySem.W.keepIn X.K (.ref f) = true)
    (hb : Binds X.K fd ps ds) (hd : Vals dvs ds) (hdd : Paired (fun d v => ∀ Z, RF c Z d v) dds dvs) (hnp : dds.length = np := by rfl) (hdb : (x == ("__debug__" : Str)) = false := by decide) : ZE X c L W (.Call (.Name x p) [] [] pos) (mCall fn [] dds) := by
  refine ⟨fun pins s σ H Q I h => wpAny_Call_Name_kw (ld_glob I hg hm ?_ hdb)⟩
  have z := mCall_rd (as := []) (np := np) rfl (by simpa using hnp) hdd h
  exact PySem.W.callWith_K0 I.kIn hk (run_fnSD (E := WE W) (us := []) (vs := []) F0 hr hb hd (passAt tk σ) I .nil z)
end
end Z

namespace Z
open PySem L2
/-! ### what is walked -/
def itsOf : D → Option (List D)
  | .lst xs => some xs
  | .tup xs => some xs
  | .rol xs => some xs
  | .str a => some (a.cps.toList.map fun k => .str ⟨#[k]⟩)
  | _ => none
def mIts (m : M T) : M (List D) := fun s => match m s with
  | .ok t s' => match itsOf t.1 with
    | some xs => .ok xs s'
    | none => .no
  | .ex x s' => .ex x s'
  | .no => .no
def rngL (lo : Int) (n : Nat) : List D := (List.range n).map fun i => .int (lo + (i : Nat))
def int1 : List T → Option Int
  | [(.int j, _)] => if -(2 ^ 62) ≤ j ∧ j < 2 ^ 62 then some j else none
  | _ => none
def int2 : List T → Option (Int × Int)
  | [(.int i, _), (.int j, _)] => if -(2 ^ 62) ≤ i ∧ i < 2 ^ 62 ∧ -(2 ^ 62) ≤ j ∧ j < 2 ^ 62 then some (i, j) else none
  | _ => none
theorem int1_ok {ts : List T} {j : Int} (h : int1 ts = some j) : ts.map (·.1) = [D.int j] ∧ -(2 ^ 62) ≤ j ∧ j < 2 ^ 62 := by
  unfold int1 at h
  split at h
  · split at h
    · cases h
      exact ⟨rfl, by assumption⟩
    · cases h
  · cases h
theorem int2_ok {ts : List T} {i j : Int} (h : int2 ts = some (i, j)) : ts.map (·.1) = [D.int i, D.int j] ∧ -(2 ^ 62) ≤ i ∧ i < 2 ^ 62 ∧ -(2 ^ 62) ≤ j ∧ j < 2 ^ 62 := by
  unfold int2 at h
  split at h
  · split at h
    · cases h
      exact ⟨rfl, by assumption⟩
    · cases h
  · cases h
def mRng1 (o : Opd) : M (List D) := fun s => match evs [o] s with
  | .ok hs s' => match gets [o] hs s' with
    | some ts => match int1 ts with
      | some j => .ok (rngL 0 j.toNat) s'
      | none => .no
    | none => .no
  | .ex x s' => .ex x s'
  | .no => .no
def mRng2 (o p : Opd) : M (List D) := fun s => match evs [o, p] s with
  | .ok hs s' => match gets [o, p] hs s' with
    | some ts => match int2 ts with
      | some (i, j) => .ok (rngL i (j - i).toNat) s'
      | none => .no
    | none => .no
  | .ex x s' => .ex x s'
  | .no => .no
/-- enumerate of a list -/
def enumD (xs : List D) : List D := xs.zipIdx.map fun p => .tup [.int (p.2 : Nat), p.1]
def mEnum (m : M T) : M (List D) := fun s => match m s with
  | .ok (.lst xs, _) s' => .ok (enumD xs) s'
  | .ok _ _ => .no
  | .ex x s' => .ex x s'
  | .no => .no

section
variable {c : Zc} {L : Nat} {W : WX} {vc : Nat → Option V} {Z H Z' H' Z1 H1 : Hp} {σ : St} {vx : List (Option V)} {st tx : S} {fp fp1 : List Addr}
theorem itR_list {a : Addr} {vs : List V} {xs : List D} (h : SqL c.K Z a vs) (hl : xs.length = vs.length) (hx : ∀ (i : Nat) d w, xs[i]? = some d → vs[i]? = some w → RF c Z d w) : ItR c Z (Itl c.K a) xs := by
  refine ⟨fun i Z1 H1 sz sb hi => ?_, fun i Z1 H1 x H' d sz sb hd hy => ?_, fun i Z1 H1 sz sb hi => ⟨vs, sb.sqL (sz.sqL h), by omega⟩⟩
  · exact ⟨vs, vs[i]'(by omega), sb.sqL (sz.sqL h), List.getElem?_eq_getElem _⟩
  · obtain ⟨rfl, k⟩ := hy
    exact ⟨Z1, Al.refl sb, (hx i d x hd (k vs (sb.sqL (sz.sqL h)))).mono sz⟩
theorem itR_tup {a : Addr} {vs : List V} {xs : List D} (h : SqT c.K Z a vs) (hl : xs.length = vs.length) (hx : ∀ (i : Nat) d w, xs[i]? = some d → vs[i]? = some w → RF c Z d w) : ItR c Z (Itt c.K a) xs := by
  refine ⟨fun i Z1 H1 sz sb hi => ?_, fun i Z1 H1 x H' d sz sb hd hy => ?_, fun i Z1 H1 sz sb hi => ⟨vs, sb.sqT (sz.sqT h), by omega⟩⟩
  · exact ⟨vs, vs[i]'(by omega), sb.sqT (sz.sqT h), List.getElem?_eq_getElem _⟩
  · obtain ⟨rfl, k⟩ := hy
    exact ⟨Z1, Al.refl sb, (hx i d x hd (k vs (sb.sqT (sz.sqT h)))).mono sz⟩
theorem itR_str {a : Str} : ItR c Z (Its a) (a.cps.toList.map fun k => .str ⟨#[k]⟩) := by
  refine ⟨fun i Z1 H1 sz sb hi => ?_, fun i Z1 H1 x H' d sz sb hd hy => ?_, fun i Z1 H1 sz sb hi => ?_⟩
  · show i < a.cps.size
    simpa using hi
  · obtain ⟨rfl, k, hk, rfl⟩ := hy
    refine ⟨Z1, Al.refl sb, ?_⟩
    rw [List.getElem?_map] at hd
    have e : a.cps.toList[i]? = some k := by rw [Array.getElem?_toList]; exact hk
    rw [e] at hd
    cases hd
    exact .str
  · show a.cps.size ≤ i
    simpa using hi
theorem itR_rng {lo : Int} {n : Nat} : ItR c Z (Itr lo n) (rngL lo n) := by
  refine ⟨fun i Z1 H1 sz sb hi => ?_, fun i Z1 H1 x H' d sz sb hd hy => ?_, fun i Z1 H1 sz sb hi => ?_⟩
  · show i < n
    simpa [rngL] using hi
  · obtain ⟨rfl, rfl⟩ := hy
    refine ⟨Z1, Al.refl sb, ?_⟩
    simp only [rngL, List.getElem?_map] at hd
    cases q : (List.range n)[i]? with
    | none => rw [q] at hd; cases hd
    | some k =>
      rw [q] at hd
      cases hd
      have := (List.getElem?_eq_some_iff.mp q).2
      rw [List.getElem_range] at this
      subst this
      exact .int
  · show n ≤ i
    simpa [rngL] using hi
theorem itR_enum {a : Addr} {vs : List V} {xs : List D} (h : SqL c.K Z a vs) (hl : xs.length = vs.length) (hx : ∀ (i : Nat) d w, xs[i]? = some d → vs[i]? = some w → RF c Z d w) : ItR c Z (Ite c.K a) (enumD xs) := by
  have el : (enumD xs).length = xs.length := by simp [enumD]
  refine ⟨fun i Z1 H1 sz sb hi => ?_, fun i Z1 H1 x H' d sz sb hd hy => ?_, fun i Z1 H1 sz sb hi => ⟨vs, sb.sqL (sz.sqL h), by omega⟩⟩
  · exact ⟨vs, vs[i]'(by omega), sb.sqL (sz.sqL h), List.getElem?_eq_getElem _⟩
  · obtain ⟨p, y, rfl, hp, rfl, k⟩ := hy
    have hy := k vs (sb.sqL (sz.sqL h))
    simp only [enumD, List.getElem?_map, List.getElem?_zipIdx] at hd
    cases q : xs[i]? with
    | none => rw [q] at hd; cases hd
    | some e =>
      rw [q] at hd
      cases hd
      refine ⟨_, al_newF sb hp, rf_tup (sb.none hp) rfl fun j d w h1 h2 => ?_⟩
      match j, h1, h2 with
      | 0, h1, h2 =>
        cases h1
        cases h2
        rw [Nat.zero_add]
        exact .int
      | 1, h1, h2 =>
        cases h1
        cases h2
        exact (hx i _ _ q hy).mono sz
      | j + 2, h1, _ => cases h1

theorem mIts_rd {m : M T} {R : It → Hp → Prop} (h : rdI c L W (mIts m) σ H R) : iList c.K (rd c L W m) σ H R ∨ iTup c.K (rd c L W m) σ H R ∨ iStr (rd c L W m) σ H R := by
  obtain ⟨Z, vc, vx, st, tx, fp, w, h⟩ := h
  have k : ∀ {P : VK}, (match m st with
      | .ok t s => ∀ Z' H' v fp', Stp fp Z H fp' Z' H' → Wl c L vc Z' H' σ vx s tx fp' → RF c Z' t.1 v → P v H'
      | .ex x s => ∀ Z' H' fp' cls dd, Stp fp Z H fp' Z' H' → Wl c L vc Z' H' σ vx s tx fp' → IsX c Z' H' x cls dd → W cls dd σ H'
      | .no => False) → rd c L W m σ H P := by
    intro P hP
    refine ⟨Z, vc, vx, st, tx, fp, w, ?_⟩
    cases q : m st with
    | no => simp only [q] at hP
    | ex x s => simp only [q] at hP; exact hP
    | ok t s =>
      simp only [q] at hP
      intro Z1 H1 v fp1 s1 w1
      obtain ⟨Z2, g2, w2, s2, rf⟩ := Wl.frz (ts := [t]) (vs := [v]) w1 w.hvc rfl
      exact hP Z2 H1 v g2 (s1.trans s2) w2 (rf 0 t.1 v rfl rfl)
  cases q : m st with
  | no => simp only [mIts, q] at h
  | ex x s =>
    simp only [mIts, q] at h
    refine .inl (k ?_)
    simp only [q]
    exact h
  | ok t s =>
    obtain ⟨d, n⟩ := t
    cases d with
    | lst xs =>
      simp only [mIts, q, itsOf] at h
      refine .inl (k ?_)
      simp only [q]
      intro Z1 H1 v fp1 s1 w1 rf
      cases rf with
      | lst h0 hl hx => exact ⟨_, rfl, ⟨_, w1.sub.sqL (.inl (.inl h0))⟩, h Z1 H1 fp1 _ s1 w1 (itR_list (.inl (.inl h0)) hl hx)⟩
    | rol xs =>
      simp only [mIts, q, itsOf] at h
      refine .inl (k ?_)
      simp only [q]
      intro Z1 H1 v fp1 s1 w1 rf
      cases rf with
      | rol h0 hl hx => exact ⟨_, rfl, ⟨_, w1.sub.sqL h0⟩, h Z1 H1 fp1 _ s1 w1 (itR_list h0 hl hx)⟩
    | tup xs =>
      simp only [mIts, q, itsOf] at h
      refine .inr (.inl (k ?_))
      simp only [q]
      intro Z1 H1 v fp1 s1 w1 rf
      cases rf with
      | tup h0 hl hx => exact ⟨_, rfl, ⟨_, w1.sub.sqT h0⟩, h Z1 H1 fp1 _ s1 w1 (itR_tup h0 hl hx)⟩
    | str a =>
      simp only [mIts, q, itsOf] at h
      refine .inr (.inr (k ?_))
      simp only [q]
      intro Z1 H1 v fp1 s1 w1 rf
      cases rf with
      | str => exact ⟨_, rfl, h Z1 H1 fp1 _ s1 w1 itR_str⟩
    | _ => simp only [mIts, q, itsOf] at h
theorem mEnum_rd {m : M T} {R : It → Hp → Prop} (h : rdI c L W (mEnum m) σ H R) : iEnum c.K (tMs c L W [m]) σ H R := by
  obtain ⟨Z, vc, vx, st, tx, fp, w, h⟩ := h
  refine tMs_run w ?_
  cases q : m st with
  | no => simp only [mEnum, q] at h
  | ex x s =>
    simp only [mEnum, q] at h
    simp only [evm, q]
    exact h
  | ok t s =>
    obtain ⟨d, n⟩ := t
    cases d with
    | lst xs =>
      simp only [mEnum, q] at h
      simp only [evm, q]
      intro Z1 H1 vs fp1 s1 hl w1
      obtain ⟨Z2, g2, w2, s2, rf⟩ := Wl.frz w1 w.hvc hl
      match vs, hl, rf with
      | [v], _, rf =>
        have r := rf 0 _ v rfl rfl
        cases r with
        | lst h0 hl hx => exact ⟨_, _, rfl, w2.sub.sqL (.inl (.inl h0)), h Z2 H1 g2 _ (s1.trans s2) w2 (itR_enum (.inl (.inl h0)) hl hx)⟩
    | _ => simp only [mEnum, q] at h
/-- operands whose values are ints, for a range -/
theorem ints_run {os : List Opd} {Q : List V → Hp → Prop} {ns : List Int} (w : Wl c L vc Z H σ vx st tx fp) (hL : okL L os = true) {hs : List (Option T)} {s : S} {ts : List T} (q : evs os st = .ok hs s) (q2 : gets os hs s = some ts) (hi : ts.map (·.1) = ns.map D.int)
    (k : ∀ Z' H' fp', Stp fp Z H fp' Z' H' → Wl c L vc Z' H' σ vx s tx fp' → Q (ns.map V.int) H') : tOs c L W os σ H Q := by
  refine tOs_run w (okL_mem hL) ?_
  simp only [q]
  intro Z1 H1 vs vy ty fp1 s1 w1 r1
  have hl : (s ++ tx).length = (σ ++ vx).length := by
    have e := w1.lr.len
    have e2 := r1.len
    simp only [List.length_append] at e ⊢
    omega
  have tr := r1.trees w1 hl (okL_mem hL) q2
  have ev : ∀ {vs : List V} {ts : List T} {ns : List Int}, Paired (Tre c Z1 H1 fp1) vs ts → ts.map (·.1) = ns.map D.int → vs = ns.map V.int := by
    intro vs ts ns p
    induction p generalizing ns with
    | nil =>
      intro e
      cases ns with
      | nil => rfl
      | cons => cases e
    | @cons v t vs ts h1 _ ih =>
      intro e
      cases ns with
      | nil => cases e
      | cons n ns =>
        obtain ⟨d, m⟩ := t
        simp only [List.map_cons, List.cons.injEq] at e ⊢
        obtain ⟨e1, e2⟩ := e
        subst e1
        exact ⟨tre_int h1, ih e2⟩
  obtain ⟨g, hg, w2⟩ := Wl.pops r1.len w1 w.hvc
  rw [ev tr hi]
  exact k Z1 H1 g (s1.trans (Stp.less hg)) w2
theorem mRng1_rd {o : Opd} {R : It → Hp → Prop} (hL : okL L [o] = true) (h : rdI c L W (mRng1 o) σ H R) : iRng1 (tOs c L W [o]) σ H R := by
  obtain ⟨Z, vc, vx, st, tx, fp, w, h⟩ := h
  cases q : evs [o] st with
  | no => simp only [mRng1, q] at h
  | ex x s =>
    simp only [mRng1, q] at h
    refine tOs_run w (okL_mem hL) ?_
    simp only [q]
    exact h
  | ok hs s =>
    simp only [mRng1, q] at h
    cases q2 : gets [o] hs s with
    | none => simp only [q2] at h
    | some ts =>
      simp only [q2] at h
      cases q3 : int1 ts with
      | none => simp only [q3] at h
      | some j =>
        simp only [q3] at h
        obtain ⟨e, k⟩ := int1_ok q3
        exact ints_run (ns := [j]) w hL q q2 e fun Z1 H1 fp1 s1 w1 => ⟨j, rfl, k.1, k.2, h Z1 H1 fp1 _ s1 w1 itR_rng⟩
theorem mRng2_rd {o p : Opd} {R : It → Hp → Prop} (hL : okL L [o, p] = true) (h : rdI c L W (mRng2 o p) σ H R) : iRng2 (tOs c L W [o, p]) σ H R := by
  obtain ⟨Z, vc, vx, st, tx, fp, w, h⟩ := h
  cases q : evs [o, p] st with
  | no => simp only [mRng2, q] at h
  | ex x s =>
    simp only [mRng2, q] at h
    refine tOs_run w (okL_mem hL) ?_
    simp only [q]
    exact h
  | ok hs s =>
    simp only [mRng2, q] at h
    cases q2 : gets [o, p] hs s with
    | none => simp only [q2] at h
    | some ts =>
      simp only [q2] at h
      cases q3 : int2 ts with
      | none => simp only [q3] at h
      | some p =>
        obtain ⟨i, j⟩ := p
        simp only [q3] at h
        obtain ⟨e, k⟩ := int2_ok q3
        exact ints_run (ns := [i, j]) w hL q q2 e fun Z1 H1 fp1 s1 w1 => ⟨i, j, rfl, k, h Z1 H1 fp1 _ s1 w1 itR_rng⟩

/-! ### comprehensions -/
def wipeS (s : S) : List Nat → S
  | [] => s
  | v :: vs => (wipeS s vs).set v .un
def mYes : M Bool := fun s => .ok true s
/-- the turns: what is made so far, the state -/
def lcL (us : List Nat) (tg : Tg) (t : M Bool) (m : M T) : List D → List D → S → R (List D)
  | [], acc, s => .ok acc s
  | d :: ds, acc, s => match tg.set d s with
    | none => .no
    | some s1 => match t s1 with
      | .ok false s2 => lcL us tg t m ds acc (wipeS s2 us)
      | .ok true s2 => match m s2 with
        | .ok y s3 => if acc.length < big then lcL us tg t m ds (acc ++ [y.1]) (wipeS s3 us) else .no
        | _ => .no
      | _ => .no
def mLc (us : List Nat) (tg : Tg) (mi : M (List D)) (t : M Bool) (m : M T) : M T := fun s => match mi s with
  | .ok items s1 => match lcL us tg t m items [] (wipeS s1 us) with
    | .ok acc s2 => .ok (.lst acc, 1) s2
    | _ => .no
  | .ex x s1 => .ex x s1
  | .no => .no
/-- own slots are forgotten -/
theorem Wl.forget {i : Nat} (w : Wl c L vc Z H σ vx st tx fp) (hi : i < L) : ∃ fp', (∀ a ∈ fp', a ∈ fp) ∧ Wl c L vc Z H (σ.set i none) vx (st.set i .un) tx fp' := by
  have his : i < st.length := Nat.lt_of_lt_of_le hi w.hst
  have hi2 : (st ++ tx)[i]? = some st[i] := by rw [List.getElem?_append_left his, List.getElem?_eq_getElem his]
  obtain ⟨ov, g1, f0, g2, e1, e2, r0, k⟩ := LR.get2 w.lr hi2
  have lr := k (CeR c vc Z H) .un none [] (fun _ _ _ _ h => h) rfl
  rw [set_app his, set_app (by rw [w.len]; exact hi)] at lr
  have nd := w.nd
  rw [e2] at nd
  have n1 := List.nodup_append.mp nd
  have n2 := List.nodup_append.mp n1.1
  have mm : ∀ a ∈ g1 ++ [] ++ g2, a ∈ fp := fun a ha => by
    rw [List.append_nil] at ha
    rw [e2]
    rcases List.mem_append.mp ha with ha | ha
    · exact List.mem_append_left _ (List.mem_append_left _ ha)
    · exact List.mem_append_right _ ha
  refine ⟨g1 ++ [] ++ g2, mm, by rw [List.length_set]; exact w.len, by rw [List.length_set]; exact w.hst, w.hvc, w.sub, lr, ?_, fun a ha => w.dj a (mm a ha)⟩
  rw [List.append_nil]
  exact List.nodup_append.mpr ⟨n2.1, n1.2.1, fun a ha => n1.2.2 a (List.mem_append_left _ ha)⟩
theorem Wl.forgets : ∀ {us : List Nat} {fp : List Addr}, (∀ i ∈ us, i < L) → Wl c L vc Z H σ vx st tx fp → ∃ fp', (∀ a ∈ fp', a ∈ fp) ∧ Wl c L vc Z H (wipe σ us) vx (wipeS st us) tx fp'
  | [], fp, _, w => ⟨fp, fun _ h => h, w⟩
  | u :: us, fp, hL, w => by
    obtain ⟨f1, h1, w1⟩ := Wl.forgets (us := us) (fun i hi => hL i (List.mem_cons_of_mem _ hi)) w
    obtain ⟨f2, h2, w2⟩ := w1.forget (hL u List.mem_cons_self)
    exact ⟨f2, fun a ha => h1 a (h2 a ha), w2⟩
theorem LR.swap : ∀ {as : S} {bs bs' : List (Option V)} {fp : List Addr}, LR (CeR c vc Z H) as bs fp → bs'.length = bs.length → (∀ i : Nat, as[i]? ≠ some .un → bs[i]? = bs'[i]?) → LR (CeR c vc Z H) as bs' fp
  | [], [], bs', fp, h, hl, _ => by
    cases bs' with
    | nil => exact h
    | cons => cases hl
  | a :: as, b :: bs, [], fp, _, hl, _ => by cases hl
  | a :: as, b :: bs, b' :: bs', fp, ⟨f, g, e, h1, h2⟩, hl, k => by
    refine ⟨f, g, e, ?_, LR.swap h2 (Nat.succ.inj hl) fun i hi => by simpa using k (i + 1) (by simpa using hi)⟩
    by_cases q : a = .un
    · subst q; exact h1
    · have := k 0 (by simpa using q)
      simp only [List.getElem?_cons_zero, Option.some.injEq] at this
      rw [← this]; exact h1
  | [], _ :: _, _, _, h, _, _ => h.elim
  | _ :: _, [], _, _, h, _, _ => h.elim
def unAt (s : S) (us : List Nat) : Prop := ∀ i ∈ us, s[i]? = some .un
theorem wipeS_len : ∀ {s : S} {us : List Nat}, (wipeS s us).length = s.length
  | s, [] => rfl
  | s, u :: us => by unfold wipeS; rw [List.length_set, wipeS_len]
theorem wipeS_un : ∀ {s : S} {us : List Nat}, (∀ i ∈ us, i < s.length) → unAt (wipeS s us) us
  | s, [], _, i, h => nomatch h
  | s, u :: us, hl, i, h => by
    unfold wipeS
    by_cases q : i = u
    · subst q
      rw [List.getElem?_set_self (by rw [wipeS_len]; exact hl i List.mem_cons_self)]
    · rw [List.getElem?_set_ne (Ne.symm q)]
      rcases List.mem_cons.mp h with h | h
      · exact absurd h q
      · exact wipeS_un (fun j hj => hl j (List.mem_cons_of_mem _ hj)) i h
theorem wipe_ne {σ : St} {i : Nat} : ∀ {us : List Nat}, i ∉ us → (wipe σ us)[i]? = σ[i]?
  | [], _ => rfl
  | u :: us, h => by
    unfold wipe
    rw [List.getElem?_set_ne (fun e => h (by rw [e]; exact List.mem_cons_self)), wipe_ne fun e => h (List.mem_cons_of_mem _ e)]
theorem wipe_wipe {σ : St} {us : List Nat} : wipe (wipe σ us) us = wipe σ us := by
  have gen : ∀ (vs ws : List Nat), (∀ i ∈ vs, i ∈ ws) → wipe (wipe σ vs) ws = wipe σ ws := by
    intro vs
    induction vs with
    | nil => intro ws _; rfl
    | cons v vs ih =>
      intro ws h
      show wipe ((wipe σ vs).set v none) ws = wipe σ ws
      rw [wipe_set (h v List.mem_cons_self), ih ws fun i hi => h i (List.mem_cons_of_mem _ hi)]
  exact gen us us fun _ h => h
theorem Wl.unwipe {us : List Nat} (w : Wl c L vc Z H (wipe σ us) vx st tx fp) (hu : unAt st us) : Wl c L vc Z H σ vx st tx fp := by
  have hl : σ.length = L := by rw [← wipe_length σ us]; exact w.len
  refine ⟨hl, w.hst, w.hvc, w.sub, LR.swap w.lr (by simp [wipe_length]) fun i hi => ?_, w.nd, w.dj⟩
  by_cases q : i ∈ us
  · have e := hu i q
    exact absurd (by rw [List.getElem?_append_left (List.getElem?_eq_some_iff.mp e).1]; exact e) hi
  · by_cases k : i < σ.length
    · rw [List.getElem?_append_left k, List.getElem?_append_left (by rw [wipe_length]; exact k), wipe_ne q]
    · have k2 : (wipe σ us).length ≤ i := by rw [wipe_length]; omega
      rw [List.getElem?_append_right k2, List.getElem?_append_right (by omega), wipe_length]
/-- the list on top grows -/
theorem wl_app {a : Addr} {xs : List D} (w : Wl c L vc Z H σ (vx ++ [some (.ref a)]) st (tx ++ [.ow (.lst xs) 1]) fp) (hvc : ∀ j v, vc j = some v → L ≤ j ∧ vx[j - L]? = some (some v)) :
    ∃ vs, H a = some (.lst vs) ∧ xs.length = vs.length ∧ ∀ d y, RF c Z d y → ∃ fp', Stp fp Z H fp' Z (upd H a (.lst (vs ++ [y]))) ∧ Wl c L vc Z (upd H a (.lst (vs ++ [y]))) σ (vx ++ [some (.ref a)]) st (tx ++ [.ow (.lst (xs ++ [d])) 1]) fp' := by
  obtain ⟨g, f, e, ⟨v', e', r⟩, w2⟩ := w.pop hvc
  cases e'
  obtain ⟨b, vs, f', e1, h1, h2, h3⟩ := r
  cases e1
  have nd := w.nd
  rw [e] at nd
  have n1 := List.nodup_append.mp nd
  have hf : ∀ x ∈ f', False := LR.mem h2 fun _ _ _ h x hx => by rw [h.2] at hx; cases hx
  have ef : f' = [] := List.eq_nil_iff_forall_not_mem.mpr hf
  subst ef
  rw [h3] at e n1
  have hag : ∀ x ∈ g, x ≠ a := fun x hx q => n1.2.2 x hx a List.mem_cons_self q
  have ha : a ∈ fp := by rw [e]; exact List.mem_append_right _ List.mem_cons_self
  have sb : ∀ o, Sub Z (upd H a o) := fun o b u q => by
    have ne : b ≠ a := fun z => by
      subst z
      rw [w.dj b ha] at q
      cases q
    rw [upd_ne ne]
    exact w.sub b u q
  have rt : ∀ d y, RF c Z d y → RT c Z (upd H a (.lst (vs ++ [y]))) 1 (.lst (xs ++ [d])) (.ref a) [a] := fun d y rf =>
    ⟨a, vs ++ [y], [], rfl, upd_same, LR.append (f := []) (g := []) (LR.imp h2 fun _ _ _ _ _ r => r) (LR.one ⟨rf, rfl⟩), rfl⟩
  have n1' : [a].Nodup := by simp
  refine ⟨vs, h1, h2.len, fun d y rf => ⟨g ++ [a], ?_, w2.push (Sm.refl Z) (sb _) (fun x hx => by rw [upd_ne (hag x hx)]) (rt d y rf) (fun x hx hb => hag x hb (List.mem_singleton.mp hx)) w2.dj n1' fun x hx => by rw [List.mem_singleton.mp hx]; exact w.dj a ha⟩⟩
  refine ⟨Sm.refl Z, fun b o q hb => ?_, fun b q => ?_, fun b hb => .inl (by rw [e]; exact hb), fun b q => .inl q⟩
  · have ne : b ≠ a := fun z => hb (by rw [z]; exact ha)
    rw [upd_ne ne]; exact q
  · by_cases z : b = a
    · subst z; rw [upd_same]; exact fun z => nomatch z
    · rw [upd_ne z]; exact q
abbrev Wf : WX := fun _ _ _ _ => False
theorem mLc_rd {us : List Nat} {tg : Tg} {g : TG} {mi : M (List D)} {t : M Bool} {m : M T} {Q : VK} (hL : ∀ i ∈ us, i < L) (hg : TgR c L g tg) (hs : ∀ i ∈ tg.slots, i ∈ us) (h : rd c L W (mLc us tg mi t m) σ H Q) :
    tLc (rdI c L W mi) g (rdT c L Wf t) (rd c L Wf m) us σ H Q := by
  obtain ⟨Z, vc, vx, st, tx, fp, w, h⟩ := h
  refine ⟨Z, vc, vx, st, tx, fp, w, ?_⟩
  cases q : mi st with
  | no => simp only [mLc, q] at h; exact h
  | ex x s => simp only [mLc, q] at h; exact h
  | ok items s =>
    simp only [mLc, q] at h
    cases q2 : lcL us tg t m items [] (wipeS s us) with
    | no => simp only [q2] at h; exact h.elim
    | ex x s => simp only [q2] at h; exact h.elim
    | ok accF sF =>
      simp only [q2] at h
      intro Z1 H1 fp1 J s1 w1 it a ha
      -- the new list stands on top
      have w1a : Wl c L vc Z1 (upd H1 a (.lst [])) σ (vx ++ [some (.ref a)]) s (tx ++ [.ow (.lst []) 1]) (fp1 ++ [a]) := w1.al (al_new w1.sub ha) (rt_lst (vs := []) rfl fun i d w h => by simp at h)
      obtain ⟨fp0, k0, w0⟩ := w1a.forgets hL
      have s0 : Stp fp1 Z1 H1 fp0 Z1 (upd H1 a (.lst [])) := (Stp.of_al (al_new w1.sub ha)).trans (Stp.less k0)
      refine ⟨fun i k H' => k = items.length - i ∧ i ≤ items.length ∧ ∃ Z' st' fp' acc, Stp fp1 Z1 H1 fp' Z' H' ∧ Wl c L vc Z' H' (wipe σ us) (vx ++ [some (.ref a)]) st' (tx ++ [.ow (.lst acc) 1]) fp' ∧ unAt st' us ∧ lcL us tg t m (items.drop i) acc st' = .ok accF sF,
        ⟨items.length, by simp, Nat.zero_le _, Z1, wipeS s us, fp0, [], s0, w0, wipeS_un fun i hi => Nat.lt_of_lt_of_le (hL i hi) w1.hst, q2⟩, ?_⟩
      rintro i k H' ⟨rfl, hi, Z', st', fp', acc, s', w', hu, hr⟩
      by_cases hlt : i < items.length
      · refine .inr ⟨it.go i Z' H' s'.zz w'.sub hlt, fun H2 => ∃ Z' st' fp' acc, Stp fp1 Z1 H1 fp' Z' H2 ∧ Wl c L vc Z' H2 (wipe σ us) (vx ++ [some (.ref a)]) st' (tx ++ [.ow (.lst acc) 1]) fp' ∧ unAt st' us ∧ lcL us tg t m (items.drop (i + 1)) acc st' = .ok accF sF,
          fun H2 hn => ⟨items.length - (i + 1), by omega, rfl, hlt, hn⟩, fun x H2 hy => ?_⟩
        obtain ⟨Z2, al, rf⟩ := it.yld i Z' H' x H2 items[i] s'.zz w'.sub (List.getElem?_eq_getElem hlt) hy
        rw [List.drop_eq_getElem_cons hlt] at hr
        cases q3 : tg.set items[i] st' with
        | none => simp only [lcL, q3] at hr; cases hr
        | some s2 =>
          simp only [lcL, q3] at hr
          have wal := w'.al (d := .non) (n := 0) (v := .non) al ⟨.non, rfl⟩
          obtain ⟨g0, f0, e0, _, w2⟩ := wal.pop w'.hvc
          have sg : Stp fp' Z' H' g0 Z2 H2 := (Stp.of_al al).trans (Stp.less fun a ha => by rw [e0]; exact List.mem_append_left _ ha)
          refine hg w2 rf q3 fun σ3 fp3 h3 w3 hw3 => ?_
          have ew : wipe σ3 us = wipe σ us := (hw3 us hs).trans wipe_wipe
          refine ⟨ew, Z2, vc, _, s2, _, fp3, w3, ?_⟩
          have st3 : Stp fp1 Z1 H1 fp3 Z2 H2 := (s'.trans sg).trans (Stp.less h3)
          cases q4 : t s2 with
          | no => simp only [q4] at hr; cases hr
          | ex x s => simp only [q4] at hr; cases hr
          | ok b s4 =>
            intro Z4 H4 fp4 st4 w4
            have st4' := st3.trans st4
            cases b with
            | false =>
              simp only [q4] at hr
              rw [if_neg Bool.false_ne_true]
              obtain ⟨fp5, k5, w5⟩ := w4.forgets hL
              rw [ew] at w5
              exact ⟨Z4, _, fp5, acc, st4'.trans (Stp.less k5), w5, wipeS_un fun i hi => Nat.lt_of_lt_of_le (hL i hi) w4.hst, hr⟩
            | true =>
              simp only [q4] at hr
              rw [if_pos rfl]
              refine ⟨Z4, vc, _, s4, _, fp4, w4, ?_⟩
              cases q5 : m s4 with
              | no => simp only [q5] at hr; cases hr
              | ex x s => simp only [q5] at hr; cases hr
              | ok y s6 =>
                simp only [q5] at hr
                by_cases kb : acc.length < big
                · rw [if_pos kb] at hr
                  intro Z6 H6 v6 fp6 st6 w6
                  obtain ⟨Z7, g7, w7, st7, rf7⟩ := Wl.frz (ts := [y]) (vs := [v6]) w6 w4.hvc rfl
                  obtain ⟨vs, e8, l8, k8⟩ := wl_app w7 w.hvc
                  obtain ⟨fp9, st9, w9⟩ := k8 y.1 v6 (rf7 0 y.1 v6 rfl rfl)
                  obtain ⟨fp10, k10, w10⟩ := w9.forgets hL
                  rw [ew] at w10
                  exact ⟨vs, e8, Nat.lt_of_lt_of_le (by omega) big_le, Z7, _, fp10, acc ++ [y.1], (((st4'.trans st6).trans st7).trans st9).trans (Stp.less k10), w10, wipeS_un fun i hi => Nat.lt_of_lt_of_le (hL i hi) w7.hst, hr⟩
                · rw [if_neg kb] at hr; cases hr
      · have e : items.drop i = [] := List.drop_eq_nil_of_le (by omega)
        rw [e] at hr
        cases hr
        exact .inl ⟨it.stop i Z' H' s'.zz w'.sub (by omega), h Z' H' (.ref a) fp' (s1.trans s') (w'.unwipe hu)⟩
end

/-! ### the rules over the text -/
section
variable {X : Cx} {c : Zc} {L : Nat} {W : WX} {pos : Pos}
theorem PI.imp {tg e : Expr} {t t' : TI} (h : PI X tg e t) (k : ∀ σ H Q, t' σ H Q → t σ H Q) : PI X tg e t' := ⟨fun pins s σ H Q I q => h.run pins s σ H Q I (k _ _ _ q)⟩
theorem PI.or {tg e : Expr} {t t' : TI} (h : PI X tg e t) (k : PI X tg e t') : PI X tg e (fun σ H R => t σ H R ∨ t' σ H R) := ⟨fun pins s σ H Q I q => q.elim (h.run pins s σ H Q I) (k.run pins s σ H Q I)⟩
abbrev ZI (X : Cx) (c : Zc) (L : Nat) (W : WX) (tg e : Expr) (m : M (List D)) : Prop := PI X tg e (rdI c L W m)
theorem zi_seq {tg e : Expr} {m : M T} (hK : c.K = X.K) (h : ZE X c L W e m) : ZI X c L W tg e (mIts m) := by
  refine PI.imp (PI.or (pi_list h) (PI.or (pi_tup h) (pi_str h))) fun σ H R q => ?_
  rw [← hK]
  exact mIts_rd q
theorem zi_rng1 {tg a : Expr} {o : Opd} {p : Pos} (hg : Gl X "range") (hm : X.mg "range" = none) (ha : ZOs X c L W [a] [o]) (hs : starEach [a] X.env = [(false, eval a X.env)] := by rfl) (hL : okL L [o] = true := by rfl) : ZI X c L W tg (.Call (.Name "range" p) [a] [] pos) (mRng1 o) :=
  PI.imp (pi_range1 hg hm ha hs) fun _ _ _ q => mRng1_rd hL q
theorem zi_rng2 {tg a b : Expr} {o o' : Opd} {p : Pos} (hg : Gl X "range") (hm : X.mg "range" = none) (ha : ZOs X c L W [a, b] [o, o']) (hs : starEach [a, b] X.env = [(false, eval a X.env), (false, eval b X.env)] := by rfl) (hs2 : starEach [b] X.env = [(false, eval b X.env)] := by rfl) (hL : okL L [o, o'] = true := by rfl) : ZI X c L W tg (.Call (.Name "range" p) [a, b] [] pos) (mRng2 o o') :=
  PI.imp (pi_range2 hg hm ha hs hs2) fun _ _ _ q => mRng2_rd hL q
theorem zi_enum {e : Expr} {m : M T} {p tpos : Pos} {elts : List Expr} {kk : Nat} (hK : c.K = X.K) (hg : Gl X "enumerate") (hm : X.mg "enumerate" = none) (ha : ZA X c L W [e] [m]) (hs : starEach [e] X.env = [(false, eval e X.env)] := by rfl) : ZI X c L W (.Tuple elts kk tpos) (.Call (.Name "enumerate" p) [e] [] pos) (mEnum m) := by
  refine PI.imp (pi_enum hg hm ha hs) fun σ H R q => ?_
  rw [← hK]
  exact mEnum_rd q
theorem ze_lc {elt tg iter : Expr} {ifs : List Expr} {scope : Scope} {own : List (Str × Nat)} {g : TG} {tgz : Tg} {mi : M (List D)} {t : M Bool} {m : M T} (hc : X.calm = true) (hN : X.N.Nodup) (hi : ZI X c L W tg iter mi) (ok : BlkOk X.N X.env.scope scope own)
    (hg : ∀ (s : Shared) (H : Hp) (C : Addr) (cl : List (Str × Addr)) (fp : List Addr), PG (X.blk s H scope (compEnvC scope cl C X.env) fp) tg g) (hz : TgR c L g tgz)
    (ht : ∀ (s : Shared) (H : Hp) (C : Addr) (cl : List (Str × Addr)) (fp : List Addr), PTs (X.blk s H scope (compEnvC scope cl C X.env) fp) ifs (rdT c L Wf t))
    (he : ∀ (s : Shared) (H : Hp) (C : Addr) (cl : List (Str × Addr)) (fp : List Addr), ZE (X.blk s H scope (compEnvC scope cl C X.env) fp) c L Wf elt m)
    (hL : ∀ i ∈ own.map (·.2), i < L := by decide) (hsl : ∀ i ∈ tgz.slots, i ∈ own.map (·.2) := by decide) (hs : ∀ x, foldedSetIterable iter X.env x = pure x := by intro _; rfl) :
    ZE X c L W (.ListComp elt [⟨tg, iter, ifs, 0⟩] scope pos) (mLc (own.map (·.2)) tgz mi t m) := PE.imp (pe_lc hc hN hi ok hg ht he hs) fun _ _ _ q => mLc_rd hL hz hsl q
theorem zts_nil : PTs X [] (rdT c L W mYes) := ⟨fun pins s σ H Q I h => pts_nil.run pins s σ H Q I (by
  obtain ⟨Z, vc, vx, st, tx, fp, w, h⟩ := h
  exact h Z H fp Stp.refl w)⟩
theorem zts_one {e : Expr} {m : M Bool} (h : ZT X c L W e m) : PTs X [e] (rdT c L W m) := pts_one h
end
end Z

namespace Z
open PySem L2
/-! ### scalars -/
def scV : D → Option V
  | .non => some .non
  | .bl b => some (.bl b)
  | .int i => some (.int i)
  | .str s => some (.str s)
  | _ => none
def scVs : List D → Option (List V)
  | [] => some []
  | d :: ds => match scV d, scVs ds with
    | some v, some vs => some (v :: vs)
    | _, _ => none
section
variable {c : Zc} {Z H : Hp} {fp : List Addr} {v : V}
theorem tre_sc {t : T} {u : V} (h : Tre c Z H fp v t) (e : scV t.1 = some u) : v = u := by
  obtain ⟨d, n⟩ := t
  cases d with
  | non => cases e; exact tre_non h
  | bl b => cases e; exact tre_bl h
  | int b => cases e; exact tre_int h
  | str b => cases e; exact tre_str h
  | _ => cases e
theorem rf_sc {d : D} {u : V} (h : RF c Z d v) (e : scV d = some u) : v = u := tre_sc (Z := Z) (H := Z) (fp := []) (t := (d, 0)) (rf_tre h) e
theorem scV_rf {d : D} {u : V} (e : scV d = some u) : RF c Z d u := by
  cases d with
  | non => cases e; exact .non
  | bl b => cases e; exact .bl
  | int b => cases e; exact .int
  | str b => cases e; exact .str
  | _ => cases e
theorem scV_flat {d : D} {u : V} (e : scV d = some u) : flatV u = true := by
  cases d with
  | non => cases e; rfl
  | bl b => cases e; rfl
  | int b => cases e; rfl
  | str b => cases e; rfl
  | _ => cases e
theorem scVs_eq {n : Nat} : ∀ {xs : List D} {vs us : List V}, scVs xs = some us → xs.length = vs.length → (∀ (i : Nat) d w, xs[i]? = some d → vs[i]? = some w → Tre c Z H fp w (d, n)) → vs = us
  | [], [], us, e, _, _ => by cases e; rfl
  | x :: xs, w :: vs, us, e, hl, h => by
    unfold scVs at e
    cases q : scV x with
    | none => simp only [q] at e; cases e
    | some u =>
      cases q2 : scVs xs with
      | none => simp only [q, q2] at e; cases e
      | some us' =>
        simp only [q, q2, Option.some.injEq] at e
        subst e
        rw [tre_sc (h 0 x w rfl rfl) q, scVs_eq q2 (Nat.succ.inj hl) fun i d w h1 h2 => h (i + 1) d w (by simpa using h1) (by simpa using h2)]
  | [], _ :: _, _, _, hl, _ => by cases hl
  | _ :: _, [], _, _, hl, _ => by cases hl
theorem scVs_flat : ∀ {xs : List D} {us : List V}, scVs xs = some us → us.all flatV = true
  | [], us, e => by cases e; rfl
  | x :: xs, us, e => by
    unfold scVs at e
    cases q : scV x with
    | none => simp only [q] at e; cases e
    | some u =>
      cases q2 : scVs xs with
      | none => simp only [q, q2] at e; cases e
      | some us' =>
        simp only [q, q2, Option.some.injEq] at e
        subst e
        simp [scV_flat q, scVs_flat q2]
end

/-! ### data without objects, for == -/
mutual
def toP : D → Option PyData
  | .non => some .none
  | .bl b => some (.bool b)
  | .int i => some (.int i)
  | .str s => some (.str s)
  | .lst xs => (toPs xs).map .list
  | .tup xs => (toPs xs).map .tuple
  | .rol xs => (toPs xs).map .list
  | .dct _ => none
  | .obj _ _ => none
def toPs : List D → Option (List PyData)
  | [] => some []
  | x :: xs => match toP x, toPs xs with
    | some a, some b => some (a :: b)
    | _, _ => none
end
section
variable {c : Zc} {Z H : Hp} {fp : List Addr}
mutual
theorem tre_dp (s : Sub Z H) : ∀ (d : D) {n : Nat} {v : V} {p : PyData}, Tre c Z H fp v (d, n) → toP d = some p → Dp c.K H v p
  | .non, n, v, p, h, e => by cases e; rw [tre_non h]; exact .non
  | .bl b, n, v, p, h, e => by cases e; rw [tre_bl h]; exact .bl b
  | .int b, n, v, p, h, e => by cases e; rw [tre_int h]; exact .int b
  | .str b, n, v, p, h, e => by cases e; rw [tre_str h]; exact .str b
  | .lst xs, n, v, p, h, e => by
    obtain ⟨a, vs, rfl, h1, h2, h3⟩ := tre_lst s h
    unfold toP at e
    cases q : toPs xs with
    | none => rw [q] at e; cases e
    | some ps =>
      rw [q] at e
      cases e
      exact .lst (.inl (.inl h1)) (tre_dps s xs h2 h3 q)
  | .tup xs, n, v, p, h, e => by
    obtain ⟨a, vs, rfl, h1, h2, h3⟩ := tre_tup s h
    unfold toP at e
    cases q : toPs xs with
    | none => rw [q] at e; cases e
    | some ps =>
      rw [q] at e
      cases e
      exact .tup h1 (tre_dps s xs h2 h3 q)
  | .rol xs, n, v, p, h, e => by
    obtain ⟨a, vs, rfl, h1, h2, h3⟩ := tre_rol s h
    unfold toP at e
    cases q : toPs xs with
    | none => rw [q] at e; cases e
    | some ps =>
      rw [q] at e
      cases e
      exact .lst h1 (tre_dps (n := 0) s xs h2 (fun i d w k1 k2 => rf_tre (h3 i d w k1 k2)) q)
  | .dct _, n, v, p, h, e => by cases e
  | .obj _ _, n, v, p, h, e => by cases e
theorem tre_dps (s : Sub Z H) : ∀ (xs : List D) {n : Nat} {vs : List V} {ps : List PyData}, xs.length = vs.length → (∀ (i : Nat) d w, xs[i]? = some d → vs[i]? = some w → Tre c Z H fp w (d, n)) → toPs xs = some ps → DpAll c.K H vs ps
  | [], n, [], ps, _, _, e => by cases e; exact .nil
  | x :: xs, n, v :: vs, ps, hl, h, e => by
    unfold toPs at e
    cases q : toP x with
    | none => simp only [q] at e; cases e
    | some p =>
      cases q2 : toPs xs with
      | none => simp only [q, q2] at e; cases e
      | some ps' =>
        simp only [q, q2, Option.some.injEq] at e
        subst e
        exact .cons (tre_dp s x (h 0 x v rfl rfl) q) (tre_dps s xs (Nat.succ.inj hl) (fun i d w h1 h2 => h (i + 1) d w (by simpa using h1) (by simpa using h2)) q2)
  | [], n, _ :: _, ps, hl, _, _ => by cases hl
  | _ :: _, n, [], ps, hl, _, _ => by cases hl
end
end

/-! ### == and != -/
def eqS (x y : D) : Option Bool := match scV x, scV y with
  | some a, some b => if scal a b = true then some (decide (a = b)) else none
  | _, _ => none
def eqP (x y : D) : Option Bool := match toP x, toP y with
  | some a, some b => if SeqAt.shaped a = true ∧ SeqAt.shaped b = true then some (PyData.eqv a b) else none
  | _, _ => none
def eqD (x y : D) : Option Bool := match eqS x y with
  | some b => some b
  | none => eqP x y
def fEq : F
  | [x, y] => (eqD x.1 y.1).map fun b => (.bl b, 0)
  | _ => none
def fNe : F
  | [x, y] => (eqD x.1 y.1).map fun b => (.bl (!b), 0)
  | _ => none
section
variable {c : Zc}
theorem ru_eqD {k : Bool → Bool} {f : F} {r r' : R2} (hf : ∀ ts t, f ts = some t → ∃ x y b, ts = [x, y] ∧ eqD x.1 y.1 = some b ∧ t = (.bl (k b), 0))
    (h1 : ∀ {x y : V} {H : Hp} {Q : VK}, scal x y = true → Q (.bl (k (decide (x = y)))) H → r x y H Q)
    (h2 : ∀ {x y : V} {H : Hp} {Q : VK} {d e : PyData}, Dp c.K H x d → Dp c.K H y e → SeqAt.shaped d = true → SeqAt.shaped e = true → Q (.bl (k (PyData.eqv d e))) H → r' x y H Q) : RuZ c (r2 fun x y H Q => r x y H Q ∨ r' x y H Q) f := by
  intro Z H fp vs ts t Q e s h kk
  obtain ⟨x, y, b, rfl, e2, rfl⟩ := hf ts t e
  clear e
  have e := e2
  clear e2
  obtain ⟨u, v, rfl, hx, hy⟩ := tre2 h
  show r u v H Q ∨ r' u v H Q
  unfold eqD at e
  cases q : eqS x.1 y.1 with
  | some b' =>
    rw [q] at e
    cases e
    unfold eqS at q
    split at q
    · rename_i a a' e1 e2
      split at q
      · rename_i hs
        cases q
        rw [tre_sc hx e1, tre_sc hy e2]
        exact .inl (h1 hs (kF s kk .bl))
      · cases q
    · cases q
  | none =>
    rw [q] at e
    have e : eqP x.1 y.1 = some b := e
    unfold eqP at e
    split at e
    · rename_i a a' e1 e2
      split at e
      · rename_i hs
        cases e
        exact .inr (h2 (tre_dp s _ hx e1) (tre_dp s _ hy e2) hs.1 hs.2 (kF s kk .bl))
      · cases e
    · cases e
theorem ruEq : RuZ c (r2 fun x y H Q => rEq x y H Q ∨ rEqD c.K x y H Q) fEq := ru_eqD (k := id) (fun ts t e => by
    match ts, e with
    | [x, y], e =>
      simp only [fEq] at e
      cases q : eqD x.1 y.1 with
      | none => rw [q] at e; cases e
      | some b => rw [q] at e; cases e; exact ⟨x, y, b, rfl, q, rfl⟩) (fun a b => ⟨a, b⟩) fun a b d e f => ⟨_, _, a, b, d, e, f⟩
theorem ruNe : RuZ c (r2 fun x y H Q => rNe x y H Q ∨ rNeD c.K x y H Q) fNe := ru_eqD (k := fun b => !b) (fun ts t e => by
    match ts, e with
    | [x, y], e =>
      simp only [fNe] at e
      cases q : eqD x.1 y.1 with
      | none => rw [q] at e; cases e
      | some b => rw [q] at e; cases e; exact ⟨x, y, b, rfl, q, rfl⟩) (fun a b => ⟨a, b⟩) fun a b d e f => ⟨_, _, a, b, d, e, f⟩

/-! ### numbers -/
def fLt : F := fI0 fun i j => .bl (decide (i < j))
def fLe : F := fI0 fun i j => .bl (decide (i ≤ j))
def fGt : F := fI0 fun i j => .bl (decide (j < i))
def fGe : F := fI0 fun i j => .bl (decide (j ≤ i))
theorem ruLt : RuZ c (r2 (rI0 fun i j => .bl (decide (i < j)))) fLt := ruI0 fun _ _ _ => .bl
theorem ruLe : RuZ c (r2 (rI0 fun i j => .bl (decide (i ≤ j)))) fLe := ruI0 fun _ _ _ => .bl
theorem ruGt : RuZ c (r2 (rI0 fun i j => .bl (decide (j < i)))) fGt := ruI0 fun _ _ _ => .bl
theorem ruGe : RuZ c (r2 (rI0 fun i j => .bl (decide (j ≤ i)))) fGe := ruI0 fun _ _ _ => .bl
instance : ∀ i j, Decidable (CMul i j) := fun i j => by unfold CMul; infer_instance
instance : ∀ i j, Decidable (CDiv i j) := fun i j => by unfold CDiv; infer_instance
instance : ∀ i j, Decidable (CPow i j) := fun i j => by unfold CPow; infer_instance
def fSub : F := fI0 fun i j => .int (i - j)
def fMulI : F := fI CMul fun i j => .int (i * j)
def fDiv : F := fI CDiv fun i j => .int (i / j)
def fMod : F := fI (fun _ j => 0 < j) fun i j => .int (i % j)
def fPow : F := fI CPow fun i j => .int (i ^ j.toNat)
theorem ruSub : RuZ c (r2 (rI0 fun i j => .int (i - j))) fSub := ruI0 fun _ _ _ => .int
theorem ruMulI : RuZ c (r2 (rI CMul fun i j => .int (i * j))) fMulI := ruI fun _ _ _ => .int
theorem ruDiv : RuZ c (r2 (rI CDiv fun i j => .int (i / j))) fDiv := ruI fun _ _ _ => .int
theorem ruMod : RuZ c (r2 (rI (fun _ j => 0 < j) fun i j => .int (i % j))) fMod := ruI fun _ _ _ => .int
theorem ruPow : RuZ c (r2 (rI CPow fun i j => .int (i ^ j.toNat))) fPow := ruI fun _ _ _ => .int
/-- + -/
def fAddI : F := fI0 fun i j => .int (i + j)
def fAddL : F
  | [(.lst xs, n), (.lst ys, m)] => if n ≤ 1 ∧ m ≤ 1 ∧ xs.length + ys.length ≤ big then some (.lst (xs ++ ys), 1) else none
  | _ => none
def fAddT : F
  | [(.tup xs, n), (.tup ys, m)] => if n = 0 ∧ m = 0 ∧ xs.length + ys.length ≤ big then some (.tup (xs ++ ys), 0) else none
  | _ => none
def fAdd : F := fOr fAddI (fOr fAddS (fOr fAddL fAddT))
theorem one_le {n : Nat} (h : n ≤ 1) : n - 1 = 0 := by omega
theorem ruAddL : RuZ c (r2 rCat) fAddL := by
  intro Z H fp vs ts t Q e s h k
  match ts, e with
  | [(.lst xs, n), (.lst ys, m)], e =>
    obtain ⟨x, y, rfl, hx, hy⟩ := tre2 h
    simp only [fAddL] at e
    split at e
    · rename_i q
      cases e
      obtain ⟨a, vs, rfl, h1, h2, h3⟩ := tre_lst s hx
      obtain ⟨b, ws, rfl, k1, k2, k3⟩ := tre_lst s hy
      refine ⟨a, b, vs, ws, rfl, rfl, h1, k1, Nat.le_trans (by omega) big_le, fun p hp => ?_⟩
      refine kL s k (by simp [h2, k2]) (items_app h2 (fun i d w e1 e2 => ?_) fun i d w e1 e2 => ?_) p hp
      · have z := h3 i d w e1 e2; rw [one_le q.1] at z; exact tre_rf z
      · have z := k3 i d w e1 e2; rw [one_le q.2.1] at z; exact tre_rf z
    · cases e
theorem len0 {α β : Type} {xs : List α} {vs : List β} (h : xs.length = vs.length) : xs = [] ↔ vs = [] := by
  rw [← List.length_eq_zero_iff, ← List.length_eq_zero_iff, h]
theorem ruAddT : RuZ c (r2 (rCatA c.K)) fAddT := by
  intro Z H fp vs ts t Q e s h k
  match ts, e with
  | [(.tup xs, n), (.tup ys, m)], e =>
    obtain ⟨x, y, rfl, hx, hy⟩ := tre2 h
    simp only [fAddT] at e
    split at e
    · rename_i q
      cases e
      obtain ⟨rfl, rfl, q⟩ := q
      have fx := tre_rf hx
      have fy := tre_rf hy
      obtain ⟨a, vs, rfl, h1, h2, h3⟩ := tre_tup s hx
      obtain ⟨b, ws, rfl, k1, k2, k3⟩ := tre_tup s hy
      refine ⟨a, b, vs, ws, rfl, rfl, h1, k1, Nat.le_trans (by omega) big_le, fun e0 => ?_, fun _ e0 => ?_, fun _ _ p hp => ?_⟩
      · have := (len0 h2).mpr e0
        subst this
        exact kF s k fy
      · have := (len0 k2).mpr e0
        subst this
        rw [List.append_nil] at k
        exact kF s k fx
      · exact kT s k (by simp [h2, k2]) (items_app h2 (fun i d w e1 e2 => tre_rf (h3 i d w e1 e2)) fun i d w e1 e2 => tre_rf (k3 i d w e1 e2)) p hp
    · cases e
theorem ruAdd : RuZ c (r2 fun x y H Q => rI0 (fun i j => .int (i + j)) x y H Q ∨ (∃ i j, x = .str i ∧ y = .str j ∧ i.length + j.length ≤ sizeLine ∧ Q (.str (i ++ j)) H) ∨ rCat x y H Q ∨ rCatA c.K x y H Q) fAdd :=
  ruOr2 (ruI0 fun _ _ _ => .int) (ruOr2 ruAddS (ruOr2 ruAddL ruAddT))
end
section
variable {X : Cx} {c : Zc}
theorem opAdd (hK : c.K = X.K) : OpR X (binaryOp .Add) (fun x y H Q => rI0 (fun i j => .int (i + j)) x y H Q ∨ (∃ i j, x = .str i ∧ y = .str j ∧ i.length + j.length ≤ sizeLine ∧ Q (.str (i ++ j)) H) ∨ rCat x y H Q ∨ rCatA c.K x y H Q) :=
  op_add.or (op_add_str.or (op_cat.or (hK ▸ op_catA)))
theorem opEq (hK : c.K = X.K) (hu : X.A.units + 64 < cLine) : OpR X (compareOp .Eq) (fun x y H Q => rEq x y H Q ∨ rEqD c.K x y H Q) := op_eq.or (hK ▸ op_eqD hu)
theorem opNe (hK : c.K = X.K) (hu : X.A.units + 64 < cLine) : OpR X (compareOp .NotEq) (fun x y H Q => rNe x y H Q ∨ rNeD c.K x y H Q) := op_ne.or (hK ▸ op_neD hu)
end
end Z

namespace Z
open PySem L2
section
variable {c : Zc} {Z H : Hp} {fp : List Addr}
/-! ### in -/
def isSign (s : Str) : Option Nat := match s.cps.toList with
  | [k] => some k
  | _ => none
def inS : D → D → Option Bool
  | .str a, .str b => match isSign a with
    | some k => some (decide (k ∈ b.cps.toList))
    | none => none
  | _, _ => none
def inQ (x : D) (xs : List D) : Option Bool := match scV x, scVs xs with
  | some u, some us => some (inV u us)
  | _, _ => none
def kyV : D → Option Key
  | .int i => some (.inl i)
  | .str s => some (.inr s)
  | _ => none
def inD (x y : D) : Option Bool := match y with
  | .lst xs => inQ x xs
  | .tup xs => inQ x xs
  | .rol xs => inQ x xs
  | .dct kvs => match kyV x with
    | some k => some (kvs.any fun p => decide (p.1 = k))
    | none => none
  | .str _ => inS x y
  | _ => none
def fIn : F
  | [x, y] => (inD x.1 y.1).map fun b => (.bl b, 0)
  | _ => none
def fNotIn : F
  | [x, y] => (inD x.1 y.1).map fun b => (.bl (!b), 0)
  | _ => none
theorem isSign_eq {s : Str} {k : Nat} (h : isSign s = some k) : s = ⟨#[k]⟩ := by
  unfold isSign at h
  split at h
  · rename_i l e
    cases h
    obtain ⟨cps⟩ := s
    congr
    exact Array.toList_inj.mp e
  · cases h
theorem kyV_tre {v : V} {t : T} {k : Key} (h : Tre c Z H fp v t) (e : kyV t.1 = some k) : v = kV k := by
  obtain ⟨d, n⟩ := t
  cases d with
  | int i => cases e; exact tre_int h
  | str i => cases e; exact tre_str h
  | _ => cases e
def rInD (neg : Bool) : R2 := fun x y H Q => ∃ a o, y = .ref a ∧ DGet H a x o ∧ Q (.bl (if neg then !o.isSome else o.isSome)) H
theorem valV_any {κ α : Type} [DecidableEq κ] {k : κ} : ∀ {vs : List (κ × V)} {kvs : List (κ × α)}, kvs.map (·.1) = vs.map (·.1) → (valV vs k).isSome = kvs.any fun p => decide (p.1 = k)
  | [], [], _ => rfl
  | (k1, v) :: vs, (k2, d) :: kvs, h => by
    simp only [List.map_cons, List.cons.injEq] at h
    obtain ⟨h1, h2⟩ := h
    subst h1
    have ih := valV_any (k := k) h2
    by_cases q : k2 = k
    · subst q; simp [valV, List.find?, List.any]
    · simp only [valV, List.find?, decide_eq_false q, List.any, Bool.false_or] at ih ⊢
      exact ih
  | [], _ :: _, h => by cases h
  | _ :: _, [], h => by cases h
theorem ru_in {neg : Bool} {f : F} {r1 r2' r3 : R2} (hf : ∀ ts t, f ts = some t → ∃ x y b, ts = [x, y] ∧ inD x.1 y.1 = some b ∧ t = (.bl (if neg then !b else b), 0))
    (h1 : ∀ {x y : V} {H : Hp} {Q : VK}, rIn c.K neg x y H Q → r1 x y H Q) (h2 : ∀ {k : Nat} {z : Str} {H : Hp} {Q : VK}, Q (.bl (if neg then !decide (k ∈ z.cps.toList) else decide (k ∈ z.cps.toList))) H → r2' (.str ⟨#[k]⟩) (.str z) H Q) (h3 : ∀ {x y : V} {H : Hp} {Q : VK}, rInD neg x y H Q → r3 x y H Q) :
    RuZ c (r2 fun x y H Q => r1 x y H Q ∨ r2' x y H Q ∨ r3 x y H Q) f := by
  intro Z H fp vs ts t Q e s h kk
  obtain ⟨x, y, b, rfl, e2, rfl⟩ := hf ts t e
  obtain ⟨u, v, rfl, hx, hy⟩ := tre2 h
  show r1 u v H Q ∨ r2' u v H Q ∨ r3 u v H Q
  have seq : ∀ {xs : List D} {p : Addr} {vs : List V} {n : Nat}, inQ x.1 xs = some b → v = .ref p → (SqL c.K H p vs ∨ SqT c.K H p vs) → xs.length = vs.length → (∀ (i : Nat) d w, xs[i]? = some d → vs[i]? = some w → Tre c Z H fp w (d, n)) → r1 u v H Q := by
    intro xs p vs n e ev hs hl hx'
    unfold inQ at e
    split at e
    · rename_i a as e1 e3
      cases e
      have q := scVs_eq e3 hl hx'
      subst q
      rw [tre_sc hx e1, ev]
      exact h1 ⟨p, vs, rfl, hs, scV_flat e1, scVs_flat e3, kF s kk .bl⟩
    · cases e
  obtain ⟨dy, ny⟩ := y
  cases dy with
  | lst xs =>
    obtain ⟨p, vs, e4, k1, k2, k3⟩ := tre_lst s hy
    exact .inl (seq e2 e4 (.inl (.inl (.inl k1))) k2 k3)
  | tup xs =>
    obtain ⟨p, vs, e4, k1, k2, k3⟩ := tre_tup s hy
    exact .inl (seq e2 e4 (.inr k1) k2 k3)
  | rol xs =>
    obtain ⟨p, vs, e4, k1, k2, k3⟩ := tre_rol s hy
    exact .inl (seq (n := 0) e2 e4 (.inl k1) k2 fun i d w q1 q2 => rf_tre (k3 i d w q1 q2))
  | dct kvs =>
    obtain ⟨p, vs, e4, k1, k2, k3⟩ := tre_dct s hy
    simp only [inD] at e2
    cases q : kyV x.1 with
    | none => rw [q] at e2; cases e2
    | some k =>
      rw [q] at e2
      cases e2
      refine .inr (.inr (h3 ⟨p, valV vs k, e4, .inl ⟨vs, k, k1, kyV_tre hx q, rfl⟩, ?_⟩))
      rw [valV_any k2]
      exact kF s kk .bl
  | str z =>
    obtain ⟨dx, nx⟩ := x
    cases dx with
    | str a =>
      simp only [inD, inS] at e2
      cases q : isSign a with
      | none => rw [q] at e2; cases e2
      | some k =>
        rw [q] at e2
        cases e2
        have := isSign_eq q
        subst this
        rw [tre_str hx, tre_str hy]
        exact .inr (.inl (h2 (kF s kk .bl)))
    | _ => cases e2
  | _ => cases e2
theorem ruIn : RuZ c (r2 fun x y H Q => rIn c.K false x y H Q ∨ (∃ (k : Nat) (z : Str), x = .str ⟨#[k]⟩ ∧ y = .str z ∧ Q (.bl (decide (k ∈ z.cps.toList))) H) ∨ rInD false x y H Q) fIn :=
  ru_in (neg := false) (fun ts t e => by
    match ts, e with
    | [x, y], e =>
      simp only [fIn] at e
      cases q : inD x.1 y.1 with
      | none => rw [q] at e; cases e
      | some b => rw [q] at e; cases e; exact ⟨x, y, b, rfl, q, rfl⟩) (fun h => h) (fun h => ⟨_, _, rfl, rfl, h⟩) fun h => h
theorem ruNotIn : RuZ c (r2 fun x y H Q => rIn c.K true x y H Q ∨ (∃ (k : Nat) (z : Str), x = .str ⟨#[k]⟩ ∧ y = .str z ∧ Q (.bl (!decide (k ∈ z.cps.toList))) H) ∨ rInD true x y H Q) fNotIn :=
  ru_in (neg := true) (fun ts t e => by
    match ts, e with
    | [x, y], e =>
      simp only [fNotIn] at e
      cases q : inD x.1 y.1 with
      | none => rw [q] at e; cases e
      | some b => rw [q] at e; cases e; exact ⟨x, y, b, rfl, q, rfl⟩) (fun h => h) (fun h => ⟨_, _, rfl, rfl, h⟩) fun h => h

/-! ### len, abs, int -/
def lenD : D → Option Int
  | .str a => if a.length ≤ big then some (a.length : Int) else none
  | .lst xs => some (xs.length : Int)
  | .tup xs => some (xs.length : Int)
  | .rol xs => some (xs.length : Int)
  | .dct kvs => some (kvs.length : Int)
  | _ => none
def fLen : F
  | [x] => (lenD x.1).map fun n => (.int n, 0)
  | _ => none
def rLenRd : List V → Hp → VK → Prop := fun xs H Q => ∃ a kvs, xs = [V.ref a] ∧ Rd H a (.dK kvs) ∧ Q (.int kvs.length) H
theorem ruLen : RuZ c (fun xs H Q => (∃ x n, xs = [x] ∧ LenV c.K x H n ∧ Q (.int n) H) ∨ rLenRd xs H Q) fLen := by
  intro Z H fp vs ts t Q e s h k
  match ts, e with
  | [(d, n)], e =>
    obtain ⟨x, rfl, hx⟩ := tre1 h
    cases d with
    | str a =>
      simp only [fLen, lenD] at e
      split at e
      · rename_i q
        cases e
        exact .inl ⟨_, a.length, rfl, by rw [tre_str hx]; exact ⟨Nat.le_trans q big_le, rfl⟩, kF s k .int⟩
      · cases e
    | lst xs =>
      cases e
      obtain ⟨a, vs, rfl, k1, k2, k3⟩ := tre_lst s hx
      exact .inl ⟨_, xs.length, rfl, .inl ⟨vs, .inl (.inl k1), k2⟩, kF s k .int⟩
    | rol xs =>
      cases e
      obtain ⟨a, vs, rfl, k1, k2, k3⟩ := tre_rol s hx
      exact .inl ⟨_, xs.length, rfl, .inl ⟨vs, k1, k2⟩, kF s k .int⟩
    | tup xs =>
      cases e
      obtain ⟨a, vs, rfl, k1, k2, k3⟩ := tre_tup s hx
      exact .inl ⟨_, xs.length, rfl, .inr ⟨vs, k1, k2⟩, kF s k .int⟩
    | dct kvs =>
      cases e
      obtain ⟨a, vs, rfl, k1, k2, k3⟩ := tre_dct s hx
      have hl : kvs.length = vs.length := by have := congrArg List.length k2; simpa using this
      refine .inr ⟨a, vs, rfl, k1, ?_⟩
      rw [← hl]
      exact kF s k .int
    | _ => cases e
def fAbs : F
  | [(.int i, _)] => some (.int (if i < 0 then -i else i), 0)
  | _ => none
theorem ruAbs : RuZ c (fun xs H Q => ∃ i, xs = [.int i] ∧ Q (.int (if i < 0 then -i else i)) H) fAbs := by
  intro Z H fp vs ts t Q e s h k
  match ts, e with
  | [(.int i, n)], e =>
    obtain ⟨x, rfl, hx⟩ := tre1 h
    cases e
    exact ⟨i, by rw [tre_int hx], kF s k .int⟩
def fInt : F
  | [(.int i, _)] => some (.int i, 0)
  | [(.bl b, _)] => some (.int (if b then 1 else 0), 0)
  | _ => none
theorem ruInt : RuZ c (fun xs H Q => (∃ i, xs = [.int i] ∧ Q (.int i) H) ∨ ∃ k, xs = [.bl k] ∧ Q (.int (if k then 1 else 0)) H) fInt := by
  intro Z H fp vs ts t Q e s h k
  match ts, e with
  | [(.int i, n)], e =>
    obtain ⟨x, rfl, hx⟩ := tre1 h
    cases e
    exact .inl ⟨i, by rw [tre_int hx], kF s k .int⟩
  | [(.bl i, n)], e =>
    obtain ⟨x, rfl, hx⟩ := tre1 h
    cases e
    exact .inr ⟨i, by rw [tre_bl hx], kF s k .int⟩

/-! ### x[i] -/
def ixD : D → D → Option D
  | .lst xs, .int i => atI xs i
  | .tup xs, .int i => atI xs i
  | .rol xs, .int i => atI xs i
  | .str a, .int i => if a.length ≤ big then (atI a.cps.toList i).map fun k => .str ⟨#[k]⟩ else none
  | _, _ => none
def fIx : F
  | [(x, n), y] => if n ≤ 1 then (ixD x y.1).map fun d => (d, 0) else none
  | _ => none
theorem atI_rel {α β : Type} {xs : List α} {vs : List β} {i : Int} {d : α} (hl : xs.length = vs.length) (h : atI xs i = some d) : ∃ (j : Nat) (w : β), xs[j]? = some d ∧ vs[j]? = some w ∧ atI vs i = some w := by
  unfold atI at h
  cases q : ixN xs.length i with
  | none => rw [q] at h; cases h
  | some j =>
    rw [q] at h
    have h : xs[j]? = some d := h
    have hj : j < vs.length := by rw [← hl]; exact (List.getElem?_eq_some_iff.mp h).1
    refine ⟨j, vs[j], h, List.getElem?_eq_getElem hj, ?_⟩
    unfold atI
    rw [← hl, q]
    exact List.getElem?_eq_getElem hj
theorem ruIx : RuZ c (r2 (rIx c.K)) fIx := by
  intro Z H fp vs ts t Q e s h k
  match ts, e with
  | [(d, n), (y, m)], e =>
    obtain ⟨u, v, rfl, hx, hy⟩ := tre2 h
    simp only [fIx] at e
    split at e
    · rename_i hn
      cases y with
      | int i =>
        have ev := tre_int hy
        subst ev
        cases d with
        | lst xs =>
          cases q : atI xs i with
          | none => simp only [ixD, q] at e; cases e
          | some d' =>
            simp only [ixD, q] at e
            cases e
            obtain ⟨a, vs, rfl, k1, k2, k3⟩ := tre_lst s hx
            obtain ⟨j, w, e1, e2, e3⟩ := atI_rel k2 q
            have z := k3 j d' w e1 e2
            rw [one_le hn] at z
            exact .inl ⟨a, vs, i, w, rfl, rfl, .inl (.inl k1), e3, kF s k (tre_rf z)⟩
        | rol xs =>
          cases q : atI xs i with
          | none => simp only [ixD, q] at e; cases e
          | some d' =>
            simp only [ixD, q] at e
            cases e
            obtain ⟨a, vs, rfl, k1, k2, k3⟩ := tre_rol s hx
            obtain ⟨j, w, e1, e2, e3⟩ := atI_rel k2 q
            exact .inl ⟨a, vs, i, w, rfl, rfl, k1, e3, kF s k (k3 j d' w e1 e2)⟩
        | tup xs =>
          cases q : atI xs i with
          | none => simp only [ixD, q] at e; cases e
          | some d' =>
            simp only [ixD, q] at e
            cases e
            obtain ⟨a, vs, rfl, k1, k2, k3⟩ := tre_tup s hx
            obtain ⟨j, w, e1, e2, e3⟩ := atI_rel k2 q
            have z := k3 j d' w e1 e2
            rw [one_le hn] at z
            exact .inr (.inl ⟨a, vs, i, w, rfl, rfl, k1, e3, kF s k (tre_rf z)⟩)
        | str a =>
          simp only [ixD] at e
          split at e
          · rename_i ha
            cases q : atI a.cps.toList i with
            | none => rw [q] at e; cases e
            | some c' =>
              rw [q] at e
              cases e
              exact .inr (.inr ⟨a, i, c', by rw [tre_str hx], rfl, Nat.le_trans ha big_le, q, kF s k .str⟩)
          · cases e
        | _ => cases e
      | _ => cases d <;> cases e
    · cases e
/-- d[k] of a dict that has it -/
def dgetD : D → D → Option D
  | .dct kvs, y => match kyV y with
    | some k => (kvs.find? fun p => decide (p.1 = k)).map (·.2)
    | none => none
  | _, _ => none
def fDget : F
  | [(x, n), y] => if n ≤ 1 then (dgetD x y.1).map fun d => (d, 0) else none
  | _ => none
theorem find_rel {κ α : Type} [DecidableEq κ] {k : κ} {d : α} : ∀ {kvs : List (κ × α)} {vs : List (κ × V)}, kvs.map (·.1) = vs.map (·.1) → (kvs.find? fun p => decide (p.1 = k)).map (·.2) = some d → ∃ (j : Nat) (w : V), (kvs.map (·.2))[j]? = some d ∧ (vs.map (·.2))[j]? = some w ∧ valV vs k = some w
  | [], [], _, h => by cases h
  | (k1, d1) :: kvs, (k2, v) :: vs, e, h => by
    simp only [List.map_cons, List.cons.injEq] at e
    obtain ⟨e1, e2⟩ := e
    subst e1
    by_cases q : k1 = k
    · subst q
      simp [List.find?] at h
      subst h
      exact ⟨0, v, rfl, rfl, by simp [valV, List.find?]⟩
    · simp only [List.find?, decide_eq_false q] at h
      obtain ⟨j, w, h1, h2, h3⟩ := find_rel e2 h
      exact ⟨j + 1, w, by simpa using h1, by simpa using h2, by simpa [valV, List.find?, q] using h3⟩
  | [], _ :: _, e, _ => by cases e
  | _ :: _, [], e, _ => by cases e
def rDget : R2 := fun x y H Q => ∃ a v, x = .ref a ∧ DGet H a y (some v) ∧ Q v H
theorem ruDget : RuZ c (r2 rDget) fDget := by
  intro Z H fp vs ts t Q e s h k
  match ts, e with
  | [(d, n), (y, m)], e =>
    obtain ⟨u, v, rfl, hx, hy⟩ := tre2 h
    simp only [fDget] at e
    split at e
    · rename_i hn
      cases d with
      | dct kvs =>
        simp only [dgetD] at e
        cases q : kyV y with
        | none => rw [q] at e; cases e
        | some ky =>
          rw [q] at e
          cases q2 : (kvs.find? fun p => decide (p.1 = ky)).map (·.2) with
          | none => simp only [q2] at e; cases e
          | some d' =>
            simp only [q2] at e
            cases e
            obtain ⟨a, vs, rfl, k1, k2, k3⟩ := tre_dct s hx
            obtain ⟨j, w, e1, e2, e3⟩ := find_rel k2 q2
            have z := k3 j d' w e1 e2
            rw [one_le hn] at z
            exact ⟨a, w, rfl, .inl ⟨vs, ky, k1, kyV_tre hy q, e3.symm⟩, kF s k (tre_rf z)⟩
      | _ => cases e
    · cases e
/-! ### list(x), tuple(x) -/
def fList : F
  | [(d, n)] => if n ≤ 1 then (match d with
    | .lst xs => some (.lst xs, 1)
    | .tup xs => some (.lst xs, 1)
    | .rol xs => some (.lst xs, 1)
    | _ => none) else none
  | _ => none
theorem ruList : RuZ c (fun xs H Q => ∃ p ys, xs = [.ref p] ∧ (SqL c.K H p ys ∨ SqT c.K H p ys) ∧ ∀ l, H l = none → Q (.ref l) (upd H l (.lst ys))) fList := by
  intro Z H fp vs ts t Q e s h k
  match ts, e with
  | [(d, n)], e =>
    obtain ⟨x, rfl, hx⟩ := tre1 h
    simp only [fList] at e
    split at e
    · rename_i hn
      cases d with
      | lst xs =>
        cases e
        obtain ⟨a, vs, rfl, k1, k2, k3⟩ := tre_lst s hx
        rw [one_le hn] at k3
        exact ⟨a, vs, rfl, .inl (.inl (.inl k1)), kL s k k2 fun i d w h1 h2 => tre_rf (k3 i d w h1 h2)⟩
      | tup xs =>
        cases e
        obtain ⟨a, vs, rfl, k1, k2, k3⟩ := tre_tup s hx
        rw [one_le hn] at k3
        exact ⟨a, vs, rfl, .inr k1, kL s k k2 fun i d w h1 h2 => tre_rf (k3 i d w h1 h2)⟩
      | rol xs =>
        cases e
        obtain ⟨a, vs, rfl, k1, k2, k3⟩ := tre_rol s hx
        exact ⟨a, vs, rfl, .inl k1, kL s k k2 k3⟩
      | _ => cases e
    · cases e
def fTup : F
  | [(d, n)] => if n ≤ 1 then (match d with
    | .lst xs => some (.tup xs, 0)
    | .rol xs => some (.tup xs, 0)
    | .tup xs => if n = 0 then some (.tup xs, 0) else none
    | _ => none) else none
  | _ => none
theorem ruTup : RuZ c (fun xs H Q => ∃ p ys, xs = [.ref p] ∧ ((SqL c.K H p ys ∧ ∀ l, H l = none → Q (.ref l) (upd H l (.tup ys))) ∨ (SqT c.K H p ys ∧ Q (.ref p) H))) fTup := by
  intro Z H fp vs ts t Q e s h k
  match ts, e with
  | [(d, n)], e =>
    obtain ⟨x, rfl, hx⟩ := tre1 h
    simp only [fTup] at e
    split at e
    · rename_i hn
      cases d with
      | lst xs =>
        cases e
        obtain ⟨a, vs, rfl, k1, k2, k3⟩ := tre_lst s hx
        rw [one_le hn] at k3
        exact ⟨a, vs, rfl, .inl ⟨.inl (.inl k1), kT s k k2 fun i d w h1 h2 => tre_rf (k3 i d w h1 h2)⟩⟩
      | rol xs =>
        cases e
        obtain ⟨a, vs, rfl, k1, k2, k3⟩ := tre_rol s hx
        exact ⟨a, vs, rfl, .inl ⟨k1, kT s k k2 k3⟩⟩
      | tup xs =>
        simp only at e
        split at e
        · rename_i h0
          cases e
          subst h0
          have r := tre_rf hx
          obtain ⟨a, vs, rfl, k1, k2, k3⟩ := tre_tup s hx
          exact ⟨a, vs, rfl, .inr ⟨k1, kF s k r⟩⟩
        · cases e
      | _ => cases e
    · cases e
/-! ### all, any -/
def blsOf : List D → Option (List Bool)
  | [] => some []
  | .bl b :: r => (blsOf r).map (b :: ·)
  | _ => none
theorem blsOf_eq {n : Nat} : ∀ {xs : List D} {vs : List V} {bs : List Bool}, blsOf xs = some bs → xs.length = vs.length → (∀ (i : Nat) d w, xs[i]? = some d → vs[i]? = some w → Tre c Z H fp w (d, n)) → vs = bs.map V.bl
  | [], [], bs, e, _, _ => by cases e; rfl
  | .bl b :: xs, w :: vs, bs, e, hl, h => by
    cases q : blsOf xs with
    | none => simp only [blsOf, q] at e; cases e
    | some bs' =>
      simp only [blsOf, q, Option.map_some, Option.some.injEq] at e
      subst e
      rw [tre_bl (h 0 _ w rfl rfl), blsOf_eq q (Nat.succ.inj hl) fun i d w h1 h2 => h (i + 1) d w (by simpa using h1) (by simpa using h2)]
      rfl
  | [], _ :: _, _, _, hl, _ => by cases hl
  | _ :: _, [], _, _, hl, _ => by cases hl
  | .non :: _, _ :: _, _, e, _, _ => by cases e
  | .int _ :: _, _ :: _, _, e, _, _ => by cases e
  | .str _ :: _, _ :: _, _, e, _, _ => by cases e
  | .lst _ :: _, _ :: _, _, e, _, _ => by cases e
  | .tup _ :: _, _ :: _, _, e, _, _ => by cases e
  | .dct _ :: _, _ :: _, _, e, _, _ => by cases e
  | .obj _ _ :: _, _ :: _, _, e, _, _ => by cases e
  | .rol _ :: _, _ :: _, _, e, _, _ => by cases e
def fAll : F
  | [(.lst xs, _)] => (blsOf xs).map fun bs => (.bl (bs.all id), 0)
  | _ => none
def fAny : F
  | [(.lst xs, _)] => (blsOf xs).map fun bs => (.bl (bs.any id), 0)
  | _ => none
theorem ruAll : RuZ c (rAll c.K) fAll := by
  intro Z H fp vs ts t Q e s h k
  match ts, e with
  | [(.lst xs, n)], e =>
    obtain ⟨x, rfl, hx⟩ := tre1 h
    simp only [fAll] at e
    cases q : blsOf xs with
    | none => rw [q] at e; cases e
    | some bs =>
      rw [q] at e
      cases e
      obtain ⟨a, vs, rfl, k1, k2, k3⟩ := tre_lst s hx
      rw [blsOf_eq q k2 k3] at k1
      exact ⟨a, bs, rfl, .inl (.inl k1), kF s k .bl⟩
theorem ruAny : RuZ c (rAny c.K) fAny := by
  intro Z H fp vs ts t Q e s h k
  match ts, e with
  | [(.lst xs, n)], e =>
    obtain ⟨x, rfl, hx⟩ := tre1 h
    simp only [fAny] at e
    cases q : blsOf xs with
    | none => rw [q] at e; cases e
    | some bs =>
      rw [q] at e
      cases e
      obtain ⟨a, vs, rfl, k1, k2, k3⟩ := tre_lst s hx
      rw [blsOf_eq q k2 k3] at k1
      exact ⟨a, bs, rfl, .inl (.inl k1), kF s k .bl⟩
end

section
variable {X : Cx} {c : Zc}
theorem op_inD (hu : X.A.units + 1 < cLine) : OpR X (compareOp .In) (rInD false) := by
  intro pins s σ H x y v u Q I rx ry h
  obtain ⟨a, o, rfl, g, q⟩ := h
  cases ry
  exact d_in hu I g rx fun s' I' => ⟨.bl o.isSome, H, I', rfl, q⟩
theorem op_notInD (hu : X.A.units + 1 < cLine) : OpR X (compareOp .NotIn) (rInD true) := by
  intro pins s σ H x y v u Q I rx ry h
  obtain ⟨a, o, rfl, g, q⟩ := h
  cases ry
  exact d_notIn hu I g rx fun s' I' => ⟨.bl (!o.isSome), H, I', rfl, q⟩
theorem opIn (hK : c.K = X.K) (hu : X.A.units + 1 < cLine) : OpR X (compareOp .In) (fun x y H Q => rIn c.K false x y H Q ∨ (∃ (k : Nat) (z : Str), x = .str ⟨#[k]⟩ ∧ y = .str z ∧ Q (.bl (decide (k ∈ z.cps.toList))) H) ∨ rInD false x y H Q) :=
  OpR.or (hK ▸ op_in_seq) (op_in_sign.or (op_inD hu))
theorem opNotIn (hK : c.K = X.K) (hu : X.A.units + 1 < cLine) : OpR X (compareOp .NotIn) (fun x y H Q => rIn c.K true x y H Q ∨ (∃ (k : Nat) (z : Str), x = .str ⟨#[k]⟩ ∧ y = .str z ∧ Q (.bl (!decide (k ∈ z.cps.toList))) H) ∨ rInD true x y H Q) :=
  OpR.or (hK ▸ op_notIn_seq) (op_notIn_sign.or (op_notInD hu))
theorem crLen (hK : c.K = X.K) : CallR X (.builtin "len") (fun xs H Q => (∃ x n, xs = [x] ∧ LenV c.K x H n ∧ Q (.int n) H) ∨ rLenRd xs H Q) := by
  refine CallR.or (hK ▸ call_len) ?_
  intro pins s σ H xs us Q I r h
  obtain ⟨a, kvs, rfl, ha, q⟩ := h
  obtain ⟨u, rfl, ru⟩ := vals1 r
  cases ru
  exact d_len I ha fun t s' I' => ⟨.int kvs.length, H, I', ⟨t, rfl⟩, q⟩
end
end Z

namespace Z
open PySem L2
section
variable {c : Zc} {Z H : Hp} {fp : List Addr}
/-! ### slices -/
def cutD {α : Type} (xs : List α) (lo hi : Option Int) : List α := (xs.drop (HT.sIx xs.length 0 lo)).take (HT.sIx xs.length xs.length hi - HT.sIx xs.length 0 lo)
def slD (lo hi : Option Int) : T → Option T
  | (.lst xs, n) => if n ≤ 1 then some (.lst (cutD xs lo hi), 1) else none
  | (.rol xs, _) => some (.lst (cutD xs lo hi), 1)
  | (.tup xs, 0) => some (.tup (cutD xs lo hi), 0)
  | (.str a, _) => if a.length ≤ big then some (.str (cutS a lo hi), 0) else none
  | _ => none
def rSlAll (K : PySem.W.Frag) : V → Option Int → Option Int → Hp → VK → Prop := fun x lo hi H Q => rSlL K x lo hi H Q ∨ rSlA K x lo hi H Q ∨ rSlS x lo hi H Q
theorem cut_items {xs : List D} {vs : List V} {lo hi : Option Int} (hl : xs.length = vs.length) (h : ∀ (i : Nat) d w, xs[i]? = some d → vs[i]? = some w → RF c Z d w) : (cutD xs lo hi).length = (cutV vs lo hi).length ∧ ∀ (i : Nat) d w, (cutD xs lo hi)[i]? = some d → (cutV vs lo hi)[i]? = some w → RF c Z d w := by
  unfold cutD cutV
  rw [hl]
  refine ⟨by simp [hl], fun i d w h1 h2 => ?_⟩
  rw [List.getElem?_take] at h1 h2
  split at h1
  · rename_i q
    rw [if_pos q] at h2
    rw [List.getElem?_drop] at h1 h2
    exact h _ d w h1 h2
  · cases h1
theorem cut_all {α : Type} {xs : List α} {lo hi : Option Int} (h : HT.sIx xs.length 0 lo = 0 ∧ HT.sIx xs.length xs.length hi = xs.length) : cutD xs lo hi = xs := by
  unfold cutD
  rw [h.1, h.2]
  simp
theorem sl_ok {lo hi : Option Int} {t t' : T} {v : V} {Q : VK} (s : Sub Z H) (h : Tre c Z H fp v t) (e : slD lo hi t = some t') (k : ∀ Z' H' w g, Al Z H Z' H' g → RT c Z' H' t'.2 t'.1 w g → Q w H') : rSlAll c.K v lo hi H Q := by
  obtain ⟨d, n⟩ := t
  cases d with
  | lst xs =>
    simp only [slD] at e
    split at e
    · rename_i hn
      cases e
      obtain ⟨a, vs, rfl, k1, k2, k3⟩ := tre_lst s h
      rw [one_le hn] at k3
      obtain ⟨c1, c2⟩ := cut_items (lo := lo) (hi := hi) k2 fun i d w h1 h2 => tre_rf (k3 i d w h1 h2)
      exact .inl ⟨a, vs, rfl, .inl (.inl k1), kL s k c1 c2⟩
    · cases e
  | rol xs =>
    cases e
    obtain ⟨a, vs, rfl, k1, k2, k3⟩ := tre_rol s h
    obtain ⟨c1, c2⟩ := cut_items (lo := lo) (hi := hi) k2 k3
    exact .inl ⟨a, vs, rfl, k1, kL s k c1 c2⟩
  | tup xs =>
    cases n with
    | succ n => cases e
    | zero =>
      cases e
      have r := tre_rf h
      obtain ⟨a, vs, rfl, k1, k2, k3⟩ := tre_tup s h
      obtain ⟨c1, c2⟩ := cut_items (lo := lo) (hi := hi) k2 fun i d w h1 h2 => tre_rf (k3 i d w h1 h2)
      refine .inr (.inl ⟨a, vs, rfl, k1, fun q => ?_, fun _ => kT s k c1 c2⟩)
      rw [← k2] at q
      have ec := cut_all q
      simp only [ec] at k
      exact kF s k r
  | str a =>
    simp only [slD] at e
    split at e
    · rename_i q
      cases e
      exact .inr (.inr ⟨a, tre_str h, Nat.le_trans q big_le, kF s k .str⟩)
    · cases e
  | _ => cases e

/-! ### texts -/
def repS (n : Nat) (s : Str) : Str := ⟨(List.replicate n s.cps.toList).flatten.toArray⟩
def fMulS : F
  | [(.str a, _), (.int n, _)] => if n < 1000000 ∧ -1000000 < n ∧ a.length ≤ 10 then some (.str (repS n.toNat a), 0) else none
  | _ => none
def rMulS : R2 := fun x y H Q => ∃ a n, x = .str a ∧ y = .int n ∧ n < 1000000 ∧ -1000000 < n ∧ a.length ≤ 10 ∧ Q (.str (repS n.toNat a)) H
theorem ruMulS : RuZ c (r2 rMulS) fMulS := by
  intro Z H fp vs ts t Q e s h k
  match ts, e with
  | [(.str a, _), (.int n, _)], e =>
    obtain ⟨x, y, rfl, hx, hy⟩ := tre2 h
    simp only [fMulS] at e
    split at e
    · rename_i q
      cases e
      exact ⟨a, n, tre_str hx, tre_int hy, q.1, q.2.1, q.2.2, kF s k .str⟩
    · cases e
def fRepL : F
  | [(.lst xs, n), (.int k, _)] => if n ≤ 1 ∧ -(2 ^ 63) ≤ k ∧ k < 2 ^ 63 ∧ xs.length * k.toNat ≤ big then some (.lst (List.replicate k.toNat xs).flatten, 1) else none
  | _ => none
theorem rep_items {xs : List D} {vs : List V} (hl : xs.length = vs.length) (h : ∀ (i : Nat) d w, xs[i]? = some d → vs[i]? = some w → RF c Z d w) : ∀ n : Nat, (List.replicate n xs).flatten.length = (List.replicate n vs).flatten.length ∧ ∀ (i : Nat) d w, (List.replicate n xs).flatten[i]? = some d → (List.replicate n vs).flatten[i]? = some w → RF c Z d w
  | 0 => ⟨rfl, fun i d w h => by simp at h⟩
  | n + 1 => by
    obtain ⟨h1, h2⟩ := rep_items hl h n
    refine ⟨by simp [hl], ?_⟩
    rw [List.replicate_succ, List.replicate_succ, List.flatten_cons, List.flatten_cons]
    exact items_app hl h h2
theorem ruRepL : RuZ c (r2 rRep) fRepL := by
  intro Z H fp vs ts t Q e s h k
  match ts, e with
  | [(.lst xs, n), (.int j, _)], e =>
    obtain ⟨x, y, rfl, hx, hy⟩ := tre2 h
    simp only [fRepL] at e
    split at e
    · rename_i q
      cases e
      obtain ⟨a, vs, rfl, k1, k2, k3⟩ := tre_lst s hx
      rw [one_le q.1] at k3
      obtain ⟨c1, c2⟩ := rep_items k2 (fun i d w h1 h2 => tre_rf (k3 i d w h1 h2)) j.toNat
      refine ⟨a, j, vs, rfl, tre_int hy, k1, q.2.1, q.2.2.1, Nat.le_trans (by rw [← k2]; exact q.2.2.2) big_le, kL s k c1 c2⟩
    · cases e
def fMul : F := fOr fMulI (fOr fMulS fRepL)
theorem ruMul : RuZ c (r2 fun x y H Q => rI CMul (fun i j => .int (i * j)) x y H Q ∨ rMulS x y H Q ∨ rRep x y H Q) fMul := ruOr2 ruMulI (ruOr2 ruMulS ruRepL)
def strsOf : List D → Option (List Str)
  | [] => some []
  | .str b :: r => (strsOf r).map (b :: ·)
  | _ => none
theorem strsOf_eq {n : Nat} : ∀ {xs : List D} {vs : List V} {bs : List Str}, strsOf xs = some bs → xs.length = vs.length → (∀ (i : Nat) d w, xs[i]? = some d → vs[i]? = some w → Tre c Z H fp w (d, n)) → vs = bs.map V.str
  | [], [], bs, e, _, _ => by cases e; rfl
  | .str b :: xs, w :: vs, bs, e, hl, h => by
    cases q : strsOf xs with
    | none => simp only [strsOf, q] at e; cases e
    | some bs' =>
      simp only [strsOf, q, Option.map_some, Option.some.injEq] at e
      subst e
      rw [tre_str (h 0 _ w rfl rfl), strsOf_eq q (Nat.succ.inj hl) fun i d w h1 h2 => h (i + 1) d w (by simpa using h1) (by simpa using h2)]
      rfl
  | [], _ :: _, _, _, hl, _ => by cases hl
  | _ :: _, [], _, _, hl, _ => by cases hl
  | .non :: _, _ :: _, _, e, _, _ => by cases e
  | .int _ :: _, _ :: _, _, e, _, _ => by cases e
  | .bl _ :: _, _ :: _, _, e, _, _ => by cases e
  | .lst _ :: _, _ :: _, _, e, _, _ => by cases e
  | .tup _ :: _, _ :: _, _, e, _, _ => by cases e
  | .dct _ :: _, _ :: _, _, e, _, _ => by cases e
  | .obj _ _ :: _, _ :: _, _, e, _, _ => by cases e
  | .rol _ :: _, _ :: _, _, e, _, _ => by cases e
/-- a.join(xs) -/
def joinF (a : Str) (xs : List D) : Option T := match strsOf xs with
  | some ys => if (ys.map (·.length)).sum + ys.length * a.length ≤ big then some (.str (Txt.join a ys), 0) else none
  | none => none
def fJoin : F
  | [(.str a, _), (.lst xs, _)] => joinF a xs
  | [(.str a, _), (.tup xs, _)] => joinF a xs
  | _ => none
def rMt1 (r : V → List V → Hp → VK → Prop) : List V → Hp → VK → Prop := fun vs H Q => match vs with
  | x :: xs => r x xs H Q
  | [] => False
theorem ruJoin : RuZ c (rMt1 fun x xs H Q => ∃ a p, ∃ ys : List Str, x = .str a ∧ xs = [.ref p] ∧ (SqL c.K H p (ys.map V.str) ∨ SqT c.K H p (ys.map V.str)) ∧ (ys.map (·.length)).sum + ys.length * a.length ≤ 16777216 ∧ Q (.str (Txt.join a ys)) H) fJoin := by
  intro Z H fp vs ts t Q e s h k
  have big16 : big ≤ 16777216 := by decide
  match ts, e with
  | [(.str a, _), (.lst xs, _)], e =>
    obtain ⟨x, y, rfl, hx, hy⟩ := tre2 h
    simp only [fJoin, joinF] at e
    split at e
    · rename_i ys q
      split at e
      · rename_i q2
        cases e
        obtain ⟨p, vs, rfl, k1, k2, k3⟩ := tre_lst s hy
        rw [strsOf_eq q k2 k3] at k1
        exact ⟨a, p, ys, tre_str hx, rfl, .inl (.inl (.inl k1)), Nat.le_trans q2 big16, kF s k .str⟩
      · cases e
    · cases e
  | [(.str a, _), (.tup xs, _)], e =>
    obtain ⟨x, y, rfl, hx, hy⟩ := tre2 h
    simp only [fJoin, joinF] at e
    split at e
    · rename_i ys q
      split at e
      · rename_i q2
        cases e
        obtain ⟨p, vs, rfl, k1, k2, k3⟩ := tre_tup s hy
        rw [strsOf_eq q k2 k3] at k1
        exact ⟨a, p, ys, tre_str hx, rfl, .inr k1, Nat.le_trans q2 big16, kF s k .str⟩
      · cases e
    · cases e
/-- a.split(b) -/
def fSplit : F
  | [(.str a, _), (.str b, _)] => if (b.length == 0) = false ∧ a.length + 2 ≤ big then some (.lst ((Txt.split a b).map D.str), 1) else none
  | _ => none
theorem strs_items {ys : List Str} : (ys.map D.str).length = (ys.map V.str).length ∧ ∀ (i : Nat) d w, (ys.map D.str)[i]? = some d → (ys.map V.str)[i]? = some w → RF c Z d w := by
  refine ⟨by simp, fun i d w h1 h2 => ?_⟩
  rw [List.getElem?_map] at h1 h2
  cases q : ys[i]? with
  | none => rw [q] at h1; cases h1
  | some y =>
    rw [q] at h1 h2
    cases h1
    cases h2
    exact .str
theorem ruSplit : RuZ c (rMt1 fun x xs H Q => ∃ a b, x = .str a ∧ xs = [.str b] ∧ (b.length == 0) = false ∧ a.length + 2 ≤ sizeLine ∧ rNewStrs (Txt.split a b) H Q) fSplit := by
  intro Z H fp vs ts t Q e s h k
  match ts, e with
  | [(.str a, _), (.str b, _)], e =>
    obtain ⟨x, y, rfl, hx, hy⟩ := tre2 h
    simp only [fSplit] at e
    split at e
    · rename_i q
      cases e
      exact ⟨a, b, tre_str hx, by rw [tre_str hy], q.1, Nat.le_trans q.2 big_le, kL s k (strs_items (c := c) (Z := Z) (ys := Txt.split a b)).1 (strs_items (c := c) (Z := Z) (ys := Txt.split a b)).2⟩
    · cases e
/-! ### isinstance of a built-in class -/
def tyN : D → Option String
  | .non => some "NoneType"
  | .bl _ => some "bool"
  | .int _ => some "int"
  | .str _ => some "str"
  | .lst _ => some "list"
  | .tup _ => some "tuple"
  | _ => none
def fIsi (Tn : String) : F
  | [(d, n)] => match tyN d with
    | some t => (kitB t Tn).map fun b => (.bl b, 0)
    | none => none
  | _ => none
theorem tre_ty {v : V} {d : D} {n : Nat} {t : String} (s : Sub Z H) (h : Tre c Z H fp v (d, n)) (e : tyN d = some t) : TyX c.K H v (.type t) := by
  cases d with
  | non => cases e; rw [tre_non h]; exact .base .non
  | bl b => cases e; rw [tre_bl h]; exact .base (.bl b)
  | int b => cases e; rw [tre_int h]; exact .base (.int b)
  | str b => cases e; rw [tre_str h]; exact .base (.str b)
  | lst xs =>
    cases e
    obtain ⟨a, vs, rfl, k1, _⟩ := tre_lst s h
    exact .base (.lst k1)
  | tup xs =>
    cases e
    obtain ⟨a, vs, rfl, k1, _⟩ := tre_tup s h
    rcases k1 with k1 | ⟨o, its, m, k1, k2, _⟩
    · rcases k1 with k1 | ⟨o, k1⟩
      · exact .base (.tup k1)
      · exact .fTuple k1
    · exact .kTuple k1 k2
  | _ => cases e
theorem ruIsi {Tn : String} : RuZ c (r1 fun x H Q => rIsi c.K [x, .ty Tn] H Q) (fIsi Tn) := by
  intro Z H fp vs ts t Q e s h k
  match ts, e with
  | [(d, n)], e =>
    obtain ⟨x, rfl, hx⟩ := tre1 h
    simp only [fIsi] at e
    cases q : tyN d with
    | none => rw [q] at e; cases e
    | some ty =>
      rw [q] at e
      cases q2 : kitB ty Tn with
      | none => simp only [q2] at e; cases e
      | some b =>
        simp only [q2] at e
        cases e
        exact ⟨x, .ty Tn, .type ty, .type Tn, b, rfl, .ty Tn, tre_ty s hx q, kit_ty q2, kF s k .bl⟩
end
section
variable {X : Cx} {c : Zc} {L : Nat} {W : WX} {pos : Pos}
theorem slAll (hK : c.K = X.K) : SlR X (rSlAll c.K) := by
  rw [hK]
  exact SlR.or sl_list (SlR.or sl_tupA sl_str)
theorem foldl_arr {α : Type} : ∀ (n : Nat) (a : Array α) (acc : Array α), (List.replicate n a).foldl (· ++ ·) acc = acc ++ (List.replicate n a.toList).flatten.toArray
  | 0, a, acc => by simp
  | n + 1, a, acc => by
    rw [List.replicate_succ, List.foldl_cons, foldl_arr n a (acc ++ a), List.replicate_succ, List.flatten_cons]
    apply Array.toList_inj.mp
    simp
theorem op_mulStr : OpR X (binaryOp .Mult) rMulS := by
  intro pins s σ H x y v u Q I rx ry h
  obtain ⟨a, n, rfl, rfl, h1, h2, h3, q⟩ := h
  obtain ⟨t, rfl⟩ := rx
  obtain ⟨t', rfl⟩ := ry
  have ha : a.length = a.cps.size := rfl
  have hsz : sizeLine = 16777216 := sizeLine_eq
  refine PySem.P.mul_str ?_ (fun k1 k2 => ?_) (fun k1 k2 => ?_) ?_
  · rw [decide_eq_false (by omega), decide_eq_false (by omega)]
    rfl
  · intro k3
    have h4 : (2 ^ 63 - 1) / n ≥ (2 ^ 63 - 1) / 1000000 := Int.le_ediv_of_mul_le (by omega) (by
      have : (2 ^ 63 - 1) / 1000000 * n ≤ (2 ^ 63 - 1) / 1000000 * 1000000 := Int.mul_le_mul_of_nonneg_left (by omega) (by decide)
      exact Int.le_trans this (by decide))
    have h5 : ((2 : Int) ^ 63 - 1) / 1000000 = 9223372036854 := by decide
    omega
  · have : a.length * n.toNat ≤ 10 * 1000000 := Nat.mul_le_mul h3 (by omega)
    unfold PySem.Builtin.Str.tooLong
    exact decide_eq_false (by omega)
  · by_cases k1 : n < 1
    · rw [if_pos k1]
      have e : repS n.toNat a = Str.empty := by
        rw [show n.toNat = 0 by omega]
        rfl
      rw [e] at q
      exact ⟨by decide, ⟨.str Str.empty, H, I.tok _, ⟨_, rfl⟩, q⟩⟩
    · rw [if_neg k1]
      by_cases k2 : (n == 1 || a.length == 0) = true
      · rw [if_pos k2]
        have e : repS n.toNat a = a := by
          rcases Bool.or_eq_true_iff.mp k2 with k | k
          · have : n = 1 := by simpa using k
            subst this
            obtain ⟨cps⟩ := a
            simp [repS]
          · have k : a.cps.size = 0 := by simpa [ha] using k
            obtain ⟨cps⟩ := a
            have : cps = #[] := by simpa using k
            subst this
            simp [repS]
        rw [e] at q
        exact ⟨.str a, H, I, ⟨_, rfl⟩, q⟩
      · rw [if_neg k2]
        have e : (⟨(List.replicate n.toNat a.cps).foldl (· ++ ·) #[]⟩ : Str) = repS n.toNat a := by
          unfold repS
          rw [foldl_arr]
          simp
        rw [e]
        refine ⟨?_, ⟨.str (repS n.toNat a), H, I.tok _, ⟨_, rfl⟩, q⟩⟩
        have : (repS n.toNat a).length = n.toNat * a.cps.size := by
          show (List.replicate n.toNat a.cps.toList).flatten.toArray.size = _
          simp
        rw [this]
        have : n.toNat * a.cps.size ≤ 1000000 * 10 := Nat.mul_le_mul (by omega) (by omega)
        omega
theorem opMul : OpR X (binaryOp .Mult) (fun x y H Q => rI CMul (fun i j => .int (i * j)) x y H Q ∨ rMulS x y H Q ∨ rRep x y H Q) := op_mul.or (op_mulStr.or op_rep)
theorem ze_isi {x : Str} {e : Expr} {p tp : Pos} {Tn : String} {tx : Str} {o : Opd} (hK : c.K = X.K) (hg : Gl X "isinstance") (hm : X.mg "isinstance" = none) (ho : ZO X c L W e o) (ht : PE X (.Name tx tp) (tC (.ty Tn))) (hL : okL L [o] = true := by rfl)
    (h1 : starEach [e, .Name tx tp] X.env = (false, eval e X.env) :: starEach [.Name tx tp] X.env := by rfl) (h2 : starEach [.Name tx tp] X.env = (false, eval (.Name tx tp) X.env) :: starEach [] X.env := by rfl) (h3 : (backTo pos (starEach [.Name tx tp] X.env)).any (·.1) = false := by rfl) :
    ZE X c L W (.Call (.Name "isinstance" p) [e, .Name tx tp] [] pos) (mOp (fIsi Tn) [o]) := by
  have hb : bootBuiltins "isinstance" = some (.builtin "isinstance") := by decide +kernel
  refine PE.imp (pe_callB (hK ▸ call_isi) hg hm hb (pa_cons ho (pa_cons ht pa_nil h2) h1) (he := h1) (hpl := h3)) fun σ H Q h => ?_
  exact run_op (r := r1 fun x H Q => rIsi c.K [x, .ty Tn] H Q) ruIsi (okL_mem hL) h
end
end Z

namespace Z
open PySem L2
section
variable {c : Zc} {L : Nat} {W : WX} {vc : Nat → Option V} {Z H Z' H' Z1 H1 : Hp} {σ : St} {vx : List (Option V)} {st tx : S} {fp fp1 : List Addr}
/-! ### a slot's own object is changed -/
/-- a tree of one node: its object -/
def One (c : Zc) (Z H : Hp) (d : D) (a : Addr) (o : HO) : Prop := match d with
  | .lst xs => ∃ vs : List V, o = .lst vs ∧ xs.length = vs.length ∧ ∀ (i : Nat) d w, xs[i]? = some d → vs[i]? = some w → RF c Z d w
  | .dct kvs => ∃ vs : List (Key × V), o = .dK vs ∧ kvs.map (·.1) = vs.map (·.1) ∧ ∀ (i : Nat) d w, (kvs.map (·.2))[i]? = some d → (vs.map (·.2))[i]? = some w → RF c Z d w
  | .obj C fs => ∃ (A dx : Addr) (vs : List (Str × V)), o = .ins A dx vs ∧ c.cl C = some A ∧ fs.map (·.1) = vs.map (·.1) ∧ ∀ (i : Nat) d w, (fs.map (·.2))[i]? = some d → (vs.map (·.2))[i]? = some w → RF c Z d w
  | _ => False
def mutb : D → Bool
  | .lst _ => true
  | .dct _ => true
  | .obj _ _ => true
  | _ => false
theorem lr0_inv : ∀ {xs : List D} {vs : List V} {f : List Addr}, LR (RT c Z H 0) xs vs f → f = [] ∧ xs.length = vs.length ∧ ∀ (i : Nat) d w, xs[i]? = some d → vs[i]? = some w → RF c Z d w
  | [], [], f, h => ⟨h, rfl, fun i d w h => by simp at h⟩
  | x :: xs, v :: vs, f, ⟨f1, f2, e, h1, h2⟩ => by
    obtain ⟨e2, l, k⟩ := lr0_inv h2
    refine ⟨by rw [e, h1.2, e2]; rfl, by simp [l], fun i d w hd hw => ?_⟩
    cases i with
    | zero => cases hd; cases hw; exact h1.1
    | succ i => exact k i d w (by simpa using hd) (by simpa using hw)
  | [], _ :: _, _, h => h.elim
  | _ :: _, [], _, h => h.elim
theorem one_of {d : D} {v : V} {f : List Addr} (r : RT c Z H 1 d v f) (hd : mutb d = true) : ∃ a o, v = .ref a ∧ f = [a] ∧ H a = some o ∧ One c Z H d a o := by
  cases d with
  | lst xs =>
    obtain ⟨a, vs, g, e, h1, h2, h3⟩ := r
    obtain ⟨e2, l, k⟩ := lr0_inv h2
    exact ⟨a, _, e, by rw [h3, e2], h1, vs, rfl, l, k⟩
  | dct xs =>
    obtain ⟨a, vs, g, e, h1, h0, h2, h3⟩ := r
    obtain ⟨e2, l, k⟩ := lr0_inv h2
    exact ⟨a, _, e, by rw [h3, e2], h1, vs, rfl, h0, k⟩
  | obj C xs =>
    obtain ⟨A, a, dx, vs, g, e, hc, h1, h0, h2, h3⟩ := r
    obtain ⟨e2, l, k⟩ := lr0_inv h2
    exact ⟨a, _, e, by rw [h3, e2], h1, A, dx, vs, rfl, hc, h0, k⟩
  | _ => cases hd
theorem one_rt {d : D} {a : Addr} {o : HO} (h : One c Z H d a o) : RT c Z (upd H a o) 1 d (.ref a) [a] := by
  cases d with
  | lst xs =>
    obtain ⟨vs, rfl, l, k⟩ := h
    exact ⟨a, vs, [], rfl, upd_same, lr0 l k, rfl⟩
  | dct xs =>
    obtain ⟨vs, rfl, l, k⟩ := h
    exact ⟨a, vs, [], rfl, upd_same, l, lr0 (by have := congrArg List.length l; simpa using this) k, rfl⟩
  | obj C xs =>
    obtain ⟨A, dx, vs, rfl, hc, l, k⟩ := h
    exact ⟨A, a, dx, vs, [], rfl, hc, upd_same, l, lr0 (by have := congrArg List.length l; simpa using this) k, rfl⟩
  | _ => exact h.elim
theorem wl_mut {i : Nat} {d : D} (w : Wl c L vc Z H σ vx st tx fp) (hi : i < L) (e : tre st i = some (d, 1)) (hd : mutb d = true) : ∃ a o, σ[i]? = some (some (.ref a)) ∧ H a = some o ∧ One c Z H d a o ∧ Z a = none ∧ (∃ f, (∀ x ∈ f, x ∈ fp) ∧ RT c Z H 1 d (.ref a) f) ∧ ∀ d' o', One c Z H d' a o' → ∃ fp', Stp fp Z H fp' Z (upd H a o') ∧ Wl c L vc Z (upd H a o') σ vx (st.set (loc st i) (.ow d' 1)) tx fp' := by
  obtain ⟨v, _, e1, e2, _, _⟩ := w.look hi e
  have hx : st[loc st i]? = some (.ow d 1) := by
    unfold tre at' at e
    cases q2 : st[loc st i]? with
    | none => rw [q2] at e; cases e
    | some y =>
      rw [q2] at e
      cases y with
      | ow d' n' => cases e; rfl
      | un => cases e
      | pa j => cases e
  obtain ⟨ov, g1, f, g2, k1, k2, k3, k4⟩ := w.upd (y := .un) hx
  rw [e2] at k1
  cases k1
  obtain ⟨v', e', r⟩ := k3
  cases e'
  obtain ⟨a, o, rfl, rfl, ha, ho⟩ := one_of r hd
  have haf : a ∈ fp := by rw [k2]; exact List.mem_append_left _ (List.mem_append_right _ List.mem_cons_self)
  have hz : Z a = none := w.dj a haf
  refine ⟨a, o, e1, ha, ho, hz, ⟨[a], fun x hx => by rw [List.mem_singleton.mp hx]; exact haf, r⟩, fun d' o' h' => ?_⟩
  have sb : Sub Z (upd H a o') := fun b u q => by
    have ne : b ≠ a := fun z => by subst z; rw [hz] at q; cases q
    rw [upd_ne ne]
    exact w.sub b u q
  have n1' : [a].Nodup := by simp
  have w2 := k4 Z (upd H a o') (.ow d' 1) [a] (Sm.refl Z) sb (fun x hx hn => by rw [upd_ne fun z => hn (by rw [z]; exact List.mem_cons_self)]) ⟨_, rfl, one_rt h'⟩ (fun x hx => .inl hx) (fun x hx => .inl hx) n1' fun x hx => by rw [List.mem_singleton.mp hx]; exact hz
  refine ⟨_, ⟨Sm.refl Z, fun b u q hb => ?_, fun b q => ?_, fun b hb => .inl (by rw [k2]; exact hb), fun b q => .inl q⟩, w2⟩
  · have ne : b ≠ a := fun z => hb (by rw [z]; exact haf)
    rw [upd_ne ne]; exact q
  · by_cases z : b = a
    · subst z; rw [upd_same]; exact fun z => nomatch z
    · rw [upd_ne z]; exact q

/-! ### x[k] = e -/
def putL {κ α : Type} [DecidableEq κ] (kvs : List (κ × α)) (k : κ) (v : α) : List (κ × α) := if (kvs.any fun p => decide (p.1 = k)) = true then kvs.map (fun p => if p.1 = k then (p.1, v) else p) else kvs ++ [(k, v)]
def setD : D → D → D → Option D
  | .lst xs, .int i, v => (ixN xs.length i).map fun j => .lst (xs.set j v)
  | .dct kvs, y, v => match kyV y with
    | some k => if kvs.length < big then some (.dct (putL kvs k v)) else none
    | none => none
  | _, _, _ => none
/-- slot i's object at the operand's key takes a frozen value -/
def mSet (i : Nat) (o : Opd) (m : M T) : M Fl := fun s => match m s with
  | .ok t s1 => match tre s1 i with
    | none => .no
    | some _ => match evs [o] s1 with
      | .ok hs s2 => match gets [o] hs s2, tre s2 i with
        | some [k], some (d, 1) => match setD d k.1 t.1 with
          | some d' => .ok .nx (s2.set (loc s2 i) (.ow d' 1))
          | none => .no
        | _, _ => .no
      | .ex x s2 => .ex x s2
      | .no => .no
  | .ex x s1 => .ex x s1
  | .no => .no
def rSetD : TSet := fun o i v H Q => ∃ a H', o = .ref a ∧ DPut H a i v H' ∧ Q H'
def rSet : TSet := fun o i v H Q => rSetL o i v H Q ∨ rSetD o i v H Q
theorem set_items {α β : Type} {R : α → β → Prop} {xs : List α} {vs : List β} {j : Nat} {d : α} {w : β} (h : ∀ (i : Nat) d w, xs[i]? = some d → vs[i]? = some w → R d w) (r : R d w) : ∀ (i : Nat) d' w', (xs.set j d)[i]? = some d' → (vs.set j w)[i]? = some w' → R d' w' := fun i d' w' h1 h2 => by
  by_cases q : j = i
  · subst q
    rw [List.getElem?_set] at h1 h2
    simp only [if_true] at h1 h2
    split at h1
    · split at h2
      · cases h1; cases h2; exact r
      · cases h2
    · cases h1
  · rw [List.getElem?_set_ne q] at h1 h2
    exact h i d' w' h1 h2
theorem any_keys {κ α β : Type} [DecidableEq κ] {k : κ} : ∀ {kvs : List (κ × α)} {vs : List (κ × β)}, kvs.map (·.1) = vs.map (·.1) → (kvs.any fun p => decide (p.1 = k)) = (vs.any fun p => decide (p.1 = k))
  | [], [], _ => rfl
  | (k1, d) :: kvs, (k2, v) :: vs, h => by
    simp only [List.map_cons, List.cons.injEq] at h
    obtain ⟨h1, h2⟩ := h
    subst h1
    simp only [List.any_cons, any_keys h2]
  | [], _ :: _, h => by cases h
  | _ :: _, [], h => by cases h
theorem put_rel {κ α : Type} [DecidableEq κ] {R : α → V → Prop} {k : κ} {d : α} {w : V} {kvs : List (κ × α)} {vs : List (κ × V)} (hk : kvs.map (·.1) = vs.map (·.1)) (h : ∀ (i : Nat) d w, (kvs.map (·.2))[i]? = some d → (vs.map (·.2))[i]? = some w → R d w) (r : R d w) :
    (putL kvs k d).map (·.1) = (putK vs k w).map (·.1) ∧ ∀ (i : Nat) d' w', ((putL kvs k d).map (·.2))[i]? = some d' → ((putK vs k w).map (·.2))[i]? = some w' → R d' w' := by
  unfold putL putK
  rw [any_keys hk]
  by_cases q : (vs.any fun p => decide (p.1 = k)) = true
  · rw [if_pos q, if_pos q]
    clear q
    induction kvs generalizing vs with
    | nil =>
      cases vs with
      | nil => exact ⟨rfl, fun i d w h => by simp at h⟩
      | cons => cases hk
    | cons p kvs ih =>
      cases vs with
      | nil => cases hk
      | cons p2 vs =>
        obtain ⟨k1, d1⟩ := p
        obtain ⟨k2, v2⟩ := p2
        simp only [List.map_cons, List.cons.injEq] at hk
        obtain ⟨e1, e2⟩ := hk
        subst e1
        obtain ⟨i1, i2⟩ := ih e2 fun i d w h1 h2 => h (i + 1) d w (by simpa using h1) (by simpa using h2)
        refine ⟨?_, fun i d' w' h1 h2 => ?_⟩
        · simp only [List.map_cons, List.cons.injEq]
          refine ⟨?_, by simpa using i1⟩
          split <;> rfl
        · cases i with
          | zero =>
            simp only [List.map_cons, List.getElem?_cons_zero, Option.some.injEq] at h1 h2
            by_cases z : k1 = k
            · simp only [if_pos z] at h1 h2
              subst h1; subst h2; exact r
            · simp only [if_neg z] at h1 h2
              subst h1; subst h2
              exact h 0 _ _ rfl rfl
          | succ i => exact i2 i d' w' (by simpa using h1) (by simpa using h2)
  · rw [if_neg q, if_neg q]
    have hl : kvs.length = vs.length := by have := congrArg List.length hk; simpa using this
    refine ⟨by simp [hk], fun i d' w' h1 h2 => ?_⟩
    rw [List.map_append] at h1 h2
    by_cases z : i < kvs.length
    · rw [List.getElem?_append_left (by simpa using z)] at h1
      rw [List.getElem?_append_left (by simp; omega)] at h2
      exact h i d' w' h1 h2
    · rw [List.getElem?_append_right (by simp; omega)] at h1
      rw [List.getElem?_append_right (by simp; omega)] at h2
      simp only [List.length_map, List.map_cons, List.map_nil] at h1 h2
      rw [hl] at h1
      cases e : i - vs.length with
      | zero =>
        rw [e] at h1 h2
        cases h1; cases h2; exact r
      | succ j => rw [e] at h1; cases h1
theorem mSet_rd {i : Nat} {o : Opd} {m : M T} {D1 : Ends} (hi : i < L) (hL : okL L [o] = true) (h : rdS c L W (mSet i o m) D1 σ H) : tAsg (rd c L W m) (gSub (tVar i) (tO c L W o) rSet) D1 σ H := by
  obtain ⟨Z, vc, vx, st, tx, fp, w, h⟩ := h
  refine ⟨Z, vc, vx, st, tx, fp, w, ?_⟩
  cases q : m st with
  | no => simp only [mSet, q] at h; exact h
  | ex x s => simp only [mSet, q] at h; exact fun Z2 H2 => h Z2 H2 σ
  | ok t s1 =>
    simp only [mSet, q] at h
    intro Z1 H1 v fp1 st1 w1
    -- the value is frozen
    obtain ⟨Z2, g2, w2, st2, rf⟩ := Wl.frz (ts := [t]) (vs := [v]) w1 w.hvc rfl
    have rv := rf 0 t.1 v rfl rfl
    have h12 := st1.trans st2
    -- where the object stands: known behind the key
    have key : ∀ {Q : V → Hp → Prop}, (match evs [o] s1 with
        | .ok hs s2 => ∃ k d, gets [o] hs s2 = some [k] ∧ tre s2 i = some (d, 1) ∧ ∀ Z3 H3 y g3, Stp g2 Z2 H1 g3 Z3 H3 → Wl c L vc Z3 H3 σ vx s2 tx g3 → (∀ ky, kyV k.1 = some ky → y = kV ky) → (∀ j, k.1 = .int j → y = .int j) → Q y H3
        | .ex x s2 => ∀ Z' H' fp' cls dd, Stp g2 Z2 H1 fp' Z' H' → Wl c L vc Z' H' σ vx s2 tx fp' → IsX c Z' H' x cls dd → W cls dd σ H'
        | .no => False) → tO c L W o σ H1 Q := by
      intro Q hq
      have z : tOs c L W [o] σ H1 (fun vs H3 => ∃ y, vs = [y] ∧ Q y H3) := by
        refine tOs_run w2 (okL_mem hL) ?_
        cases q3 : evs [o] s1 with
        | no => rw [q3] at hq; exact hq
        | ex x s => rw [q3] at hq; exact hq
        | ok hs s2 =>
          rw [q3] at hq
          obtain ⟨k, d, e1, e2, hq⟩ := hq
          intro Z3 H3 vs vy ty fp3 st3 w3 r3
          have hl : (s2 ++ tx).length = (σ ++ vx).length := by
            have e := w3.lr.len
            have e2 := r3.len
            simp only [List.length_append] at e ⊢
            omega
          obtain ⟨y, rfl, ty1⟩ := tre1 (r3.trees w3 hl (okL_mem hL) e1)
          obtain ⟨g, hg, w4⟩ := Wl.pops r3.len w3 w.hvc
          exact ⟨y, rfl, hq Z3 H3 y g (st3.trans (Stp.less hg)) w4 (fun ky e => kyV_tre ty1 e) fun j e => by
            obtain ⟨kd, kn⟩ := k
            cases e
            exact tre_int ty1⟩
      cases o with
      | nm j =>
        obtain ⟨hj, u, e, y, ey, q⟩ := z
        cases ey
        exact ⟨hj, u, e, q⟩
      | tm mo =>
        obtain ⟨Z5, vc5, vx5, st5, tx5, fp5, w5, h5⟩ := z
        refine ⟨Z5, vc5, vx5, st5, tx5, fp5, w5, ?_⟩
        cases q5 : mo st5 with
        | no => rw [q5] at h5; exact h5
        | ex x s => rw [q5] at h5; exact h5
        | ok t5 s5 =>
          rw [q5] at h5
          intro Z6 H6 v6 fp6 st6 w6
          obtain ⟨y, ey, q⟩ := h5 Z6 H6 v6 fp6 st6 w6
          cases ey
          exact q
    cases q0 : tre s1 i with
    | none => simp only [q0] at h; exact h.elim
    | some t0 =>
      simp only [q0] at h
      obtain ⟨v0, _, e0, _, _, _⟩ := w2.look hi q0
      refine ⟨v0, e0, key ?_⟩
      cases q3 : evs [o] s1 with
      | no => simp only [q3] at h; exact h
      | ex x s2 =>
        simp only [q3] at h
        exact fun Z3 H3 fp3 cls dd st3 w3 x3 => h Z3 H3 σ fp3 cls dd (h12.trans st3) w3 x3
      | ok hs s2 =>
        simp only [q3] at h
        cases q4 : gets [o] hs s2 with
        | none => simp only [q4] at h; exact h.elim
        | some ks =>
          match ks, q4 with
          | [], q4 => simp only [q4] at h; exact h.elim
          | _ :: _ :: _, q4 => simp only [q4] at h; exact h.elim
          | [k], q4 =>
            cases q5 : tre s2 i with
            | none => simp only [q4, q5] at h; exact h.elim
            | some t5 =>
              obtain ⟨d, n⟩ := t5
              simp only [q4, q5] at h
              match n, q5, h with
              | 0, q5, h => exact h.elim
              | n + 2, q5, h => exact h.elim
              | 1, q5, h =>
                cases q6 : setD d k.1 t.1 with
                | none => simp only [q6] at h; exact h.elim
                | some d' =>
                  simp only [q6] at h
                  refine ⟨k, d, q4, q5, fun Z3 H3 y g3 st3 w3 hy1 hy2 => ?_⟩
                  have md : mutb d = true := by
                    cases d <;> first | rfl | cases q6
                  obtain ⟨a, ob, ea, ha, ho, hz, _, k6⟩ := wl_mut w3 hi q5 md
                  rw [e0] at ea
                  cases ea
                  have rv3 := rv.mono st3.zz
                  cases d with
                  | lst xs =>
                    obtain ⟨vs, rfl, l, kx⟩ := ho
                    obtain ⟨kd, kn⟩ := k
                    cases kd with
                    | int j =>
                      simp only [setD] at q6
                      cases q7 : ixN xs.length j with
                      | none => rw [q7] at q6; cases q6
                      | some jj =>
                        rw [q7] at q6
                        cases q6
                        obtain ⟨fp', st', w'⟩ := k6 (.lst (xs.set jj t.1)) (.lst (vs.set jj v)) ⟨vs.set jj v, rfl, by simp [l], set_items kx rv3⟩
                        exact .inl ⟨a, vs, j, jj, rfl, hy2 j rfl, ha, by rw [← l]; exact q7, h Z3 _ σ fp' ((h12.trans st3).trans st') w'⟩
                    | _ => cases q6
                  | dct kvs =>
                    obtain ⟨vs, rfl, l, kx⟩ := ho
                    simp only [setD] at q6
                    cases q7 : kyV k.1 with
                    | none => rw [q7] at q6; cases q6
                    | some ky =>
                      rw [q7] at q6
                      simp only at q6
                      split at q6
                      · rename_i hb
                        cases q6
                        obtain ⟨p1, p2⟩ := put_rel (k := ky) l kx rv3
                        have hl : kvs.length = vs.length := by have := congrArg List.length l; simpa using this
                        obtain ⟨fp', st', w'⟩ := k6 (.dct (putL kvs ky t.1)) (.dK (putK vs ky v)) ⟨_, rfl, p1, p2⟩
                        exact .inr ⟨a, _, rfl, .inl ⟨vs, ky, ha, hy1 ky q7, Nat.lt_of_lt_of_le (by omega) big_le, rfl⟩, h Z3 _ σ fp' ((h12.trans st3).trans st') w'⟩
                      · cases q6
                  | _ => cases q6
end
section
variable {X : Cx} {c : Zc} {L : Nat} {W : WX} {pos : Pos}
theorem set_any (hu : X.A.units + 1 < cLine) : PSet X rSet := by
  intro pins s σ H o i v ov iv u Q I ro ri rv h
  rcases h with h | ⟨a, H', rfl, g, q⟩
  · exact set_list pins s σ H o i v ov iv u Q I ro ri rv h
  · cases ro
    exact d_setItem hu I g ri rv fun s' I' => ⟨H', I', q⟩
theorem zs_set {i : Nat} {x : Str} {o e : Expr} {oo : Opd} {m : M T} {px p2 : Pos} (he : ZE X c L W e m) (hi : i < L) (hpg : PG X (.Subscript (.Name x px) o p2) (gSub (tVar i) (tO c L W oo) rSet)) (hL : okL L [oo] = true := by rfl)
    (hs : swapsWithSole [.Subscript (.Name x px) o p2] e pos.line X.env = pure false := by rfl) (hw : swappedStores [.Subscript (.Name x px) o p2] e X.env = pure none := by rfl)
    (h1 : (assignEach [.Subscript (.Name x px) o p2] X.env).map (·.2) = [assign (.Subscript (.Name x px) o p2) X.env] := by rfl) :
    ZS X c L W (.Assign [.Subscript (.Name x px) o p2] e pos) (mSet i oo m) :=
  PS.imp (ps_asg he hpg hs hw h1) fun _ _ _ h => mSet_rd hi hL h
end
end Z

namespace Z
open PySem L2
section
variable {c : Zc} {L : Nat} {W : WX} {vc : Nat → Option V} {Z H Z' H' Z1 H1 : Hp} {σ : St} {vx : List (Option V)} {st tx : S} {fp fp1 : List Addr}
/-- one operand, what stands behind it known -/
theorem tO_run {o : Opd} {Q : VK} (w : Wl c L vc Z H σ vx st tx fp) (hL : okL L [o] = true)
    (h : match evs [o] st with
      | .ok hs s => ∀ Z' H' v vy ty fp', Stp fp Z H fp' Z' H' → Wl c L vc Z' H' σ (vx ++ vy) s (tx ++ ty) fp' → HR σ [o] hs [v] vy ty → Q v H'
      | .ex x s => ∀ Z' H' fp' cls dd, Stp fp Z H fp' Z' H' → Wl c L vc Z' H' σ vx s tx fp' → IsX c Z' H' x cls dd → W cls dd σ H'
      | .no => False) : tO c L W o σ H Q := by
  have z : tOs c L W [o] σ H (fun vs H3 => ∃ y, vs = [y] ∧ Q y H3) := by
    refine tOs_run w (okL_mem hL) ?_
    cases q : evs [o] st with
    | no => rw [q] at h; exact h
    | ex x s => rw [q] at h; exact h
    | ok hs s =>
      rw [q] at h
      intro Z1 H1 vs vy ty fp1 s1 w1 r1
      have : ∃ v, vs = [v] := by
        cases r1 with
        | nm _ r => cases r; exact ⟨_, rfl⟩
        | tm r => cases r; exact ⟨_, rfl⟩
      obtain ⟨v, rfl⟩ := this
      exact ⟨v, rfl, h Z1 H1 v vy ty fp1 s1 w1 r1⟩
  cases o with
  | nm j =>
    obtain ⟨hj, u, e, y, ey, q⟩ := z
    cases ey
    exact ⟨hj, u, e, q⟩
  | tm mo =>
    obtain ⟨Z5, vc5, vx5, st5, tx5, fp5, w5, h5⟩ := z
    refine ⟨Z5, vc5, vx5, st5, tx5, fp5, w5, ?_⟩
    cases q5 : mo st5 with
    | no => rw [q5] at h5; exact h5
    | ex x s => rw [q5] at h5; exact h5
    | ok t5 s5 =>
      rw [q5] at h5
      intro Z6 H6 v6 fp6 st6 w6
      obtain ⟨y, ey, q⟩ := h5 Z6 H6 v6 fp6 st6 w6
      cases ey
      exact q
theorem wl_lens (w : Wl c L vc Z H σ (vx ++ vy) st (tx ++ ty) fp) (e2 : vy.length = ty.length) : (st ++ tx).length = (σ ++ vx).length := by
  have e := w.lr.len
  simp only [List.length_append] at e ⊢
  omega
/-- the tree behind one operand -/
theorem HR.tree1 {o : Opd} {hs : List (Option T)} {v : V} {vy : List (Option V)} {ty : S} {t : T} (r : HR σ [o] hs [v] vy ty) (w : Wl c L vc Z H σ (vx ++ vy) st (tx ++ ty) fp) (hL : okL L [o] = true) (e : gets [o] hs st = some [t]) : Tre c Z H fp v t := by
  obtain ⟨y, ey, ty1⟩ := tre1 (r.trees w (wl_lens w r.len) (okL_mem hL) e)
  cases ey
  exact ty1
theorem gets_one {o : Opd} {hs : List (Option T)} {s : S} {ts : List T} (h : gets [o] hs s = some ts) : ∃ t, ts = [t] := by
  cases o with
  | nm i =>
    match hs, h with
    | [none], h =>
      simp only [gets] at h
      cases q : tre s i with
      | none => rw [q] at h; cases h
      | some t => rw [q] at h; cases h; exact ⟨t, rfl⟩
    | none :: none :: _, h =>
      simp only [gets] at h
      split at h <;> cases h
    | none :: some _ :: _, h =>
      simp only [gets] at h
      split at h <;> cases h
    | [], h => cases h
    | some _ :: _, h => cases h
  | tm m =>
    match hs, h with
    | [some t], h => cases h; exact ⟨t, rfl⟩
    | some _ :: none :: _, h => cases h
    | some _ :: some _ :: _, h => cases h
    | [], h => cases h
    | none :: _, h => cases h

/-! ### a[lo:hi] -/
def mPart : Option (M T) → M (Option Int)
  | none => fun s => .ok none s
  | some m => fun s => match m s with
    | .ok (.int i, _) s' => .ok (some i) s'
    | .ok _ _ => .no
    | .ex x s' => .ex x s'
    | .no => .no
def get1 (o : Opd) (hs : List (Option T)) (s : S) : Option T := match gets [o] hs s with
  | some [t] => some t
  | _ => none
def mSl (o : Opd) (lo hi : Option (M T)) : M T := fun s => match evs [o] s with
  | .ok hs s1 => match mPart lo s1 with
    | .ok l s2 => match mPart hi s2 with
      | .ok u s3 => match get1 o hs s3 with
        | some t => match slD l u t with
          | some t' => .ok t' s3
          | none => .no
        | none => .no
      | .ex x s3 => .ex x s3
      | .no => .no
    | .ex x s2 => .ex x s2
    | .no => .no
  | .ex x s1 => .ex x s1
  | .no => .no
def tP (c : Zc) (L : Nat) (W : WX) : Option (M T) → TO
  | none => tNoPart
  | some m => tPart (rd c L W m)
/-- what is left on the stack goes when something is raised -/
theorem part_run {po : Option (M T)} {Q : Option Int → Hp → Prop} (w : Wl c L vc Z H σ vx st tx fp)
    (h : match mPart po st with
      | .ok o s => ∀ Z' H' fp', Stp fp Z H fp' Z' H' → Wl c L vc Z' H' σ vx s tx fp' → Q o H'
      | .ex x s => ∀ Z' H' fp' cls dd, Stp fp Z H fp' Z' H' → Wl c L vc Z' H' σ vx s tx fp' → IsX c Z' H' x cls dd → W cls dd σ H'
      | .no => False) : tP c L W po σ H Q := by
  cases po with
  | none => exact h Z H fp Stp.refl w
  | some m =>
    refine rd_off (Q := fun _ _ => True) ⟨Z, vc, vx, st, tx, fp, w, ?_⟩
    cases q : m st with
    | no => simp only [mPart, q] at h
    | ex x s => simp only [mPart, q] at h; exact h
    | ok t s =>
      obtain ⟨d, n⟩ := t
      intro Z1 H1 fp1 s1 w1 v fp2 tr _
      cases d with
      | int i =>
        simp only [mPart, q] at h
        exact ⟨i, tre_int tr, h Z1 H1 fp1 s1 w1⟩
      | _ => simp only [mPart, q] at h
/-- the world behind, its stack taken off -/
theorem ex_pops {vy : List (Option V)} {ty : S} {x : Ex} {s : S} (hvc : ∀ j v, vc j = some v → L ≤ j ∧ vx[j - L]? = some (some v)) (hl : vy.length = ty.length) (s0 : Stp fp Z H fp1 Z1 H1)
    (h : ∀ Z' H' fp' cls dd, Stp fp Z H fp' Z' H' → Wl c L vc Z' H' σ vx s tx fp' → IsX c Z' H' x cls dd → W cls dd σ H') :
    ∀ Z' H' fp' cls dd, Stp fp1 Z1 H1 fp' Z' H' → Wl c L vc Z' H' σ (vx ++ vy) s (tx ++ ty) fp' → IsX c Z' H' x cls dd → W cls dd σ H' := fun Z2 H2 fp2 cls dd s2 w2 hx => by
  obtain ⟨g, hg, w3⟩ := Wl.pops hl w2 hvc
  exact h Z2 H2 g cls dd ((s0.trans s2).trans (Stp.less hg)) w3 hx
theorem mSl_rd {o : Opd} {lo hi : Option (M T)} {Q : VK} (hL : okL L [o] = true) (h : rd c L W (mSl o lo hi) σ H Q) : tSl (rSlAll c.K) (tO c L W o) (tP c L W lo) (tP c L W hi) σ H Q := by
  obtain ⟨Z, vc, vx, st, tx, fp, w, h⟩ := h
  refine tO_run w hL ?_
  cases q : evs [o] st with
  | no => simp only [mSl, q] at h; exact h
  | ex x s => simp only [mSl, q] at h; exact h
  | ok hs s1 =>
    simp only [mSl, q] at h
    intro Z1 H1 v vy ty fp1 t1 w1 r1
    refine part_run w1 ?_
    cases q2 : mPart lo s1 with
    | no => simp only [q2] at h; exact h
    | ex x s2 => simp only [q2] at h; exact ex_pops w.hvc r1.len t1 h
    | ok l s2 =>
      simp only [q2] at h
      intro Z2 H2 fp2 t2 w2
      have t12 := t1.trans t2
      refine part_run w2 ?_
      cases q3 : mPart hi s2 with
      | no => simp only [q3] at h; exact h
      | ex x s3 => simp only [q3] at h; exact ex_pops w.hvc r1.len t12 h
      | ok u s3 =>
        simp only [q3] at h
        intro Z3 H3 fp3 t3 w3
        have t13 := t12.trans t3
        unfold get1 at h
        cases q4 : gets [o] hs s3 with
        | none => simp only [q4] at h; exact h.elim
        | some ts =>
          obtain ⟨t, rfl⟩ := gets_one q4
          simp only [q4] at h
          cases q5 : slD l u t with
          | none => simp only [q5] at h; exact h.elim
          | some t' =>
            simp only [q5] at h
            refine sl_ok w3.sub (r1.tree1 w3 hL q4) q5 fun Z4 H4 x g al rt => ?_
            obtain ⟨g1, hg1, w4⟩ := Wl.pops r1.len w3 w.hvc
            exact h Z4 H4 x _ ((t13.trans (Stp.less hg1)).trans (Stp.of_al al)) (w4.al al rt)

/-! ### x.m(..) of a text, nothing changed -/
def isStr : D → Bool
  | .str _ => true
  | _ => false
def mBm (f : F) (o : Opd) (ms : List (M T)) : M T := fun s => match evs [o] s with
  | .ok hs s1 => match get1 o hs s1 with
    | some t => if isStr t.1 = true then (match evm ms s1 with
      | .ok ts s2 => match f (t :: ts.map fun t => (t.1, 0)) with
        | some t' => .ok t' s2
        | none => .no
      | .ex x s2 => .ex x s2
      | .no => .no) else .no
    | none => .no
  | .ex x s1 => .ex x s1
  | .no => .no
theorem paired_rf {fp : List Addr} : ∀ {ts : List T} {vs : List V}, vs.length = ts.length → (∀ (i : Nat) d v, (ts.map (·.1))[i]? = some d → vs[i]? = some v → RF c Z d v) → Paired (Tre c Z H fp) vs (ts.map fun t => (t.1, 0))
  | [], [], _, _ => .nil
  | t :: ts, v :: vs, hl, h => .cons (rf_tre (h 0 t.1 v rfl rfl)) (paired_rf (Nat.succ.inj hl) fun i d v h1 h2 => h (i + 1) d v (by simpa using h1) (by simpa using h2))
  | [], _ :: _, hl, _ => by cases hl
  | _ :: _, [], hl, _ => by cases hl
theorem mBm_rd {f : F} {r : V → List V → Hp → VK → Prop} {K : PySem.W.Frag} {o : Opd} {ms : List (M T)} {Q : VK} (hr : RuZ c (rMt1 r) f) (hL : okL L [o] = true) (h : rd c L W (mBm f o ms) σ H Q) : tBM K "str" r (tO c L W o) (tMs c L W ms) σ H Q := by
  obtain ⟨Z, vc, vx, st, tx, fp, w, h⟩ := h
  refine tO_run w hL ?_
  cases q : evs [o] st with
  | no => simp only [mBm, q] at h; exact h
  | ex x s => simp only [mBm, q] at h; exact h
  | ok hs s1 =>
    simp only [mBm, q] at h
    intro Z1 H1 v vy ty fp1 t1 w1 r1
    unfold get1 at h
    cases q2 : gets [o] hs s1 with
    | none => simp only [q2] at h; exact h.elim
    | some ts0 =>
      obtain ⟨t, rfl⟩ := gets_one q2
      simp only [q2] at h
      split at h
      · rename_i hs0
        have tr := r1.tree1 w1 hL q2
        obtain ⟨d, n⟩ := t
        cases d with
        | str a =>
          have ev := tre_str tr
          subst ev
          refine ⟨rfl, tMs_run w1 ?_⟩
          cases q3 : evm ms s1 with
          | no => simp only [q3] at h; exact h
          | ex x s2 => simp only [q3] at h; exact ex_pops w.hvc r1.len t1 h
          | ok ts s2 =>
            simp only [q3] at h
            intro Z2 H2 vs fp2 t2 hl w2
            cases q4 : f ((D.str a, n) :: ts.map fun t => (t.1, 0)) with
            | none => simp only [q4] at h; exact h.elim
            | some t' =>
              simp only [q4] at h
              have w2' : Wl c L vc Z2 H2 σ ((vx ++ vy) ++ vs.map some) s2 ((tx ++ ty) ++ ts.map fun t => .ow t.1 t.2) fp2 := w2
              have hvc2 := w1.hvc
              obtain ⟨Z3, g3, w3, t3, rf⟩ := Wl.frz w2' hvc2 hl
              obtain ⟨g4, hg4, w4⟩ := Wl.pops r1.len w3 w.hvc
              have p : Paired (Tre c Z3 H2 g4) (V.str a :: vs) ((D.str a, n) :: ts.map fun t => (t.1, 0)) := .cons ⟨[], fun _ h => (nomatch h), by cases n <;> first | exact ⟨.str, rfl⟩ | exact ⟨rfl, rfl⟩⟩ (paired_rf hl rf)
              exact hr Z3 H2 g4 _ _ _ Q q4 w4.sub p fun Z5 H5 x g al rt => h Z5 H5 x _ ((((t1.trans t2).trans t3).trans (Stp.less hg4)).trans (Stp.of_al al)) (w4.al al rt)
        | _ => cases hs0
      · exact h.elim
end
end Z

namespace Z
open PySem L2
section
variable {c : Zc} {L : Nat} {W : WX} {vc : Nat → Option V} {Z H Z' H' Z1 H1 : Hp} {σ : St} {vx : List (Option V)} {st tx : S} {fp fp1 : List Addr}
theorem rd_mono {m : M T} {Q Q' : VK} (k : ∀ v H, Q v H → Q' v H) (h : rd c L W m σ H Q) : rd c L W m σ H Q' := by
  obtain ⟨Z, vc, vx, st, tx, fp, w, h⟩ := h
  refine ⟨Z, vc, vx, st, tx, fp, w, ?_⟩
  cases q : m st with
  | no => rw [q] at h; exact h
  | ex x s => rw [q] at h; exact h
  | ok t s => rw [q] at h; exact fun Z1 H1 v fp1 s1 w1 => k _ _ (h Z1 H1 v fp1 s1 w1)
theorem tAg_mono {a : Ag} {Q Q' : VK} (k : ∀ v H, Q v H → Q' v H) (h : tAg c L W a σ H Q) : tAg c L W a σ H Q' := by
  cases a with
  | bo i =>
    obtain ⟨hi, v, e, q⟩ := h
    exact ⟨hi, v, e, k _ _ q⟩
  | tm m => exact rd_mono k h
theorem tAs_app : ∀ {as bs : List Ag} {H : Hp} {Q : List V → Hp → Prop}, tAs c L W (as ++ bs) σ H Q → tAs c L W as σ H fun vs H1 => tAs c L W bs σ H1 fun zs H2 => Q (vs ++ zs) H2
  | [], _, _, _, h => h
  | _ :: _, _, _, _, h => tAg_mono (fun _ _ h => tAs_app h) h

/-! ### a op b op' c of ints -/
def asI : R T → R Int
  | .ok (.int i, _) s => .ok i s
  | .ok _ _ => .no
  | .ex x s => .ex x s
  | .no => .no
def mCh (g g' : Int → Int → Bool) (a b d : M T) : M T := fun s => match asI (a s) with
  | .ok i s1 => match asI (b s1) with
    | .ok j s2 => if g i j = true then (match asI (d s2) with
      | .ok k s3 => .ok (.bl (g' j k), 0) s3
      | .ex x s3 => .ex x s3
      | .no => .no) else .ok (.bl false, 0) s2
    | .ex x s2 => .ex x s2
    | .no => .no
  | .ex x s1 => .ex x s1
  | .no => .no
theorem asI_run {m : M T} {P : VK} (w : Wl c L vc Z H σ vx st tx fp) (h : match asI (m st) with
    | .ok i s => ∀ Z' H' fp', Stp fp Z H fp' Z' H' → Wl c L vc Z' H' σ vx s tx fp' → P (.int i) H'
    | .ex x s => ∀ Z' H' fp' cls dd, Stp fp Z H fp' Z' H' → Wl c L vc Z' H' σ vx s tx fp' → IsX c Z' H' x cls dd → W cls dd σ H'
    | .no => False) : rd c L W m σ H P := by
  refine rd_off (Q := fun _ _ => True) ⟨Z, vc, vx, st, tx, fp, w, ?_⟩
  cases q : m st with
  | no => simp only [asI, q] at h
  | ex x s => simp only [asI, q] at h; exact h
  | ok t s =>
    obtain ⟨d, n⟩ := t
    intro Z1 H1 fp1 s1 w1 v fp2 tr _
    cases d with
    | int i =>
      simp only [asI, q] at h
      rw [tre_int tr]
      exact h Z1 H1 fp1 s1 w1
    | _ => simp only [asI, q] at h
theorem mCh_rd {g g' : Int → Int → Bool} {a b d : M T} {Q : VK} (h : rd c L W (mCh g g' a b d) σ H Q) : tChain (rI0 fun i j => .bl (g i j)) (rI0 fun i j => .bl (g' i j)) (rd c L W a) (rd c L W b) (rd c L W d) σ H Q := by
  obtain ⟨Z, vc, vx, st, tx, fp, w, h⟩ := h
  refine asI_run w ?_
  cases q : asI (a st) with
  | no => simp only [mCh, q] at h; exact h
  | ex x s => simp only [mCh, q] at h; exact h
  | ok i s1 =>
    simp only [mCh, q] at h
    intro Z1 H1 fp1 t1 w1
    refine asI_run w1 ?_
    cases q2 : asI (b s1) with
    | no => simp only [q2] at h; exact h
    | ex x s => simp only [q2] at h; exact fun Z2 H2 fp2 cls dd t2 => h Z2 H2 fp2 cls dd (t1.trans t2)
    | ok j s2 =>
      simp only [q2] at h
      intro Z2 H2 fp2 t2 w2
      have t12 := t1.trans t2
      refine ⟨i, j, rfl, rfl, g i j, rfl, ?_⟩
      split at h
      · rename_i hg
        rw [if_pos hg]
        refine asI_run w2 ?_
        cases q3 : asI (d s2) with
        | no => simp only [q3] at h; exact h
        | ex x s => simp only [q3] at h; exact fun Z3 H3 fp3 cls dd t3 => h Z3 H3 fp3 cls dd (t12.trans t3)
        | ok k s3 =>
          simp only [q3] at h
          intro Z3 H3 fp3 t3 w3
          exact ⟨j, k, rfl, rfl, h Z3 H3 (.bl (g' j k)) fp3 (t12.trans t3) (w3.pushF .bl)⟩
      · rename_i hg
        rw [if_neg hg]
        exact h Z2 H2 (.bl false) fp2 t12 (w2.pushF .bl)

/-! ### a, b = x, y -/
def mPar (i j : Nat) (a b : M T) : M Fl := fun s => match evm [a, b] s with
  | .ok [t, u] s' => if i < s'.length ∧ j < s'.length then .ok .nx ((s'.set j (.ow u.1 u.2)).set i (.ow t.1 t.2)) else .no
  | .ok _ _ => .no
  | .ex x s' => .ex x s'
  | .no => .no
theorem mPar_rd {i j : Nat} {a b : M T} {D : Ends} (hi : i < L) (hj : j < L) (hij : i ≠ j) (h : rdS c L W (mPar i j a b) D σ H) : tPar i j (tMs c L W [a, b]) D σ H := by
  obtain ⟨Z, vc, vx, st, tx, fp, w, h⟩ := h
  refine tMs_run w ?_
  cases q : evm [a, b] st with
  | no => simp only [mPar, q] at h; exact h
  | ex x s => simp only [mPar, q] at h; exact fun Z2 H2 => h Z2 H2 σ
  | ok ts s =>
    have hl2 := evm_len q
    match ts, hl2, q with
    | [t, u], _, q =>
      simp only [mPar, q] at h
      intro Z1 H1 vs fp1 s1 hl w1
      match vs, hl with
      | [v, x], _ =>
        split at h
        · rename_i k
          have w1' : Wl c L vc Z1 H1 σ ((vx ++ [some v]) ++ [some x]) s ((tx ++ [.ow t.1 t.2]) ++ [.ow u.1 u.2]) fp1 := by simpa using w1
          have hvc1 : ∀ j v', vc j = some v' → L ≤ j ∧ (vx ++ [some v])[j - L]? = some (some v') := fun j v' e => by
            obtain ⟨k1, k2⟩ := w.hvc j v' e
            exact ⟨k1, by rw [List.getElem?_append_left (List.getElem?_eq_some_iff.mp k2).1]; exact k2⟩
          obtain ⟨fp2, h2, w2⟩ := w1'.putTop hvc1 hj k.2
          obtain ⟨fp3, h3, w3⟩ := w2.putTop w.hvc hi (by rw [List.length_set]; exact k.1)
          rw [List.set_comm _ _ (Ne.symm hij)] at w3
          exact ⟨v, x, rfl, h Z1 H1 _ fp3 ((s1.trans (Stp.less h2)).trans (Stp.less h3)) w3⟩
        · exact h.elim

/-! ### x.m(..) of a slot's own object, which changes -/
abbrev G := D → List D → Option (D × D)
def RuM (c : Zc) (r : V → List V → Hp → VK → Prop) (g : G) : Prop := ∀ (Z H : Hp) (a : Addr) (o : HO) (d d' e : D) (vs : List V) (ds : List D) (Q : VK), g d ds = some (d', e) → Sub Z H → H a = some o → One c Z H d a o → vs.length = ds.length → (∀ (i : Nat) d v, ds[i]? = some d → vs[i]? = some v → RF c Z d v) →
  (∀ o' v, One c Z H d' a o' → RF c Z e v → Q v (upd H a o')) → r (.ref a) vs H Q
def tyOf : D → String
  | .lst _ => "list"
  | .dct _ => "dict"
  | _ => ""
def mMut (g : G) (Tn : String) (i : Nat) (ms : List (M T)) : M T := fun s => match tre s i with
  | some (d0, 1) => if tyOf d0 = Tn ∧ mutb d0 = true ∧ Tn ≠ "" then (match evm ms s with
    | .ok ts s1 => match tre s1 i with
      | some (d, 1) => match g d (ts.map (·.1)) with
        | some (d', e) => .ok (e, 0) (s1.set (loc s1 i) (.ow d' 1))
        | none => .no
      | _ => .no
    | .ex x s1 => .ex x s1
    | .no => .no) else .no
  | _ => .no
theorem mMut_rd {g : G} {Tn : String} {r : V → List V → Hp → VK → Prop} {i : Nat} {ms : List (M T)} {Q : VK} (hr : RuM c r g) (hg : ∀ d ds x, g d ds = some x → mutb d = true) (hi : i < L) (h : rd c L W (mMut g Tn i ms) σ H Q) : tBM c.K Tn r (tVar i) (tMs c L W ms) σ H Q := by
  obtain ⟨Z, vc, vx, st, tx, fp, w, h⟩ := h
  cases q0 : tre st i with
  | none => simp only [mMut, q0] at h; exact h.elim
  | some t0 =>
    obtain ⟨d0, n0⟩ := t0
    match n0, q0 with
    | 0, q0 => simp only [mMut, q0] at h; exact h.elim
    | n + 2, q0 => simp only [mMut, q0] at h; exact h.elim
    | 1, q0 =>
      simp only [mMut, q0] at h
      split at h
      · rename_i hd0
        obtain ⟨hd0, hm0, hne⟩ := hd0
        obtain ⟨a, o, e1, ha, ho, _, _, _⟩ := wl_mut w hi q0 hm0
        refine ⟨.ref a, e1, ?_, tMs_run w ?_⟩
        · cases d0 with
          | lst xs =>
            obtain ⟨vs, rfl, _, _⟩ := ho
            exact .inl ⟨hd0.symm, vs, .inl (.inl ha)⟩
          | dct kvs =>
            obtain ⟨vs, rfl, _, _⟩ := ho
            exact .inr (.inr (.inl ⟨hd0.symm, .inl ⟨vs, ha⟩⟩))
          | _ => exact absurd hd0.symm hne
        · cases q : evm ms st with
          | no => simp only [q] at h; exact h
          | ex x s => simp only [q] at h; exact h
          | ok ts s1 =>
            simp only [q] at h
            intro Z1 H1 vs fp1 t1 hl w1
            obtain ⟨Z2, g2, w2, t2, rf⟩ := Wl.frz w1 w.hvc hl
            cases q2 : tre s1 i with
            | none => simp only [q2] at h; exact h.elim
            | some t5 =>
              obtain ⟨d, n⟩ := t5
              match n, q2 with
              | 0, q2 => simp only [q2] at h; exact h.elim
              | n + 2, q2 => simp only [q2] at h; exact h.elim
              | 1, q2 =>
                simp only [q2] at h
                cases q3 : g d (ts.map (·.1)) with
                | none => simp only [q3] at h; exact h.elim
                | some x =>
                  obtain ⟨d', e⟩ := x
                  simp only [q3] at h
                  obtain ⟨a', o', e1', ha', ho', _, _, k⟩ := wl_mut w2 hi q2 (hg _ _ _ q3)
                  rw [e1] at e1'
                  cases e1'
                  refine hr Z2 H1 a o' d d' e vs (ts.map (·.1)) Q q3 w2.sub ha' ho' (by simp [hl]) rf fun o2 v h1 h2 => ?_
                  obtain ⟨fp3, t3, w3⟩ := k d' o2 h1
                  exact h Z2 _ v fp3 ((t1.trans t2).trans t3) (w3.pushF h2)
      · exact h.elim
end

section
variable {X : Cx} {c : Zc} {L : Nat} {W : WX} {pos : Pos}
theorem zo_tm {e : Expr} {m : M T} (h : ZE X c L W e m) : ZO X c L W e (.tm m) := h
theorem zg_tm {e : Expr} {m : M T} (h : ZE X c L W e m) : ZG X c L W e (.tm m) := h
/-- a built-in function, a built-in type called -/
theorem ze_cb {x : Str} {id : String} {e : Expr} {es : List Expr} {os : List Opd} {p : Pos} {r : List V → Hp → VK → Prop} {f : F} (hc : CallR X (.builtin id) r) (hr : RuZ c r f) (hg : Gl X x) (hm : X.mg x = none) (hv : bootBuiltins x = some (.builtin id)) (ha : ZOs X c L W (e :: es) os) (hL : okL L os = true := by rfl)
    (hn : x ≠ "__name__" := by decide) (hdb : (x == ("__debug__" : Str)) = false := by decide) (he : starEach (e :: es) X.env = (false, eval e X.env) :: starEach es X.env := by rfl) (hpl : (backTo pos (starEach es X.env)).any (·.1) = false := by rfl) : ZE X c L W (.Call (.Name x p) (e :: es) [] pos) (mOp f os) :=
  PE.imp (pe_callB hc hg hm hv ha hn hdb he hpl) fun σ H Q h => run_op hr (okL_mem hL) h
theorem ze_ct {x : Str} {Tn : String} {e : Expr} {es : List Expr} {os : List Opd} {p : Pos} {r : List V → Hp → VK → Prop} {f : F} (hc : CallR X (.type Tn) r) (hr : RuZ c r f) (hg : Gl X x) (hm : X.mg x = none) (hv : bootBuiltins x = some (.type Tn)) (ha : ZOs X c L W (e :: es) os) (hL : okL L os = true := by rfl)
    (hn : x ≠ "__name__" := by decide) (hdb : (x == ("__debug__" : Str)) = false := by decide) (he : starEach (e :: es) X.env = (false, eval e X.env) :: starEach es X.env := by rfl) (hpl : (backTo pos (starEach es X.env)).any (·.1) = false := by rfl) : ZE X c L W (.Call (.Name x p) (e :: es) [] pos) (mOp f os) :=
  PE.imp (pe_callTy hc hg hm hv ha hn hdb he hpl) fun σ H Q h => run_op hr (okL_mem hL) h
/-- a[lo:hi] -/
abbrev ZP (X : Cx) (c : Zc) (L : Nat) (W : WX) (e : Option Expr) (m : Option (M T)) : Prop := PO X e (tP c L W m)
theorem zp_no : ZP X c L W none none := po_none
theorem zp_is {e : Expr} {m : M T} (h : ZE X c L W e m) : ZP X c L W (some e) (some m) := po_some h
theorem ze_sl {e : Expr} {lo hi : Option Expr} {o : Opd} {ml mh : Option (M T)} {p2 : Pos} (hK : c.K = X.K) (he : ZO X c L W e o) (hl : ZP X c L W lo ml) (hh : ZP X c L W hi mh) (hL : okL L [o] = true := by rfl) : ZE X c L W (.Subscript e (.Slice lo hi none p2) pos) (mSl o ml mh) :=
  PE.imp (pe_slice (slAll hK) he hl hh) fun σ H Q h => mSl_rd hL h
/-- s.m(..), s a text -/
theorem ze_bm {id : String} {name : Str} {r : V → List V → Hp → VK → Prop} {f : F} {o e : Expr} {es : List Expr} {oo : Opd} {ms : List (M T)} {apos cpos : Pos} (slot : Slot "str" name id) (hty : typeOf (.builtin id) = pure (.type "method_descriptor")) (hm : MtR X id r) (hr : RuZ c (rMt1 r) f) (ho : ZO X c L W o oo) (ha : ZA X c L W (e :: es) ms)
    (hL : okL L [oo] = true := by rfl) (hbase : attributeBase o name X.env (eval o X.env) = eval o X.env := by rfl)
    (hfew : ((backTo cpos (starEach (e :: es) X.env)).all (fun x => !x.1) && (backToKw cpos (keywordEach [] X.env)).all (fun x => x.1.isSome) && decide ((e :: es).length + ([] : List Keyword).length + (if ([] : List Keyword).isEmpty then 0 else 1) < 30)) = true := by rfl)
    (hline : (apos.endLine == cpos.line) = true := by rfl) (hs : starEach (e :: es) X.env = (false, eval e X.env) :: starEach es X.env := by rfl) (hplain : (backTo cpos (starEach es X.env)).any (·.1) = false := by rfl) : ZE X c L W (.Call (.Attribute o name apos) (e :: es) [] cpos) (mBm f oo ms) :=
  PE.imp (pe_bm PySem.F.plainAttrs_str slot hty hm ho ha hbase hfew hline hs hplain) fun σ H Q h => mBm_rd hr hL h
theorem ze_bm0 {id : String} {name : Str} {r : V → List V → Hp → VK → Prop} {f : F} {o : Expr} {oo : Opd} {apos cpos : Pos} (slot : Slot "str" name id) (hty : typeOf (.builtin id) = pure (.type "method_descriptor")) (hm : MtR X id r) (hr : RuZ c (rMt1 r) f) (ho : ZO X c L W o oo)
    (hL : okL L [oo] = true := by rfl) (hbase : attributeBase o name X.env (eval o X.env) = eval o X.env := by rfl) (hline : (apos.endLine == cpos.line) = true := by rfl) : ZE X c L W (.Call (.Attribute o name apos) [] [] cpos) (mBm f oo []) :=
  PE.imp (pe_bm0 PySem.F.plainAttrs_str slot hty hm ho hbase hline) fun σ H Q h => mBm_rd (K := X.K) (o := oo) (ms := []) hr hL h
/-- x.m(..), x a slot's own object -/
theorem ze_mut {Tn id : String} {name x : Str} {i : Nat} {r : V → List V → Hp → VK → Prop} {g : G} {e : Expr} {es : List Expr} {ms : List (M T)} {px apos cpos : Pos} (hK : c.K = X.K) (pa : PlainAttrs Tn) (slot : Slot Tn name id) (hty : typeOf (.builtin id) = pure (.type "method_descriptor")) (hm : MtR X id r) (hr : RuM c r g) (hgm : ∀ d ds x, g d ds = some x → mutb d = true)
    (hv : PE X (.Name x px) (tVar i)) (ha : ZA X c L W (e :: es) ms) (hi : i < L := by decide) (hbase : attributeBase (.Name x px) name X.env (eval (.Name x px) X.env) = eval (.Name x px) X.env := by rfl)
    (hfew : ((backTo cpos (starEach (e :: es) X.env)).all (fun x => !x.1) && (backToKw cpos (keywordEach [] X.env)).all (fun x => x.1.isSome) && decide ((e :: es).length + ([] : List Keyword).length + (if ([] : List Keyword).isEmpty then 0 else 1) < 30)) = true := by rfl)
    (hline : (apos.endLine == cpos.line) = true := by rfl) (hs : starEach (e :: es) X.env = (false, eval e X.env) :: starEach es X.env := by rfl) (hplain : (backTo cpos (starEach es X.env)).any (·.1) = false := by rfl) : ZE X c L W (.Call (.Attribute (.Name x px) name apos) (e :: es) [] cpos) (mMut g Tn i ms) :=
  PE.imp (pe_bm pa slot hty hm hv ha hbase hfew hline hs hplain) fun σ H Q h => hK ▸ mMut_rd hr hgm hi h
theorem ze_mut0 {Tn id : String} {name x : Str} {i : Nat} {r : V → List V → Hp → VK → Prop} {g : G} {px apos cpos : Pos} (hK : c.K = X.K) (pa : PlainAttrs Tn) (slot : Slot Tn name id) (hty : typeOf (.builtin id) = pure (.type "method_descriptor")) (hm : MtR X id r) (hr : RuM c r g) (hgm : ∀ d ds x, g d ds = some x → mutb d = true)
    (hv : PE X (.Name x px) (tVar i)) (hi : i < L := by decide) (hbase : attributeBase (.Name x px) name X.env (eval (.Name x px) X.env) = eval (.Name x px) X.env := by rfl) (hline : (apos.endLine == cpos.line) = true := by rfl) : ZE X c L W (.Call (.Attribute (.Name x px) name apos) [] [] cpos) (mMut g Tn i []) :=
  PE.imp (pe_bm0 pa slot hty hm hv hbase hline) fun σ H Q h => hK ▸ (mMut_rd (ms := []) hr hgm hi h : tBM c.K Tn r (tVar i) (tMs c L W []) σ H Q)
/-- a op b op' c of ints -/
theorem ze_ch {op op' : CmpOp} {g g' : Int → Int → Bool} {a b d : Expr} {ma mb md : M T} (ho : OpR X (compareOp op) (rI0 fun i j => .bl (g i j))) (ho' : OpR X (compareOp op') (rI0 fun i j => .bl (g' i j))) (ha : ZE X c L W a ma) (hb : ZE X c L W b mb) (hd : ZE X c L W d md) (hm : lastMarks [op, op'] [b, d] = false := by with_unfolding_all rfl) : ZE X c L W (.Compare a [op, op'] [b, d] pos) (mCh g g' ma mb md) :=
  PE.imp (pe_chain ho ho' ha hb hd hm) fun σ H Q h => mCh_rd h
theorem zt_ch {op op' : CmpOp} {g g' : Int → Int → Bool} {a b d : Expr} {ma mb md : M T} (ho : OpR X (compareOp op) (rI0 fun i j => .bl (g i j))) (ho' : OpR X (compareOp op') (rI0 fun i j => .bl (g' i j))) (ha : ZE X c L W a ma) (hb : ZE X c L W b mb) (hd : ZE X c L W d md) (hm : lastMarks [op, op'] [b, d] = false := by with_unfolding_all rfl) : ZT X c L W (.Compare a [op, op'] [b, d] pos) (mB (mCh g g' ma mb md)) :=
  PT.imp (pt_chain ho ho' ha hb hd hm) fun σ H Q h => mCh_rd (mB_rd h)
/-- a, b = x, y -/
theorem zs_par {i j : Nat} {x y : Str} {a b : Expr} {ma mb : M T} {px py pt pt2 : Pos} {kt k2} (hc : X.calm = true) (hN : X.N.Nodup) (hi : X.N[i]? = some x) (hj : X.N[j]? = some y) (hij : i ≠ j) (hx : X.env.scope.names.lookup x = some .local) (hy : X.env.scope.names.lookup y = some .local) (ha : ZA X c L W [a, b] [ma, mb])
    (hw : swappedStores [.Tuple [.Name x px, .Name y py] kt pt] (.Tuple [a, b] k2 pt2) X.env = pure (some [x, y]) := by rfl) (hs : swapsWithSole [.Tuple [.Name x px, .Name y py] kt pt] (.Tuple [a, b] k2 pt2) pos.line X.env = pure false := by rfl) (hiL : i < L := by decide) (hjL : j < L := by decide) :
    ZS X c L W (.Assign [.Tuple [.Name x px, .Name y py] kt pt] (.Tuple [a, b] k2 pt2) pos) (mPar i j ma mb) :=
  PS.imp (ps_par hc hN hi hj hij hx hy ha hw hs) fun _ _ _ h => mPar_rd hiL hjL hij h

/-! keywords, in the parameters' order -/
abbrev ZK (X : Cx) (c : Zc) (L : Nat) (W : WX) (es : List Keyword) (as : List Ag) : Prop := PK X es (tAs c L W as)
theorem zk_nil : ZK X c L W [] [] := pk_nil
theorem zk_cons {nm : Option Str} {kpos : Pos} {e : Expr} {kws : List Keyword} {m : Ag} {ms : List Ag} (ha : ZG X c L W e m) (hr : ZK X c L W kws ms) : ZK X c L W (⟨nm, e, kpos⟩ :: kws) (m :: ms) := pk_cons ha hr
abbrev KB (K : PySem.W.Frag) (fd : FuncData) (ps ks : List Str) (ds : List Value) (dvs : List V) : Prop := KBinds K fd ps ks (fun us ws => us ++ ws ++ ds) fun vs zs => vs ++ zs ++ dvs
theorem run_kw {k : Nat} {f : Addr} {fd : FuncData} {ps ks : List Str} {ds : List Value} {dvs : List V} {sp : Sp} {pins : List (Addr × Obj)} {σ : St} {H : Hp} {s : Shared} {Q : VK} {us ws : List Value} {vs zs : List V} (tk : Takes X W) (F0 : FnOk X.prog X.w X.K X.mg X.base (L2.CX X.prog X.w) k f fd ps sp) (hr : Room k X.A) (hb : KB X.K fd ps ks ds dvs)
    (I : Inv X pins σ H s) (r : Vals vs us) (rz : Vals zs ws) (h : sp (vs ++ zs ++ dvs) H Q (fun cls d H' => W cls d σ H')) : wpAny (model X.prog X.w) X.A (call (.ref f) us (ks.zip ws)) (EP X pins σ Q) X.xe s := by
  have r2 : Vals (vs ++ zs ++ dvs) (us ++ ws ++ ds) := hb.rel r rz
  have hl : (us ++ ws ++ ds).length = ps.length := by rw [← r2.length]; exact F0.len _ _ _ _ h
  refine wpAny_call (codeAny_mono (F0.run X.A X.stack s H ⟨us, ks.zip ws⟩ (us ++ ws ++ ds) (vs ++ zs ++ dvs) Q (fun cls d H' => W cls d σ H') hr I.env0 (hb.to s us ws I.kIn hl) r2 h) fun r s' hq => ?_)
  match r, hq with
  | .error e, hq => exact passAt tk σ pins H s e s' I hq
  | .ok (.ret u), hq => exact I.after hq
theorem ze_kw0 {k np : Nat} {f : Addr} {fd : FuncData} {ps ks : List Str} {fn : Fn} {x : Str} {p : Pos} {kws : List Keyword} {as : List Ag} {ds : List Value} {dds : List D} {dvs : List V} (tk : Takes X W) (F0 : FnOk X.prog X.w X.K X.mg X.base (L2.CX X.prog X.w) k f fd ps (spZ c np fn)) (hr : Room k X.A) (hg : Gl X x) (hm : X.mg x = some (.ref f)) (hk : PySem.W.keepIn X.K (.ref f) = true)
    (hb : KB X.K fd ps ks ds dvs) (hdd : Paired (fun d v => ∀ Z, RF c Z d v) dds dvs) (ha : ZK X c L W kws as) (hnp : as.length + dds.length = np := by rfl) (hL : okA L as = true := by rfl) (hdb : (x == ("__debug__" : Str)) = false := by decide)
    (hall : (backToKw pos (keywordEach kws X.env)).all (·.1.isSome) = true := by rfl) (hks : (backToKw pos (keywordEach kws X.env)).filterMap (·.1) = ks := by rfl)
    (hpl : ((backTo pos (starEach [] X.env)).any (·.1) || (backToKw pos (keywordEach kws X.env)).any (·.1.isNone)) = false := by rfl) : ZE X c L W (.Call (.Name x p) [] kws pos) (mCall fn as dds) := by
  refine ⟨fun pins s σ H Q I h => wpAny_Call_Name_kw (ld_glob I hg hm ?_ hdb)⟩
  refine PySem.W.callWith_KW0 (h₀ := X.base) I.ok.mod.kin hk hall (thn (ha.run pos pins s σ H _ I (mCall_rd hL hnp hdd h)) fun ws s1 ⟨zs, H1, I1, rz, q⟩ => ⟨I1.kIn, ?_⟩) hpl
  rw [hks]
  exact run_kw (us := []) (vs := []) tk F0 hr hb I1 .nil rz q
theorem ze_kw {k np : Nat} {f : Addr} {fd : FuncData} {ps ks : List Str} {fn : Fn} {x : Str} {p : Pos} {e : Expr} {es : List Expr} {kws : List Keyword} {as bs : List Ag} {ds : List Value} {dds : List D} {dvs : List V} (tk : Takes X W) (F0 : FnOk X.prog X.w X.K X.mg X.base (L2.CX X.prog X.w) k f fd ps (spZ c np fn)) (hr : Room k X.A) (hg : Gl X x) (hm : X.mg x = some (.ref f)) (hk : PySem.W.keepIn X.K (.ref f) = true)
    (hb : KB X.K fd ps ks ds dvs) (hdd : Paired (fun d v => ∀ Z, RF c Z d v) dds dvs) (ha : ZGs X c L W (e :: es) as) (hkw : ZK X c L W kws bs) (hnp : (as ++ bs).length + dds.length = np := by rfl) (hL : okA L (as ++ bs) = true := by rfl) (hdb : (x == ("__debug__" : Str)) = false := by decide)
    (hall : (backToKw pos (keywordEach kws X.env)).all (·.1.isSome) = true := by rfl) (hks : (backToKw pos (keywordEach kws X.env)).filterMap (·.1) = ks := by rfl) (he : starEach (e :: es) X.env = (false, eval e X.env) :: starEach es X.env := by rfl)
    (hpl : ((backTo pos (starEach (e :: es) X.env)).any (·.1) || (backToKw pos (keywordEach kws X.env)).any (·.1.isNone)) = false := by rfl) : ZE X c L W (.Call (.Name x p) (e :: es) kws pos) (mCall fn (as ++ bs) dds) := by
  refine ⟨fun pins s σ H Q I h => wpAny_Call_Name_kw (ld_glob I hg hm ?_ hdb)⟩
  refine PySem.W.callWith_KW (h₀ := X.base) I.ok.mod.kin hk hall (thn (ha.run pos pins s σ H _ I (tAs_app (mCall_rd hL hnp hdd h))) fun us s1 ⟨vs, H1, I1, r, q⟩ => ?_) hpl he
  refine thn (hkw.run pos pins s1 σ H1 _ I1 q) fun ws s2 ⟨zs, H2, I2, rz, q2⟩ => ⟨I2.kIn, ?_⟩
  rw [hks]
  exact run_kw tk F0 hr hb I2 r rz q2
/-- how keywords bind, no default -/
theorem kb_of {K : PySem.W.Frag} {x qual : Str} {st : Stmt} {f : Addr} {fd : FuncData} {ps ks : List Str} (F0 : Fun K x qual st f fd)
    (h : ∀ (kV doc pm : Value) (an : Option Addr) (cdv ct : Value) (us ws : List Value), (us ++ ws).length = ps.length → bindArgs (PySem.W.fnOf x qual (defArgs st) (defBody st) (defScope st) .none kV doc pm an cdv ct) ⟨us, ks.zip ws⟩ = pure (ps.zip (us ++ ws))) : KB K fd ps ks [] [] := by
  obtain ⟨oc, od, kV, doc, pm, an, cdv, ct, osl, rfl, lk, hcd⟩ := F0.ex
  exact ⟨fun s us ws _ hl => by rw [List.append_nil] at hl ⊢; exact .of_eq (h kV doc pm an cdv ct us ws hl), fun r rz => by rw [List.append_nil, List.append_nil]; exact r.append rz⟩
end
end Z

namespace Z
open PySem L2
open PyProof.Rows (envOfC)
/-! ### defs of the module, by facts; promises by name -/
def Bd (c : Zc) (fd : FuncData) (ps : List Str) (dd : List D) : Prop := ∃ (ds : List Value) (dvs : List V), Binds c.K fd ps ds ∧ Vals dvs ds ∧ Paired (fun d v => ∀ Z, RF c Z d v) dd dvs
def Bk (c : Zc) (fd : FuncData) (ps ks : List Str) (dd : List D) : Prop := ∃ (ds : List Value) (dvs : List V), KB c.K fd ps ks ds dvs ∧ Paired (fun d v => ∀ Z, RF c Z d v) dd dvs
/-- what the top has written under that name: a def, how it binds -/
structure Df (c : Zc) (mg : Str → Option Value) (x : Str) (st : Stmt) (ps : List Str) (dds : List (List D)) (kks : List (List Str × List D)) : Prop where
  ex : ∃ (f : Addr) (fd : FuncData), Fun c.K x x st f fd ∧ mg x = some (.ref f) ∧ (∀ dd ∈ dds, Bd c fd ps dd) ∧ ∀ p ∈ kks, Bk c fd ps p.1 p.2
/-- what a def promises -/
structure Cl (P : Program) (w : World) (c : Zc) (mg : Str → Option Value) (base : Heap) (k : Nat) (x : Str) (ps : List Str) (fn : Fn) (dds : List (List D)) (kks : List (List Str × List D)) : Prop where
  ex : ∃ (f : Addr) (fd : FuncData), FnOk P w c.K mg base (L2.CX P w) k f fd ps (spZ c ps.length fn) ∧ mg x = some (.ref f) ∧ PySem.W.keepIn c.K (.ref f) = true ∧ (∀ dd ∈ dds, Bd c fd ps dd) ∧ ∀ p ∈ kks, Bk c fd ps p.1 p.2
section
variable {P : Program} {w : World} {c : Zc} {mg : Str → Option Value} {base : Heap}
theorem cl_of {x : Str} {st : Stmt} {N ps : List Str} {dds : List (List D)} {kks : List (List Str × List D)} {k : Nat} {body : M Fl} (D0 : Df c mg x st ps dds kks) (S0 : FnScope N ps (defScope st)) (hn : ps.length ≤ N.length)
    (hb : ∀ (f : Addr) (cdv : Value) (A : Around) (outer : List Env) (s : Shared) (H : Hp) (E : XK) (W : WX), Room k (A.deeper (envOfC x (defScope st) s.heap.objs.size f cdv)) → Takes (cxOf (L2.CX P w) P w c.K mg base N x (defScope st) f cdv A outer s H E) W →
      ZSs (cxOf (L2.CX P w) P w c.K mg base N x (defScope st) f cdv A outer s H E) c N.length W (defBody st) body) : Cl P w c mg base (k + 1) x ps (fnOf N.length body) dds kks := by
  obtain ⟨f, fd, F0, hm, h1, h2⟩ := D0.ex
  exact ⟨f, fd, ok_fn F0 S0 hn (hb f), hm, F0.kp, h1, h2⟩
end
section
variable {K : PySem.W.Frag} {c : Zc} {h : Heap} {mg : Str → Option Value}
theorem df_mk {x : Str} {st : Stmt} {ps : List Str} {dds : List (List D)} {kks : List (List Str × List D)} {f : Addr} {oc : Value} {od an : Option Addr} {osl : Array (Option Value)} {kV doc pm cdv ct : Value} (X0 : c.K.In h) (G0 : h.Ns PySem.mainGlobals mg) (a : PySem.W.nsIn c.K PySem.mainGlobals x = some (some (.ref f)))
    (l : c.K.lookup f = some ⟨oc, od, .func (PySem.W.fnOf x x (defArgs st) (defBody st) (defScope st) .none kV doc pm an cdv ct), osl⟩) (cc : PySem.W.codeIn c.K cdv x = true) (kk : PySem.W.keepIn c.K (.ref f) = true)
    (hb : ∀ fd, Fun c.K x x st f fd → (∀ dd ∈ dds, Bd c fd ps dd) ∧ ∀ p ∈ kks, Bk c fd ps p.1 p.2) : Df c mg x st ps dds kks := by
  have F0 := fun_mk (st := st) l cc kk
  exact ⟨f, _, F0, PySem.W.mg_of X0 G0 a, hb _ F0⟩
theorem bd_of {x : Str} {st : Stmt} {ps : List Str} {f : Addr} {fd : FuncData} (F0 : Fun c.K x x st f fd) (hh : ∀ (kV doc pm : Value) (an : Option Addr) (cdv ct : Value) (us : List Value), us.length = ps.length → bindArgs (PySem.W.fnOf x x (defArgs st) (defBody st) (defScope st) .none kV doc pm an cdv ct) ⟨us, []⟩ = pure (ps.zip us)) : Bd c fd ps [] :=
  ⟨[], [], F0.binds hh, .nil, .nil⟩
theorem bk_of {x : Str} {st : Stmt} {ps ks : List Str} {f : Addr} {fd : FuncData} (F0 : Fun c.K x x st f fd)
    (hh : ∀ (kV doc pm : Value) (an : Option Addr) (cdv ct : Value) (us ws : List Value), (us ++ ws).length = ps.length → bindArgs (PySem.W.fnOf x x (defArgs st) (defBody st) (defScope st) .none kV doc pm an cdv ct) ⟨us, ks.zip ws⟩ = pure (ps.zip (us ++ ws))) : Bk c fd ps ks [] :=
  ⟨[], [], kb_of F0 hh, .nil⟩
end
section
variable {X : Cx} {c : Zc} {L : Nat} {W : WX} {pos : Pos}
theorem zc_ca {k j : Nat} {ps : List Str} {fn : Fn} {dds : List (List D)} {kks : List (List Str × List D)} {x : Str} {p : Pos} {e : Expr} {es : List Expr} {as : List Ag} (dd : List D) (tk : Takes X W) (C0 : Cl X.prog X.w c X.mg X.base k x ps fn dds kks) (hr : Room j X.A) (hkj : k ≤ j) (hd : dd ∈ dds) (ha : ZGs X c L W (e :: es) as) (hK : c.K = X.K := by rfl)
    (hg : Gl X x := by rfl) (hnp : as.length + dd.length = ps.length := by rfl) (hL : okA L as = true := by rfl) (hdb : (x == ("__debug__" : Str)) = false := by decide)
    (he : starEach (e :: es) X.env = (false, eval e X.env) :: starEach es X.env := by rfl) (hpl : (backTo pos (starEach es X.env)).any (·.1) = false := by rfl) : ZE X c L W (.Call (.Name x p) (e :: es) [] pos) (mCall fn as dd) := by
  obtain ⟨K0, cl0⟩ := c
  cases hK
  obtain ⟨f, fd, F0, hm, hk, h1, _⟩ := C0.ex
  obtain ⟨ds, dvs, b1, b2, b3⟩ := h1 dd hd
  exact ze_call tk F0 (hr.mono hkj) hg hm hk b1 b2 b3 ha hnp hL hdb he hpl
theorem zc_ca0 {k j : Nat} {ps : List Str} {fn : Fn} {dds : List (List D)} {kks : List (List Str × List D)} {x : Str} {p : Pos} (dd : List D) (tk : Takes X W) (C0 : Cl X.prog X.w c X.mg X.base k x ps fn dds kks) (hr : Room j X.A) (hkj : k ≤ j) (hd : dd ∈ dds) (hK : c.K = X.K := by rfl)
    (hg : Gl X x := by rfl) (hnp : dd.length = ps.length := by rfl) (hdb : (x == ("__debug__" : Str)) = false := by decide) : ZE X c L W (.Call (.Name x p) [] [] pos) (mCall fn [] dd) := by
  obtain ⟨K0, cl0⟩ := c
  cases hK
  obtain ⟨f, fd, F0, hm, hk, h1, _⟩ := C0.ex
  obtain ⟨ds, dvs, b1, b2, b3⟩ := h1 dd hd
  exact ze_call0 tk F0 (hr.mono hkj) hg hm hk b1 b2 b3 hnp hdb
theorem zc_kw0 {k j : Nat} {ps ks : List Str} {fn : Fn} {dds : List (List D)} {kks : List (List Str × List D)} {x : Str} {p : Pos} {kws : List Keyword} {as : List Ag} (dd : List D) (tk : Takes X W) (C0 : Cl X.prog X.w c X.mg X.base k x ps fn dds kks) (hr : Room j X.A) (hkj : k ≤ j) (hd : (ks, dd) ∈ kks) (ha : ZK X c L W kws as) (hK : c.K = X.K := by rfl)
    (hg : Gl X x := by rfl) (hnp : as.length + dd.length = ps.length := by rfl) (hL : okA L as = true := by rfl) (hdb : (x == ("__debug__" : Str)) = false := by decide)
    (hall : (backToKw pos (keywordEach kws X.env)).all (·.1.isSome) = true := by rfl) (hks : (backToKw pos (keywordEach kws X.env)).filterMap (·.1) = ks := by rfl)
    (hpl : ((backTo pos (starEach [] X.env)).any (·.1) || (backToKw pos (keywordEach kws X.env)).any (·.1.isNone)) = false := by rfl) : ZE X c L W (.Call (.Name x p) [] kws pos) (mCall fn as dd) := by
  obtain ⟨K0, cl0⟩ := c
  cases hK
  obtain ⟨f, fd, F0, hm, hk, _, h1⟩ := C0.ex
  obtain ⟨ds, dvs, b1, b3⟩ := h1 _ hd
  exact ze_kw0 tk F0 (hr.mono hkj) hg hm hk b1 b3 ha hnp hL hdb hall hks hpl
theorem zc_kw {k j : Nat} {ps ks : List Str} {fn : Fn} {dds : List (List D)} {kks : List (List Str × List D)} {x : Str} {p : Pos} {e : Expr} {es : List Expr} {kws : List Keyword} {as bs : List Ag} (dd : List D) (tk : Takes X W) (C0 : Cl X.prog X.w c X.mg X.base k x ps fn dds kks) (hr : Room j X.A) (hkj : k ≤ j) (hd : (ks, dd) ∈ kks) (ha : ZGs X c L W (e :: es) as) (hkw : ZK X c L W kws bs) (hK : c.K = X.K := by rfl)
    (hg : Gl X x := by rfl) (hnp : (as ++ bs).length + dd.length = ps.length := by rfl) (hL : okA L (as ++ bs) = true := by rfl) (hdb : (x == ("__debug__" : Str)) = false := by decide)
    (hall : (backToKw pos (keywordEach kws X.env)).all (·.1.isSome) = true := by rfl) (hks : (backToKw pos (keywordEach kws X.env)).filterMap (·.1) = ks := by rfl) (he : starEach (e :: es) X.env = (false, eval e X.env) :: starEach es X.env := by rfl)
    (hpl : ((backTo pos (starEach (e :: es) X.env)).any (·.1) || (backToKw pos (keywordEach kws X.env)).any (·.1.isNone)) = false := by rfl) : ZE X c L W (.Call (.Name x p) (e :: es) kws pos) (mCall fn (as ++ bs) dd) := by
  obtain ⟨K0, cl0⟩ := c
  cases hK
  obtain ⟨f, fd, F0, hm, hk, _, h1⟩ := C0.ex
  obtain ⟨ds, dvs, b1, b3⟩ := h1 _ hd
  exact ze_kw tk F0 (hr.mono hkj) hg hm hk b1 b3 ha hkw hnp hL hdb hall hks he hpl
/-! ### names in short -/
theorem vE (i : Nat) {x : Str} (hN : X.N[i]? = some x := by rfl) (hv : Vis X.env.scope x := by first | exact Or.inl rfl | exact Or.inr (Or.inl rfl) | exact Or.inr (Or.inr rfl)) (hi : i < L := by decide) (hd : (x == ("__debug__" : Str)) = false := by decide) (hcd : (x == ("__classdict__" : Str)) = false := by decide) : ZE X c L W (.Name x pos) (mNm i) := ze_nm hN hv hi hd hcd
theorem vO (i : Nat) {x : Str} (hN : X.N[i]? = some x := by rfl) (hv : Vis X.env.scope x := by first | exact Or.inl rfl | exact Or.inr (Or.inl rfl) | exact Or.inr (Or.inr rfl)) (hd : (x == ("__debug__" : Str)) = false := by decide) (hcd : (x == ("__classdict__" : Str)) = false := by decide) : ZO X c L W (.Name x pos) (.nm i) := zo_nm hN hv hd hcd
theorem vG (i : Nat) {x : Str} (hN : X.N[i]? = some x := by rfl) (hv : Vis X.env.scope x := by first | exact Or.inl rfl | exact Or.inr (Or.inl rfl) | exact Or.inr (Or.inr rfl)) (hd : (x == ("__debug__" : Str)) = false := by decide) (hcd : (x == ("__classdict__" : Str)) = false := by decide) : ZG X c L W (.Name x pos) (.bo i) := zg_bo hN hv hd hcd
theorem ze_gl {x : Str} {v : V} {u : Value} {d : D} (hm : X.mg x = some u) (r : RelV v u) (h : ∀ Z, RF c Z d v) (hg : Gl X x := by rfl) (hd : (x == ("__debug__" : Str)) = false := by decide) : ZE X c L W (.Name x pos) (mC d) := ze_c (pe_glob hg hm r hd) h
/-- what stands under a global name -/
def Gv (c : Zc) (mg : Str → Option Value) (x : Str) (d : D) : Prop := ∃ (v : V) (u : Value), mg x = some u ∧ RelV v u ∧ ∀ Z, RF c Z d v
theorem ze_gv {x : Str} {d : D} (h : Gv c X.mg x d) (hg : Gl X x := by rfl) (hd : (x == ("__debug__" : Str)) = false := by decide) : ZE X c L W (.Name x pos) (mC d) := by
  obtain ⟨v, u, h1, h2, h3⟩ := h
  exact ze_gl h1 h2 h3 hg hd
theorem zp_nm {i : Nat} {x : Str} (hN : X.N.Nodup) (hi : X.N[i]? = some x := by rfl) (hx : Loc X.env.scope x := by first | exact Or.inl rfl | exact Or.inr rfl) (hf : X.fn x = true ∨ X.env.scope.names.lookup x = some .local := by first | exact .inl rfl | exact .inr rfl) : PG X (.Name x pos) (gName i) := pg_name hN hi hx hf
theorem vS (i : Nat) {x : Str} {e : Expr} {m : M T} {pos' : Pos} (hN : X.N.Nodup) (he : ZE X c L W e m) (hi : X.N[i]? = some x := by rfl) (hx : Loc X.env.scope x := by first | exact Or.inl rfl | exact Or.inr rfl) (hL : i < L := by decide) (hs : swapsWith e (some (.Name x pos')) pos.line X.env = pure false := by rfl)
    (hf : X.fn x = true ∨ X.env.scope.names.lookup x = some .local := by first | exact .inl rfl | exact .inr rfl) : ZS X c L W (.Assign [.Name x pos'] e pos) (mAsg i m) := zs_asg hN hi hx he hL hs hf
/-! ### built-ins -/
theorem b_len {e : Expr} {o : Opd} {p : Pos} (hm : X.mg "len" = none) (ha : ZO X c L W e o) (hK : c.K = X.K := by rfl) (hg : Gl X "len" := by rfl) (hL : okL L [o] = true := by rfl) (he : starEach [e] X.env = [(false, eval e X.env)] := by rfl) : ZE X c L W (.Call (.Name "len" p) [e] [] pos) (mOp fLen [o]) :=
  ze_cb (crLen hK) ruLen hg hm PySem.boot_len (zos_cons ha zos_nil he) hL (he := he)
theorem b_abs {e : Expr} {o : Opd} {p : Pos} (hm : X.mg "abs" = none) (ha : ZO X c L W e o) (hg : Gl X "abs" := by rfl) (hL : okL L [o] = true := by rfl) (he : starEach [e] X.env = [(false, eval e X.env)] := by rfl) : ZE X c L W (.Call (.Name "abs" p) [e] [] pos) (mOp fAbs [o]) :=
  ze_cb call_abs ruAbs hg hm (by decide +kernel) (zos_cons ha zos_nil he) hL (he := he)
theorem b_all {e : Expr} {o : Opd} {p : Pos} (hm : X.mg "all" = none) (ha : ZO X c L W e o) (hK : c.K = X.K := by rfl) (hc : X.calm = true := by rfl) (hg : Gl X "all" := by rfl) (hL : okL L [o] = true := by rfl) (he : starEach [e] X.env = [(false, eval e X.env)] := by rfl) : ZE X c L W (.Call (.Name "all" p) [e] [] pos) (mOp fAll [o]) :=
  ze_cb (hK ▸ cr_all hc) ruAll hg hm (by decide +kernel) (zos_cons ha zos_nil he) hL (he := he)
theorem b_any {e : Expr} {o : Opd} {p : Pos} (hm : X.mg "any" = none) (ha : ZO X c L W e o) (hK : c.K = X.K := by rfl) (hc : X.calm = true := by rfl) (hg : Gl X "any" := by rfl) (hL : okL L [o] = true := by rfl) (he : starEach [e] X.env = [(false, eval e X.env)] := by rfl) : ZE X c L W (.Call (.Name "any" p) [e] [] pos) (mOp fAny [o]) :=
  ze_cb (hK ▸ cr_any hc) ruAny hg hm (by decide +kernel) (zos_cons ha zos_nil he) hL (he := he)
theorem b_int {e : Expr} {o : Opd} {p : Pos} (hm : X.mg "int" = none) (ha : ZO X c L W e o) (hg : Gl X "int" := by rfl) (hL : okL L [o] = true := by rfl) (he : starEach [e] X.env = [(false, eval e X.env)] := by rfl) : ZE X c L W (.Call (.Name "int" p) [e] [] pos) (mOp fInt [o]) :=
  ze_ct call_int1 ruInt hg hm (by decide +kernel) (zos_cons ha zos_nil he) hL (he := he)
theorem b_list {e : Expr} {o : Opd} {p : Pos} (hm : X.mg "list" = none) (ha : ZO X c L W e o) (hK : c.K = X.K := by rfl) (hg : Gl X "list" := by rfl) (hL : okL L [o] = true := by rfl) (he : starEach [e] X.env = [(false, eval e X.env)] := by rfl) : ZE X c L W (.Call (.Name "list" p) [e] [] pos) (mOp fList [o]) :=
  ze_ct (hK ▸ call_list_of) ruList hg hm (by decide +kernel) (zos_cons ha zos_nil he) hL (he := he)
theorem b_tuple {e : Expr} {o : Opd} {p : Pos} (hm : X.mg "tuple" = none) (ha : ZO X c L W e o) (hK : c.K = X.K := by rfl) (hg : Gl X "tuple" := by rfl) (hL : okL L [o] = true := by rfl) (he : starEach [e] X.env = [(false, eval e X.env)] := by rfl) : ZE X c L W (.Call (.Name "tuple" p) [e] [] pos) (mOp fTup [o]) :=
  ze_ct (hK ▸ call_tuple_of) ruTup hg hm (by decide +kernel) (zos_cons ha zos_nil he) hL (he := he)
theorem b_isi {e : Expr} {o : Opd} {p tp : Pos} {tx : Str} {Tn : String} (hm : X.mg "isinstance" = none) (ht : X.mg tx = none) (hb : bootBuiltins tx = some (.type Tn)) (ho : ZO X c L W e o) (hK : c.K = X.K := by rfl) (hg : Gl X "isinstance" := by rfl) (hgt : Gl X tx := by rfl) (hL : okL L [o] = true := by rfl)
    (hn : tx ≠ "__name__" := by decide) (hdb : (tx == ("__debug__" : Str)) = false := by decide)
    (h1 : starEach [e, .Name tx tp] X.env = (false, eval e X.env) :: starEach [.Name tx tp] X.env := by rfl) (h2 : starEach [.Name tx tp] X.env = (false, eval (.Name tx tp) X.env) :: starEach [] X.env := by rfl) (h3 : (backTo pos (starEach [.Name tx tp] X.env)).any (·.1) = false := by rfl) : ZE X c L W (.Call (.Name "isinstance" p) [e, .Name tx tp] [] pos) (mOp (fIsi Tn) [o]) :=
  ze_isi (x := tx) hK hg hm ho (pe_bltn hgt ht hb rfl hn hdb) hL h1 h2 h3
/-! ### text methods -/
theorem m_join {o e : Expr} {oo : Opd} {m : M T} {apos cpos : Pos} (ho : ZO X c L W o oo) (he : ZE X c L W e m) (hK : c.K = X.K := by rfl) (hL : okL L [oo] = true := by rfl) (hbase : attributeBase o "join" X.env (eval o X.env) = eval o X.env := by rfl)
    (hfew : ((backTo cpos (starEach [e] X.env)).all (fun x => !x.1) && (backToKw cpos (keywordEach [] X.env)).all (fun x => x.1.isSome) && decide ([e].length + ([] : List Keyword).length + (if ([] : List Keyword).isEmpty then 0 else 1) < 30)) = true := by rfl)
    (hline : (apos.endLine == cpos.line) = true := by rfl) (hs : starEach [e] X.env = [(false, eval e X.env)] := by rfl) : ZE X c L W (.Call (.Attribute o "join" apos) [e] [] cpos) (mBm fJoin oo [m]) :=
  ze_bm PySem.F.slot_str_join PySem.F.type_str_join (hK ▸ mt_join) ruJoin ho (za_cons he za_nil hs) hL hbase hfew hline hs
theorem m_split {o e : Expr} {oo : Opd} {m : M T} {apos cpos : Pos} (ho : ZO X c L W o oo) (he : ZE X c L W e m) (hL : okL L [oo] = true := by rfl) (hbase : attributeBase o "split" X.env (eval o X.env) = eval o X.env := by rfl)
    (hfew : ((backTo cpos (starEach [e] X.env)).all (fun x => !x.1) && (backToKw cpos (keywordEach [] X.env)).all (fun x => x.1.isSome) && decide ([e].length + ([] : List Keyword).length + (if ([] : List Keyword).isEmpty then 0 else 1) < 30)) = true := by rfl)
    (hline : (apos.endLine == cpos.line) = true := by rfl) (hs : starEach [e] X.env = [(false, eval e X.env)] := by rfl) : ZE X c L W (.Call (.Attribute o "split" apos) [e] [] cpos) (mBm fSplit oo [m]) :=
  ze_bm PySem.F.slot_str_split PySem.F.type_str_split mt_split ruSplit ho (za_cons he za_nil hs) hL hbase hfew hline hs
end
end Z

namespace Z
open PySem L2
theorem mem_ix {α : Type} {l : List α} {i : Nat} {x : α} (h : l[i]? = some x) : x ∈ l := List.mem_of_getElem? h
def fNeg : F
  | [(.int i, _)] => some (.int (-i), 0)
  | _ => none
section
variable {c : Zc}
theorem ruNeg : RuZ c (r1 (rU fun i => .int (-i))) fNeg := by
  intro Z H fp vs ts t Q e s h k
  match ts, e with
  | [(.int i, n)], e =>
    obtain ⟨x, rfl, hx⟩ := tre1 h
    cases e
    exact ⟨i, tre_int hx, kF s k .int⟩
end
end Z

/-! the mirrors run, by simp -/
namespace Z
open PySem L2
/-! what comes behind a first part -/
def thn1 {α β : Type} (f : α → S → R β) : R α → R β
  | .ok a s => f a s
  | .ex x s => .ex x s
  | .no => .no
@[simp] theorem thn1_ok {α β : Type} {f : α → S → R β} {a : α} {s : S} : thn1 f (.ok a s) = f a s := rfl
@[simp] theorem thn1_ex {α β : Type} {f : α → S → R β} {x : Ex} {s : S} : thn1 f (.ex x s) = .ex x s := rfl
@[simp] theorem thn1_no {α β : Type} {f : α → S → R β} : thn1 f .no = .no := rfl
def fromO {α : Type} (s : S) : Option α → R α
  | some a => .ok a s
  | none => .no
@[simp] theorem fromO_some {α : Type} {s : S} {a : α} : fromO s (some a) = .ok a s := rfl
@[simp] theorem fromO_none {α : Type} {s : S} : fromO s (none : Option α) = .no := rfl

/-! slots -/
@[simp] theorem tre_0o {d : D} {n : Nat} {r : S} : tre (.ow d n :: r) 0 = some (d, n) := rfl
theorem loc_def {s : S} {i : Nat} : loc s i = match s[i]? with | some (.pa j) => j | _ => i := rfl
theorem tre_def {s : S} {i : Nat} : tre s i = at' s (loc s i) := rfl
theorem at_def {s : S} {j : Nat} : at' s j = match s[j]? with | some (.ow d n) => some (d, n) | _ => none := rfl

/-! operands -/
def evK1 (h : Option T) : R (List (Option T)) → R (List (Option T)) := thn1 fun hs s => .ok (h :: hs) s
def evK (os : List Opd) : R (Option T) → R (List (Option T)) := thn1 fun h s => evK1 h (evs os s)
@[simp] theorem evK1_ok {h : Option T} {hs : List (Option T)} {s : S} : evK1 h (.ok hs s) = .ok (h :: hs) s := rfl
@[simp] theorem evK1_ex {h : Option T} {x : Ex} {s : S} : evK1 h (.ex x s) = .ex x s := rfl
@[simp] theorem evK_ok {os : List Opd} {h : Option T} {s : S} : evK os (.ok h s) = evK1 h (evs os s) := rfl
@[simp] theorem evK_ex {os : List Opd} {x : Ex} {s : S} : evK os (.ex x s) = .ex x s := rfl
@[simp] theorem evs_nil {s : S} : evs [] s = .ok [] s := rfl
@[simp] theorem evs_cons {o : Opd} {os : List Opd} {s : S} : evs (o :: os) s = evK os (o.ev s) := by
  show evs (o :: os) s = _
  unfold evs evK evK1
  cases o.ev s with
  | no => rfl
  | ex x s => rfl
  | ok h s =>
    show _ = thn1 _ (evs os s)
    simp only
    cases evs os s <;> rfl
def nmK (s : S) : Option T → R (Option T)
  | some _ => .ok none s
  | none => .no
@[simp] theorem nmK_some {s : S} {t : T} : nmK s (some t) = .ok none s := rfl
def tmK : R T → R (Option T) := thn1 fun t s => .ok (some t) s
@[simp] theorem tmK_ok {t : T} {s : S} : tmK (.ok t s) = .ok (some t) s := rfl
@[simp] theorem tmK_ex {x : Ex} {s : S} : tmK (.ex x s) = .ex x s := rfl
@[simp] theorem ev_nm {i : Nat} {s : S} : (Opd.nm i).ev s = nmK s (tre s i) := by
  show (match tre s i with | some _ => _ | none => _) = _
  cases tre s i <;> rfl
@[simp] theorem ev_tm {m : M T} {s : S} : (Opd.tm m).ev s = tmK (m s) := by
  show (match m s with | .ok t s' => _ | .ex x s' => _ | .no => _) = _
  cases m s <;> rfl
def geK (t : Option T) (o : Option (List T)) : Option (List T) := match t, o with
  | some t, some ts => some (t :: ts)
  | _, _ => none
@[simp] theorem geK_some {t : T} {ts : List T} : geK (some t) (some ts) = some (t :: ts) := rfl
@[simp] theorem gets_nil {s : S} : gets [] [] s = some [] := rfl
@[simp] theorem gets_nm {i : Nat} {os : List Opd} {hs : List (Option T)} {s : S} : gets (.nm i :: os) (none :: hs) s = geK (tre s i) (gets os hs s) := by
  show (match tre s i with | some t => _ | none => _) = _
  cases tre s i <;> cases gets os hs s <;> rfl
@[simp] theorem gets_tm {m : M T} {os : List Opd} {t : T} {hs : List (Option T)} {s : S} : gets (.tm m :: os) (some t :: hs) s = geK (some t) (gets os hs s) := by
  show (gets os hs s).map _ = _
  cases gets os hs s <;> rfl
def opK1 (f : F) (s : S) : Option (List T) → R T
  | some ts => fromO s (f ts)
  | none => .no
def opK (f : F) (os : List Opd) : R (List (Option T)) → R T := thn1 fun hs s => opK1 f s (gets os hs s)
@[simp] theorem opK1_some {f : F} {s : S} {ts : List T} : opK1 f s (some ts) = fromO s (f ts) := rfl
@[simp] theorem opK_ok {f : F} {os : List Opd} {hs : List (Option T)} {s : S} : opK f os (.ok hs s) = opK1 f s (gets os hs s) := rfl
@[simp] theorem opK_ex {f : F} {os : List Opd} {x : Ex} {s : S} : opK f os (.ex x s) = .ex x s := rfl
@[simp] theorem mOp_eq {f : F} {os : List Opd} {s : S} : mOp f os s = opK f os (evs os s) := by
  unfold mOp opK
  cases evs os s with
  | no => rfl
  | ex x s => rfl
  | ok hs s =>
    show (match gets os hs s with | some ts => _ | none => _) = opK1 f s (gets os hs s)
    cases gets os hs s with
    | none => rfl
    | some ts =>
      show (match f ts with | some ts => _ | none => _) = fromO s (f ts)
      cases f ts <;> rfl
/-! values one after another -/
def emK1 (t : T) : R (List T) → R (List T) := thn1 fun hs s => .ok (t :: hs) s
def emK (ms : List (M T)) : R T → R (List T) := thn1 fun h s => emK1 h (evm ms s)
@[simp] theorem emK1_ok {h : T} {hs : List T} {s : S} : emK1 h (.ok hs s) = .ok (h :: hs) s := rfl
@[simp] theorem emK1_ex {h : T} {x : Ex} {s : S} : emK1 h (.ex x s) = .ex x s := rfl
@[simp] theorem emK_ok {os : List (M T)} {h : T} {s : S} : emK os (.ok h s) = emK1 h (evm os s) := rfl
@[simp] theorem emK_ex {os : List (M T)} {x : Ex} {s : S} : emK os (.ex x s) = .ex x s := rfl
@[simp] theorem evm_nil {s : S} : evm [] s = .ok [] s := rfl
@[simp] theorem evm_cons {m : M T} {ms : List (M T)} {s : S} : evm (m :: ms) s = emK ms (m s) := by
  show evm (m :: ms) s = _
  unfold evm emK emK1
  cases m s with
  | no => rfl
  | ex x s => rfl
  | ok h s =>
    show _ = thn1 _ (evm ms s)
    simp only
    cases evm ms s <;> rfl
def nmV (s : S) (i : Nat) : Option T → R T
  | some (d, 0) => .ok (d, 0) s
  | some (d, _ + 1) => .ok (d, 0) (s.set (loc s i) (.ow d 0))
  | none => .no
@[simp] theorem nmV_0 {s : S} {i : Nat} {d : D} : nmV s i (some (d, 0)) = .ok (d, 0) s := rfl
@[simp] theorem nmV_1 {s : S} {i : Nat} {d : D} : nmV s i (some (d, 1)) = .ok (d, 0) (s.set (loc s i) (.ow d 0)) := rfl
@[simp] theorem mNm_eq {i : Nat} {s : S} : mNm i s = nmV s i (tre s i) := by
  unfold mNm nmV
  cases tre s i with
  | none => rfl
  | some t =>
    obtain ⟨d, n⟩ := t
    cases n <;> rfl
@[simp] theorem mC_eq {d : D} {s : S} : mC d s = .ok (d, 0) s := rfl
def tuK : R (List T) → R T := thn1 fun ts s => .ok (.tup (ts.map (·.1)), 0) s
def lsK : R (List T) → R T := thn1 fun ts s => .ok (.lst (ts.map (·.1)), 1) s
@[simp] theorem tuK_ok {ts : List T} {s : S} : tuK (.ok ts s) = .ok (.tup (ts.map (·.1)), 0) s := rfl
@[simp] theorem lsK_ok {ts : List T} {s : S} : lsK (.ok ts s) = .ok (.lst (ts.map (·.1)), 1) s := rfl
@[simp] theorem tuK_ex {x : Ex} {s : S} : tuK (.ex x s) = .ex x s := rfl
@[simp] theorem lsK_ex {x : Ex} {s : S} : lsK (.ex x s) = .ex x s := rfl
@[simp] theorem mTup_eq {ms : List (M T)} {s : S} : mTup ms s = tuK (evm ms s) := by unfold mTup tuK; cases evm ms s <;> rfl
@[simp] theorem mLst_eq {ms : List (M T)} {s : S} : mLst ms s = lsK (evm ms s) := by unfold mLst lsK; cases evm ms s <;> rfl
/-! tests -/
def bK : R T → R Bool
  | .ok (.bl b, _) s => .ok b s
  | .ok _ _ => .no
  | .ex x s => .ex x s
  | .no => .no
@[simp] theorem bK_ok {b : Bool} {n : Nat} {s : S} : bK (.ok (.bl b, n) s) = .ok b s := rfl
@[simp] theorem bK_ex {x : Ex} {s : S} : bK (.ex x s) = .ex x s := rfl
@[simp] theorem mB_eq {m : M T} {s : S} : mB m s = bK (m s) := by
  unfold mB bK
  cases m s with
  | ok t s => obtain ⟨d, n⟩ := t; cases d <;> rfl
  | _ => rfl
def trK1 (s : S) : Option (List T) → R Bool
  | some [t] => fromO s (truT t)
  | _ => .no
def trK (o : Opd) : R (List (Option T)) → R Bool := thn1 fun hs s => trK1 s (gets [o] hs s)
@[simp] theorem trK1_some {s : S} {t : T} : trK1 s (some [t]) = fromO s (truT t) := rfl
@[simp] theorem trK_ok {o : Opd} {hs : List (Option T)} {s : S} : trK o (.ok hs s) = trK1 s (gets [o] hs s) := rfl
@[simp] theorem trK_ex {o : Opd} {x : Ex} {s : S} : trK o (.ex x s) = .ex x s := rfl
@[simp] theorem mTru_eq {o : Opd} {s : S} : mTru o s = trK o (evs [o] s) := by
  unfold mTru trK
  cases evs [o] s with
  | no => rfl
  | ex x s => rfl
  | ok hs s =>
    show _ = trK1 s (gets [o] hs s)
    simp only
    cases gets [o] hs s with
    | none => rfl
    | some ts =>
      match ts with
      | [] => rfl
      | [t] =>
        show (match truT t with | some b => _ | none => _) = fromO s (truT t)
        cases truT t <;> rfl
      | _ :: _ :: _ => rfl
@[simp] theorem truT_non {n : Nat} : truT (.non, n) = some false := rfl
@[simp] theorem truT_bl {b : Bool} {n : Nat} : truT (.bl b, n) = some b := rfl
@[simp] theorem truT_int {i : Int} {n : Nat} : truT (.int i, n) = some (i != 0) := rfl
@[simp] theorem truT_lst {xs : List D} {n : Nat} : truT (.lst xs, n) = some (!xs.isEmpty) := rfl
@[simp] theorem truT_tup {xs : List D} {n : Nat} : truT (.tup xs, n) = some (!xs.isEmpty) := rfl
@[simp] theorem truT_rol {xs : List D} {n : Nat} : truT (.rol xs, n) = some (!xs.isEmpty) := rfl
def anK (b : M Bool) : R Bool → R Bool
  | .ok true s => b s
  | r => r
def orK (b : M Bool) : R Bool → R Bool
  | .ok false s => b s
  | r => r
def noK : R Bool → R Bool
  | .ok b s => .ok (!b) s
  | r => r
@[simp] theorem anK_t {b : M Bool} {s : S} : anK b (.ok true s) = b s := rfl
@[simp] theorem anK_f {b : M Bool} {s : S} : anK b (.ok false s) = .ok false s := rfl
@[simp] theorem anK_ex {b : M Bool} {x : Ex} {s : S} : anK b (.ex x s) = .ex x s := rfl
@[simp] theorem orK_t {b : M Bool} {s : S} : orK b (.ok true s) = .ok true s := rfl
@[simp] theorem orK_f {b : M Bool} {s : S} : orK b (.ok false s) = b s := rfl
@[simp] theorem orK_ex {b : M Bool} {x : Ex} {s : S} : orK b (.ex x s) = .ex x s := rfl
@[simp] theorem noK_ok {b : Bool} {s : S} : noK (.ok b s) = .ok (!b) s := rfl
@[simp] theorem noK_ex {x : Ex} {s : S} : noK (.ex x s) = .ex x s := rfl
@[simp] theorem mAndT_eq {a b : M Bool} {s : S} : mAndT a b s = anK b (a s) := by
  unfold mAndT anK
  cases a s with
  | ok k s => cases k <;> rfl
  | _ => rfl
@[simp] theorem mOrT_eq {a b : M Bool} {s : S} : mOrT a b s = orK b (a s) := by
  unfold mOrT orK
  cases a s with
  | ok k s => cases k <;> rfl
  | _ => rfl
@[simp] theorem mNotT_eq {a : M Bool} {s : S} : mNotT a s = noK (a s) := by unfold mNotT noK; cases a s <;> rfl
def anV (b : M T) : R T → R T
  | .ok (.bl true, _) s => b s
  | .ok (.bl false, _) s => .ok (.bl false, 0) s
  | .ok _ _ => .no
  | r => r
def orV (b : M T) : R T → R T
  | .ok (.bl false, _) s => b s
  | .ok (.bl true, _) s => .ok (.bl true, 0) s
  | .ok _ _ => .no
  | r => r
def noV : R T → R T
  | .ok (.bl b, _) s => .ok (.bl (!b), 0) s
  | .ok _ _ => .no
  | r => r
@[simp] theorem anV_t {b : M T} {n : Nat} {s : S} : anV b (.ok (.bl true, n) s) = b s := rfl
@[simp] theorem anV_f {b : M T} {n : Nat} {s : S} : anV b (.ok (.bl false, n) s) = .ok (.bl false, 0) s := rfl
@[simp] theorem anV_ex {b : M T} {x : Ex} {s : S} : anV b (.ex x s) = .ex x s := rfl
@[simp] theorem orV_t {b : M T} {n : Nat} {s : S} : orV b (.ok (.bl true, n) s) = .ok (.bl true, 0) s := rfl
@[simp] theorem orV_f {b : M T} {n : Nat} {s : S} : orV b (.ok (.bl false, n) s) = b s := rfl
@[simp] theorem orV_ex {b : M T} {x : Ex} {s : S} : orV b (.ex x s) = .ex x s := rfl
@[simp] theorem noV_ok {b : Bool} {n : Nat} {s : S} : noV (.ok (.bl b, n) s) = .ok (.bl (!b), 0) s := rfl
@[simp] theorem mAnd_eq {a b : M T} {s : S} : mAnd a b s = anV b (a s) := by
  unfold mAnd anV
  cases a s with
  | ok t s =>
    obtain ⟨d, n⟩ := t
    cases d with
    | bl k => cases k <;> rfl
    | _ => rfl
  | _ => rfl
@[simp] theorem mOr_eq {a b : M T} {s : S} : mOr a b s = orV b (a s) := by
  unfold mOr orV
  cases a s with
  | ok t s =>
    obtain ⟨d, n⟩ := t
    cases d with
    | bl k => cases k <;> rfl
    | _ => rfl
  | _ => rfl
@[simp] theorem mNot_eq {a : M T} {s : S} : mNot a s = noV (a s) := by
  unfold mNot noV
  cases a s with
  | ok t s =>
    obtain ⟨d, n⟩ := t
    cases d <;> rfl
  | _ => rfl
def ifK {α : Type} (a b : M α) : R Bool → R α
  | .ok true s => a s
  | .ok false s => b s
  | .ex x s => .ex x s
  | .no => .no
@[simp] theorem ifK_t {α : Type} {a b : M α} {s : S} : ifK a b (.ok true s) = a s := rfl
@[simp] theorem ifK_f {α : Type} {a b : M α} {s : S} : ifK a b (.ok false s) = b s := rfl
@[simp] theorem ifK_ex {α : Type} {a b : M α} {x : Ex} {s : S} : ifK a b (.ex x s) = .ex x s := rfl
theorem ifK_ok {α : Type} {a b : M α} {k : Bool} {s : S} : ifK a b (.ok k s) = if k = true then a s else b s := by cases k <;> rfl
@[simp] theorem mIf_eq {t : M Bool} {a b : M T} {s : S} : mIf t a b s = ifK a b (t s) := by
  unfold mIf ifK
  cases t s with
  | ok k s => cases k <;> rfl
  | _ => rfl
@[simp] theorem mIfS_eq {t : M Bool} {a b : M Fl} {s : S} : mIfS t a b s = ifK a b (t s) := by
  unfold mIfS ifK
  cases t s with
  | ok k s => cases k <;> rfl
  | _ => rfl
def ntK {α : Type} (f : Int → S → R α) : R Int → R α := thn1 f
def chK2 (g' : Int → Int → Bool) (j : Int) : R Int → R T := thn1 fun k s => .ok (.bl (g' j k), 0) s
def chK1 (g g' : Int → Int → Bool) (d : M T) (i : Int) : R Int → R T := thn1 fun j s => if g i j = true then chK2 g' j (asI (d s)) else .ok (.bl false, 0) s
def chK (g g' : Int → Int → Bool) (b d : M T) : R Int → R T := thn1 fun i s => chK1 g g' d i (asI (b s))
@[simp] theorem asI_ok {i : Int} {n : Nat} {s : S} : asI (.ok (.int i, n) s) = .ok i s := rfl
@[simp] theorem asI_ex {x : Ex} {s : S} : asI (.ex x s) = .ex x s := rfl
@[simp] theorem chK_ok {g g' : Int → Int → Bool} {b d : M T} {i : Int} {s : S} : chK g g' b d (.ok i s) = chK1 g g' d i (asI (b s)) := rfl
@[simp] theorem chK1_ok {g g' : Int → Int → Bool} {d : M T} {i j : Int} {s : S} : chK1 g g' d i (.ok j s) = if g i j = true then chK2 g' j (asI (d s)) else .ok (.bl false, 0) s := rfl
@[simp] theorem chK2_ok {g' : Int → Int → Bool} {j k : Int} {s : S} : chK2 g' j (.ok k s) = .ok (.bl (g' j k), 0) s := rfl
@[simp] theorem mCh_eq {g g' : Int → Int → Bool} {a b d : M T} {s : S} : mCh g g' a b d s = chK g g' b d (asI (a s)) := by
  unfold mCh chK
  cases asI (a s) with
  | no => rfl
  | ex x s => rfl
  | ok i s =>
    show _ = chK1 g g' d i (asI (b s))
    unfold chK1
    simp only
    cases asI (b s) with
    | no => rfl
    | ex x s => rfl
    | ok j s =>
      show (if g i j = true then _ else _) = (if g i j = true then chK2 g' j (asI (d s)) else _)
      unfold chK2
      cases asI (d s) <;> rfl
/-! statements -/
def asK (i : Nat) : R T → R Fl := thn1 fun t s => if i < s.length then .ok .nx (s.set i (.ow t.1 t.2)) else .no
@[simp] theorem asK_ok {i : Nat} {t : T} {s : S} : asK i (.ok t s) = if i < s.length then .ok .nx (s.set i (.ow t.1 t.2)) else .no := rfl
@[simp] theorem asK_ex {i : Nat} {x : Ex} {s : S} : asK i (.ex x s) = .ex x s := rfl
@[simp] theorem mAsg_eq {i : Nat} {m : M T} {s : S} : mAsg i m s = asK i (m s) := by unfold mAsg asK; cases m s <;> rfl
def tgK : Option S → R Fl
  | some s => .ok .nx s
  | none => .no
@[simp] theorem tgK_some {s : S} : tgK (some s) = .ok .nx s := rfl
def afK (tg : Tg) : R T → R Fl := thn1 fun t s => tgK (tg.set t.1 s)
@[simp] theorem afK_ok {tg : Tg} {t : T} {s : S} : afK tg (.ok t s) = tgK (tg.set t.1 s) := rfl
@[simp] theorem afK_ex {tg : Tg} {x : Ex} {s : S} : afK tg (.ex x s) = .ex x s := rfl
@[simp] theorem mAsgF_eq {tg : Tg} {m : M T} {s : S} : mAsgF tg m s = afK tg (m s) := by
  unfold mAsgF afK
  cases m s with
  | ok t s =>
    show _ = tgK (tg.set t.1 s)
    simp only
    cases tg.set t.1 s <;> rfl
  | _ => rfl
@[simp] theorem tgset_nm {i : Nat} {d : D} {s : S} : Tg.set (.nm i) d s = if i < s.length then some (s.set i (.ow d 0)) else none := rfl
@[simp] theorem tgset_tp {is : List Nat} {ds : List D} {s : S} : Tg.set (.tp is) (.tup ds) s = setsF is ds s := rfl
@[simp] theorem setsF_nil {s : S} : setsF [] [] s = some s := rfl
@[simp] theorem setsF_cons {i : Nat} {is : List Nat} {d : D} {ds : List D} {s : S} : setsF (i :: is) (d :: ds) s = if i < s.length then setsF is ds (s.set i (.ow d 0)) else none := rfl
def exK : R T → R Fl := thn1 fun _ s => .ok .nx s
def reK : R T → R Fl := thn1 fun t s => .ok (.rt t) s
@[simp] theorem exK_ok {t : T} {s : S} : exK (.ok t s) = .ok .nx s := rfl
@[simp] theorem exK_ex {x : Ex} {s : S} : exK (.ex x s) = .ex x s := rfl
@[simp] theorem reK_ok {t : T} {s : S} : reK (.ok t s) = .ok (.rt t) s := rfl
@[simp] theorem reK_ex {x : Ex} {s : S} : reK (.ex x s) = .ex x s := rfl
@[simp] theorem mExpr_eq {m : M T} {s : S} : mExpr m s = exK (m s) := by unfold mExpr exK; cases m s <;> rfl
@[simp] theorem mRet_eq {m : M T} {s : S} : mRet m s = reK (m s) := by unfold mRet reK; cases m s <;> rfl
@[simp] theorem mRetN_eq {s : S} : mRetN s = .ok (.rt (.non, 0)) s := rfl
@[simp] theorem mNx_eq {s : S} : mNx s = .ok .nx s := rfl
@[simp] theorem mBk_eq {s : S} : mBk s = .ok .bk s := rfl
@[simp] theorem mCt_eq {s : S} : mCt s = .ok .ct s := rfl
def sqK (b : M Fl) : R Fl → R Fl
  | .ok .nx s => b s
  | r => r
@[simp] theorem sqK_nx {b : M Fl} {s : S} : sqK b (.ok .nx s) = b s := rfl
@[simp] theorem sqK_rt {b : M Fl} {t : T} {s : S} : sqK b (.ok (.rt t) s) = .ok (.rt t) s := rfl
@[simp] theorem sqK_bk {b : M Fl} {s : S} : sqK b (.ok .bk s) = .ok .bk s := rfl
@[simp] theorem sqK_ct {b : M Fl} {s : S} : sqK b (.ok .ct s) = .ok .ct s := rfl
@[simp] theorem sqK_ex {b : M Fl} {x : Ex} {s : S} : sqK b (.ex x s) = .ex x s := rfl
@[simp] theorem mSeq_eq {a b : M Fl} {s : S} : mSeq a b s = sqK b (a s) := by
  unfold mSeq sqK
  cases a s with
  | ok f s => cases f <;> rfl
  | _ => rfl
def paK (i j : Nat) : R (List T) → R Fl
  | .ok [t, u] s => if i < s.length ∧ j < s.length then .ok .nx ((s.set j (.ow u.1 u.2)).set i (.ow t.1 t.2)) else .no
  | .ok _ _ => .no
  | .ex x s => .ex x s
  | .no => .no
@[simp] theorem paK_ok {i j : Nat} {t u : T} {s : S} : paK i j (.ok [t, u] s) = if i < s.length ∧ j < s.length then .ok .nx ((s.set j (.ow u.1 u.2)).set i (.ow t.1 t.2)) else .no := rfl
@[simp] theorem paK_ex {i j : Nat} {x : Ex} {s : S} : paK i j (.ex x s) = .ex x s := rfl
@[simp] theorem mPar_eq {i j : Nat} {a b : M T} {s : S} : mPar i j a b s = paK i j (evm [a, b] s) := by
  unfold mPar paK
  cases evm [a, b] s with
  | ok ts s =>
    match ts with
    | [] => rfl
    | [_] => rfl
    | [_, _] => rfl
    | _ :: _ :: _ :: _ => rfl
  | _ => rfl
def seK3 (s : S) (l : Nat) : Option D → R Fl
  | some d => .ok .nx (s.set l (.ow d 1))
  | none => .no
def seK2 (i : Nat) (v : D) (s : S) : Option (List T) → Option T → R Fl
  | some [k], some (d, 1) => seK3 s (loc s i) (setD d k.1 v)
  | _, _ => .no
def seK1 (i : Nat) (o : Opd) (v : D) : R (List (Option T)) → R Fl := thn1 fun hs s => seK2 i v s (gets [o] hs s) (tre s i)
def seK0 (i : Nat) (o : Opd) (v : D) (s : S) : Option T → R Fl
  | some _ => seK1 i o v (evs [o] s)
  | none => .no
def seK (i : Nat) (o : Opd) : R T → R Fl := thn1 fun t s => seK0 i o t.1 s (tre s i)
@[simp] theorem seK_ok {i : Nat} {o : Opd} {t : T} {s : S} : seK i o (.ok t s) = seK0 i o t.1 s (tre s i) := rfl
@[simp] theorem seK_ex {i : Nat} {o : Opd} {x : Ex} {s : S} : seK i o (.ex x s) = .ex x s := rfl
@[simp] theorem seK0_some {i : Nat} {o : Opd} {v : D} {s : S} {t : T} : seK0 i o v s (some t) = seK1 i o v (evs [o] s) := rfl
@[simp] theorem seK1_ok {i : Nat} {o : Opd} {v : D} {hs : List (Option T)} {s : S} : seK1 i o v (.ok hs s) = seK2 i v s (gets [o] hs s) (tre s i) := rfl
@[simp] theorem seK1_ex {i : Nat} {o : Opd} {v : D} {x : Ex} {s : S} : seK1 i o v (.ex x s) = .ex x s := rfl
@[simp] theorem seK2_some {i : Nat} {v : D} {s : S} {k : T} {d : D} : seK2 i v s (some [k]) (some (d, 1)) = seK3 s (loc s i) (setD d k.1 v) := rfl
@[simp] theorem seK3_some {s : S} {l : Nat} {d : D} : seK3 s l (some d) = .ok .nx (s.set l (.ow d 1)) := rfl
@[simp] theorem mSet_eq {i : Nat} {o : Opd} {m : M T} {s : S} : mSet i o m s = seK i o (m s) := by
  unfold mSet seK
  cases m s with
  | no => rfl
  | ex x s => rfl
  | ok t s =>
    show _ = seK0 i o t.1 s (tre s i)
    simp only
    cases tre s i with
    | none => rfl
    | some t0 =>
      show _ = seK1 i o t.1 (evs [o] s)
      unfold seK1
      simp only
      cases evs [o] s with
      | no => rfl
      | ex x s => rfl
      | ok hs s =>
        show _ = seK2 i t.1 s (gets [o] hs s) (tre s i)
        simp only
        cases gets [o] hs s with
        | none => rfl
        | some ks =>
          match ks with
          | [] => rfl
          | [k] =>
            cases tre s i with
            | none => rfl
            | some td =>
              obtain ⟨d, n⟩ := td
              match n with
              | 0 => rfl
              | 1 =>
                show (match setD d k.1 t.1 with | some d' => _ | none => _) = seK3 s (loc s i) (setD d k.1 t.1)
                cases setD d k.1 t.1 <;> rfl
              | _ + 2 => rfl
          | _ :: _ :: _ => rfl
end Z

namespace Z
open PySem L2
/-! slices, methods -/
def ptK : R T → R (Option Int)
  | .ok (.int i, _) s => .ok (some i) s
  | .ok _ _ => .no
  | .ex x s => .ex x s
  | .no => .no
@[simp] theorem ptK_ok {i : Int} {n : Nat} {s : S} : ptK (.ok (.int i, n) s) = .ok (some i) s := rfl
@[simp] theorem mPart_none {s : S} : mPart none s = .ok none s := rfl
@[simp] theorem mPart_some {m : M T} {s : S} : mPart (some m) s = ptK (m s) := by
  show (match m s with | .ok (.int i, _) s' => R.ok (some i) s' | .ok _ _ => .no | .ex x s' => .ex x s' | .no => .no) = _
  unfold ptK
  cases m s with
  | ok t s => obtain ⟨d, n⟩ := t; cases d <;> rfl
  | _ => rfl
def slK3 (l u : Option Int) (s : S) : Option T → R T
  | some t => fromO s (slD l u t)
  | none => .no
@[simp] theorem slK3_some {l u : Option Int} {s : S} {t : T} : slK3 l u s (some t) = fromO s (slD l u t) := rfl
def slK2 (o : Opd) (hs : List (Option T)) (l : Option Int) : R (Option Int) → R T := thn1 fun u s => slK3 l u s (get1 o hs s)
def slK1 (o : Opd) (hi : Option (M T)) (hs : List (Option T)) : R (Option Int) → R T := thn1 fun l s => slK2 o hs l (mPart hi s)
def slK (o : Opd) (lo hi : Option (M T)) : R (List (Option T)) → R T := thn1 fun hs s => slK1 o hi hs (mPart lo s)
@[simp] theorem slK_ok {o : Opd} {lo hi : Option (M T)} {hs : List (Option T)} {s : S} : slK o lo hi (.ok hs s) = slK1 o hi hs (mPart lo s) := rfl
@[simp] theorem slK1_ok {o : Opd} {hi : Option (M T)} {hs : List (Option T)} {l : Option Int} {s : S} : slK1 o hi hs (.ok l s) = slK2 o hs l (mPart hi s) := rfl
@[simp] theorem slK2_ok {o : Opd} {hs : List (Option T)} {l u : Option Int} {s : S} : slK2 o hs l (.ok u s) = slK3 l u s (get1 o hs s) := rfl
@[simp] theorem get1_nm {i : Nat} {s : S} : get1 (.nm i) [none] s = tre s i := by
  unfold get1
  simp only [gets_nm, gets_nil]
  cases tre s i <;> rfl
@[simp] theorem get1_tm {m : M T} {t : T} {s : S} : get1 (.tm m) [some t] s = some t := rfl
@[simp] theorem mSl_eq {o : Opd} {lo hi : Option (M T)} {s : S} : mSl o lo hi s = slK o lo hi (evs [o] s) := by
  unfold mSl slK
  cases evs [o] s with
  | no => rfl
  | ex x s => rfl
  | ok hs s =>
    show _ = slK1 o hi hs (mPart lo s)
    unfold slK1
    simp only
    cases mPart lo s with
    | no => rfl
    | ex x s => rfl
    | ok l s =>
      show _ = slK2 o hs l (mPart hi s)
      unfold slK2
      simp only
      cases mPart hi s with
      | no => rfl
      | ex x s => rfl
      | ok u s =>
        show _ = slK3 l u s (get1 o hs s)
        simp only
        cases get1 o hs s with
        | none => rfl
        | some t =>
          show (match slD l u t with | some t' => _ | none => _) = fromO s (slD l u t)
          cases slD l u t <;> rfl
def bmK2 (f : F) (t : T) : R (List T) → R T := thn1 fun ts s => fromO s (f (t :: ts.map fun t => (t.1, 0)))
def bmK1 (f : F) (ms : List (M T)) (s : S) : Option T → R T
  | some t => if isStr t.1 = true then bmK2 f t (evm ms s) else .no
  | none => .no
def bmK (f : F) (o : Opd) (ms : List (M T)) : R (List (Option T)) → R T := thn1 fun hs s => bmK1 f ms s (get1 o hs s)
@[simp] theorem bmK_ok {f : F} {o : Opd} {ms : List (M T)} {hs : List (Option T)} {s : S} : bmK f o ms (.ok hs s) = bmK1 f ms s (get1 o hs s) := rfl
@[simp] theorem bmK1_some {f : F} {ms : List (M T)} {s : S} {a : Str} {n : Nat} : bmK1 f ms s (some (.str a, n)) = bmK2 f (.str a, n) (evm ms s) := rfl
@[simp] theorem bmK2_ok {f : F} {t : T} {ts : List T} {s : S} : bmK2 f t (.ok ts s) = fromO s (f (t :: ts.map fun t => (t.1, 0))) := rfl
@[simp] theorem mBm_eq {f : F} {o : Opd} {ms : List (M T)} {s : S} : mBm f o ms s = bmK f o ms (evs [o] s) := by
  unfold mBm bmK
  cases evs [o] s with
  | no => rfl
  | ex x s => rfl
  | ok hs s =>
    show _ = bmK1 f ms s (get1 o hs s)
    simp only
    cases get1 o hs s with
    | none => rfl
    | some t =>
      show (if isStr t.1 = true then _ else _) = (if isStr t.1 = true then bmK2 f t (evm ms s) else _)
      unfold bmK2
      cases evm ms s with
      | ok ts s =>
        show (if isStr t.1 = true then (match f (t :: ts.map fun t => (t.1, 0)) with | some t' => _ | none => _) else _) = (if isStr t.1 = true then fromO s (f (t :: ts.map fun t => (t.1, 0))) else _)
        cases f (t :: ts.map fun t => (t.1, 0)) <;> rfl
      | _ => rfl
def muK3 (s : S) (l : Nat) : Option (D × D) → R T
  | some (d, e) => .ok (e, 0) (s.set l (.ow d 1))
  | none => .no
def muK2 (g : G) (i : Nat) (ts : List T) (s : S) : Option T → R T
  | some (d, 1) => muK3 s (loc s i) (g d (ts.map (·.1)))
  | _ => .no
def muK1 (g : G) (i : Nat) : R (List T) → R T := thn1 fun ts s => muK2 g i ts s (tre s i)
def muK (g : G) (Tn : String) (i : Nat) (ms : List (M T)) (s : S) : Option T → R T
  | some (d0, 1) => if tyOf d0 = Tn ∧ mutb d0 = true ∧ Tn ≠ "" then muK1 g i (evm ms s) else .no
  | _ => .no
@[simp] theorem muK_lst {g : G} {i : Nat} {ms : List (M T)} {s : S} {xs : List D} : muK g "list" i ms s (some (.lst xs, 1)) = muK1 g i (evm ms s) := rfl
@[simp] theorem muK_dct {g : G} {i : Nat} {ms : List (M T)} {s : S} {xs : List (Key × D)} : muK g "dict" i ms s (some (.dct xs, 1)) = muK1 g i (evm ms s) := rfl
@[simp] theorem muK1_ok {g : G} {i : Nat} {ts : List T} {s : S} : muK1 g i (.ok ts s) = muK2 g i ts s (tre s i) := rfl
@[simp] theorem muK1_ex {g : G} {i : Nat} {x : Ex} {s : S} : muK1 g i (.ex x s) = .ex x s := rfl
@[simp] theorem muK2_some {g : G} {i : Nat} {ts : List T} {s : S} {d : D} : muK2 g i ts s (some (d, 1)) = muK3 s (loc s i) (g d (ts.map (·.1))) := rfl
@[simp] theorem muK3_some {s : S} {l : Nat} {d e : D} : muK3 s l (some (d, e)) = .ok (e, 0) (s.set l (.ow d 1)) := rfl
@[simp] theorem mMut_eq {g : G} {Tn : String} {i : Nat} {ms : List (M T)} {s : S} : mMut g Tn i ms s = muK g Tn i ms s (tre s i) := by
  unfold mMut
  cases tre s i with
  | none => rfl
  | some t =>
    obtain ⟨d0, n⟩ := t
    match n with
    | 0 => rfl
    | _ + 2 => rfl
    | 1 =>
      show (if tyOf d0 = Tn ∧ mutb d0 = true ∧ Tn ≠ "" then _ else _) = (if tyOf d0 = Tn ∧ mutb d0 = true ∧ Tn ≠ "" then muK1 g i (evm ms s) else _)
      by_cases hc : tyOf d0 = Tn ∧ mutb d0 = true ∧ Tn ≠ ""
      · rw [if_pos hc, if_pos hc]
        unfold muK1
        cases evm ms s with
        | ok ts s1 =>
          show _ = muK2 g i ts s1 (tre s1 i)
          simp only
          cases tre s1 i with
          | none => rfl
          | some t =>
            obtain ⟨d, n⟩ := t
            match n with
            | 0 => rfl
            | _ + 2 => rfl
            | 1 =>
              show _ = muK3 s1 (loc s1 i) (g d (ts.map (·.1)))
              simp only
              cases g d (ts.map (·.1)) <;> rfl
        | _ => rfl
      · rw [if_neg hc, if_neg hc]
/-! calls -/
def boK (s : S) (i : Nat) : Option T → R Tk
  | some (d, 0) => .ok ((d, 0), none) s
  | some (d, n + 1) => .ok ((d, n + 1), some (loc s i)) (s.set (loc s i) .un)
  | none => .no
@[simp] theorem boK_0 {s : S} {i : Nat} {d : D} : boK s i (some (d, 0)) = .ok ((d, 0), none) s := rfl
@[simp] theorem boK_1 {s : S} {i : Nat} {d : D} : boK s i (some (d, 1)) = .ok ((d, 1), some (loc s i)) (s.set (loc s i) .un) := rfl
@[simp] theorem boK_2 {s : S} {i : Nat} {d : D} : boK s i (some (d, 2)) = .ok ((d, 2), some (loc s i)) (s.set (loc s i) .un) := rfl
def atK : R T → R Tk := thn1 fun t s => .ok (t, none) s
@[simp] theorem atK_ok {t : T} {s : S} : atK (.ok t s) = .ok (t, none) s := rfl
@[simp] theorem atK_ex {x : Ex} {s : S} : atK (.ex x s) = .ex x s := rfl
@[simp] theorem agev_bo {i : Nat} {s : S} : (Ag.bo i).ev s = boK s i (tre s i) := by
  show (match tre s i with | some (d, 0) => _ | some (d, n + 1) => _ | none => _) = _
  cases tre s i with
  | none => rfl
  | some t =>
    obtain ⟨d, n⟩ := t
    cases n <;> rfl
@[simp] theorem agev_tm {m : M T} {s : S} : (Ag.tm m).ev s = atK (m s) := by
  show (match m s with | .ok t s' => _ | .ex x s' => _ | .no => _) = _
  cases m s <;> rfl
def eaK1 (t : Tk) : R (List Tk) → R (List Tk) := thn1 fun hs s => .ok (t :: hs) s
def eaK (ms : List Ag) : R Tk → R (List Tk) := thn1 fun h s => eaK1 h (eva ms s)
@[simp] theorem eaK1_ok {h : Tk} {hs : List Tk} {s : S} : eaK1 h (.ok hs s) = .ok (h :: hs) s := rfl
@[simp] theorem eaK1_ex {h : Tk} {x : Ex} {s : S} : eaK1 h (.ex x s) = .ex x s := rfl
@[simp] theorem eaK_ok {os : List Ag} {h : Tk} {s : S} : eaK os (.ok h s) = eaK1 h (eva os s) := rfl
@[simp] theorem eaK_ex {os : List Ag} {x : Ex} {s : S} : eaK os (.ex x s) = .ex x s := rfl
@[simp] theorem eva_nil {s : S} : eva [] s = .ok [] s := rfl
@[simp] theorem eva_cons {m : Ag} {ms : List Ag} {s : S} : eva (m :: ms) s = eaK ms (m.ev s) := by
  show eva (m :: ms) s = _
  unfold eva eaK eaK1
  cases m.ev s with
  | no => rfl
  | ex x s => rfl
  | ok h s =>
    show _ = thn1 _ (eva ms s)
    simp only
    cases eva ms s <;> rfl
@[simp] theorem putb_nil {ts : List T} {s : S} : putb [] ts s = some s := by cases ts <;> rfl
@[simp] theorem putb_none {t t' : T} {r : List Tk} {ts : List T} {s : S} : putb ((t, none) :: r) (t' :: ts) s = putb r ts s := rfl
def pbK (r : List Tk) (t : T) (ts : List T) (s : S) (j : Nat) : Option Ce → Option S
  | some .un => putb r ts (s.set j (.ow t.1 t.2))
  | _ => none
@[simp] theorem pbK_some {r : List Tk} {t : T} {ts : List T} {s : S} {j : Nat} : pbK r t ts s j (some .un) = putb r ts (s.set j (.ow t.1 t.2)) := rfl
@[simp] theorem putb_some {t t' : T} {j : Nat} {r : List Tk} {ts : List T} {s : S} : putb ((t, some j) :: r) (t' :: ts) s = pbK r t' ts s j s[j]? := by
  show (match s[j]? with | some .un => _ | _ => _) = _
  cases s[j]? with
  | none => rfl
  | some x => cases x <;> rfl
def caK2 (t : T) : Option S → R T
  | some s => .ok t s
  | none => .no
def caX2 (x : Ex) : Option S → R T
  | some s => .ex x s
  | none => .no
@[simp] theorem caK2_some {t : T} {s : S} : caK2 t (some s) = .ok t s := rfl
@[simp] theorem caX2_some {x : Ex} {s : S} : caX2 x (some s) = .ex x s := rfl
def caK1 (tks : List Tk) (s : S) : Fr → R T
  | .ok t ts' => caK2 t (putb tks ts' s)
  | .ex x ts' => caX2 x (putb tks ts' s)
  | .no => .no
@[simp] theorem caK1_ok {tks : List Tk} {s : S} {t : T} {ts : List T} : caK1 tks s (.ok t ts) = caK2 t (putb tks ts s) := rfl
@[simp] theorem caK1_ex {tks : List Tk} {s : S} {x : Ex} {ts : List T} : caK1 tks s (.ex x ts) = caX2 x (putb tks ts s) := rfl
def caK (fn : Fn) (ds : List D) : R (List Tk) → R T := thn1 fun tks s => caK1 tks s (fn (tks.map (·.1) ++ ds.map fun d => (d, 0)))
@[simp] theorem caK_ok {fn : Fn} {ds : List D} {tks : List Tk} {s : S} : caK fn ds (.ok tks s) = caK1 tks s (fn (tks.map (·.1) ++ ds.map fun d => (d, 0))) := rfl
@[simp] theorem caK_ex {fn : Fn} {ds : List D} {x : Ex} {s : S} : caK fn ds (.ex x s) = .ex x s := rfl
@[simp] theorem mCall_eq {fn : Fn} {as : List Ag} {ds : List D} {s : S} : mCall fn as ds s = caK fn ds (eva as s) := by
  unfold mCall caK
  cases eva as s with
  | no => rfl
  | ex x s => rfl
  | ok tks s =>
    show _ = caK1 tks s (fn (tks.map (·.1) ++ ds.map fun d => (d, 0)))
    unfold caK1
    simp only
    cases fn (tks.map (·.1) ++ ds.map fun d => (d, 0)) with
    | no => rfl
    | ok t ts =>
      show (match putb tks ts s with | some s2 => _ | none => _) = caK2 t (putb tks ts s)
      cases putb tks ts s <;> rfl
    | ex t ts =>
      show (match putb tks ts s with | some s2 => _ | none => _) = caX2 t (putb tks ts s)
      cases putb tks ts s <;> rfl
def fnK1 (t : T) : Option (List T) → Fr
  | some ts => .ok t ts
  | none => .no
def fnX1 (t : Ex) : Option (List T) → Fr
  | some ts => .ex t ts
  | none => .no
@[simp] theorem fnK1_some {t : T} {ts : List T} : fnK1 t (some ts) = .ok t ts := rfl
@[simp] theorem fnX1_some {t : Ex} {ts : List T} : fnX1 t (some ts) = .ex t ts := rfl
def fnK (L : Nat) : R Fl → Fr
  | .ok .nx s => fnK1 (.non, 0) (cells (s.drop L))
  | .ok (.rt t) s => fnK1 t (cells (s.drop L))
  | .ex x s => fnX1 x (cells (s.drop L))
  | _ => .no
@[simp] theorem fnK_nx {L : Nat} {s : S} : fnK L (.ok .nx s) = fnK1 (.non, 0) (cells (s.drop L)) := rfl
@[simp] theorem fnK_rt {L : Nat} {t : T} {s : S} : fnK L (.ok (.rt t) s) = fnK1 t (cells (s.drop L)) := rfl
@[simp] theorem fnK_ex {L : Nat} {x : Ex} {s : S} : fnK L (.ex x s) = fnX1 x (cells (s.drop L)) := rfl
theorem fnOf_eq {L : Nat} {body : M Fl} {ts : List T} : fnOf L body ts = fnK L (body (st0 L ts)) := by
  unfold fnOf fnK
  cases body (st0 L ts) with
  | no => rfl
  | ex x s =>
    show (match cells (s.drop L) with | some ts' => _ | none => _) = fnX1 x (cells (s.drop L))
    cases cells (s.drop L) <;> rfl
  | ok f s =>
    cases f with
    | nx =>
      show (match cells (s.drop L) with | some ts' => _ | none => _) = fnK1 (.non, 0) (cells (s.drop L))
      cases cells (s.drop L) <;> rfl
    | rt t =>
      show (match cells (s.drop L) with | some ts' => _ | none => _) = fnK1 t (cells (s.drop L))
      cases cells (s.drop L) <;> rfl
    | _ => rfl
@[simp] theorem cells_nil : cells [] = some [] := rfl
def ceK (t : T) : Option (List T) → Option (List T)
  | some ts => some (t :: ts)
  | none => none
@[simp] theorem ceK_some {t : T} {ts : List T} : ceK t (some ts) = some (t :: ts) := rfl
@[simp] theorem cells_ow {d : D} {n : Nat} {r : S} : cells (.ow d n :: r) = ceK (d, n) (cells r) := by
  show (cells r).map _ = _
  cases cells r <;> rfl
@[simp] theorem parS_nil {L k : Nat} : parS L k [] = [] := rfl
@[simp] theorem parS_0 {L k : Nat} {d : D} {ts : List T} : parS L k ((d, 0) :: ts) = .ow d 0 :: parS L (k + 1) ts := rfl
@[simp] theorem parS_1 {L k : Nat} {d : D} {ts : List T} : parS L k ((d, 1) :: ts) = .pa (L + k) :: parS L (k + 1) ts := rfl
@[simp] theorem parS_2 {L k : Nat} {d : D} {ts : List T} : parS L k ((d, 2) :: ts) = .pa (L + k) :: parS L (k + 1) ts := rfl
/-! what is walked -/
def itK : R T → R (List D) := thn1 fun t s => fromO s (itsOf t.1)
@[simp] theorem itK_ok {t : T} {s : S} : itK (.ok t s) = fromO s (itsOf t.1) := rfl
@[simp] theorem itK_ex {x : Ex} {s : S} : itK (.ex x s) = .ex x s := rfl
@[simp] theorem mIts_eq {m : M T} {s : S} : mIts m s = itK (m s) := by
  unfold mIts itK
  cases m s with
  | ok t s =>
    show _ = fromO s (itsOf t.1)
    simp only
    cases itsOf t.1 <;> rfl
  | _ => rfl
@[simp] theorem itsOf_lst {xs : List D} : itsOf (.lst xs) = some xs := rfl
@[simp] theorem itsOf_tup {xs : List D} : itsOf (.tup xs) = some xs := rfl
@[simp] theorem itsOf_rol {xs : List D} : itsOf (.rol xs) = some xs := rfl
def sl (a : Str) : List Nat := a.cps.toList
def chS (k : Nat) : D := .str ⟨#[k]⟩
@[simp] theorem itsOf_str {a : Str} : itsOf (.str a) = some ((sl a).map chS) := rfl
def r1K2 (s : S) : Option Int → R (List D)
  | some j => .ok (rngL 0 j.toNat) s
  | none => .no
def r1K1 (s : S) : Option (List T) → R (List D)
  | some ts => r1K2 s (int1 ts)
  | none => .no
def r1K (o : Opd) : R (List (Option T)) → R (List D) := thn1 fun hs s => r1K1 s (gets [o] hs s)
@[simp] theorem r1K_ok {o : Opd} {hs : List (Option T)} {s : S} : r1K o (.ok hs s) = r1K1 s (gets [o] hs s) := rfl
@[simp] theorem r1K1_some {s : S} {ts : List T} : r1K1 s (some ts) = r1K2 s (int1 ts) := rfl
@[simp] theorem r1K2_some {s : S} {j : Int} : r1K2 s (some j) = .ok (rngL 0 j.toNat) s := rfl
@[simp] theorem mRng1_eq {o : Opd} {s : S} : mRng1 o s = r1K o (evs [o] s) := by
  unfold mRng1 r1K
  cases evs [o] s with
  | ok hs s =>
    show _ = r1K1 s (gets [o] hs s)
    simp only
    cases gets [o] hs s with
    | none => rfl
    | some ts =>
      show _ = r1K2 s (int1 ts)
      simp only
      cases int1 ts <;> rfl
  | _ => rfl
def r2K2 (s : S) : Option (Int × Int) → R (List D)
  | some (i, j) => .ok (rngL i (j - i).toNat) s
  | none => .no
def r2K1 (s : S) : Option (List T) → R (List D)
  | some ts => r2K2 s (int2 ts)
  | none => .no
def r2K (o p : Opd) : R (List (Option T)) → R (List D) := thn1 fun hs s => r2K1 s (gets [o, p] hs s)
@[simp] theorem r2K_ok {o p : Opd} {hs : List (Option T)} {s : S} : r2K o p (.ok hs s) = r2K1 s (gets [o, p] hs s) := rfl
@[simp] theorem r2K1_some {s : S} {ts : List T} : r2K1 s (some ts) = r2K2 s (int2 ts) := rfl
@[simp] theorem r2K2_some {s : S} {i j : Int} : r2K2 s (some (i, j)) = .ok (rngL i (j - i).toNat) s := rfl
@[simp] theorem mRng2_eq {o p : Opd} {s : S} : mRng2 o p s = r2K o p (evs [o, p] s) := by
  unfold mRng2 r2K
  cases evs [o, p] s with
  | ok hs s =>
    show _ = r2K1 s (gets [o, p] hs s)
    simp only
    cases gets [o, p] hs s with
    | none => rfl
    | some ts =>
      show _ = r2K2 s (int2 ts)
      simp only
      cases int2 ts <;> rfl
  | _ => rfl
def enK : R T → R (List D)
  | .ok (.lst xs, _) s => .ok (enumD xs) s
  | .ok _ _ => .no
  | .ex x s => .ex x s
  | .no => .no
@[simp] theorem enK_ok {xs : List D} {n : Nat} {s : S} : enK (.ok (.lst xs, n) s) = .ok (enumD xs) s := rfl
@[simp] theorem mEnum_eq {m : M T} {s : S} : mEnum m s = enK (m s) := by
  unfold mEnum enK
  cases m s with
  | ok t s => obtain ⟨d, n⟩ := t; cases d <;> rfl
  | _ => rfl
def foK (tg : Tg) (body : M Fl) : R (List D) → R Fl := thn1 fun items s => forL tg body items s
@[simp] theorem foK_ok {tg : Tg} {body : M Fl} {items : List D} {s : S} : foK tg body (.ok items s) = forL tg body items s := rfl
@[simp] theorem foK_ex {tg : Tg} {body : M Fl} {x : Ex} {s : S} : foK tg body (.ex x s) = .ex x s := rfl
@[simp] theorem mFor_eq {tg : Tg} {mi : M (List D)} {body : M Fl} {s : S} : mFor tg mi body s = foK tg body (mi s) := by unfold mFor foK; cases mi s <;> rfl
@[simp] theorem mYes_eq {s : S} : mYes s = .ok true s := rfl
def lcK1 : R (List D) → R T
  | .ok acc s => .ok (.lst acc, 1) s
  | _ => .no
@[simp] theorem lcK1_ok {acc : List D} {s : S} : lcK1 (.ok acc s) = .ok (.lst acc, 1) s := rfl
def lcK (us : List Nat) (tg : Tg) (t : M Bool) (m : M T) : R (List D) → R T := thn1 fun items s => lcK1 (lcL us tg t m items [] (wipeS s us))
@[simp] theorem lcK_ok {us : List Nat} {tg : Tg} {t : M Bool} {m : M T} {items : List D} {s : S} : lcK us tg t m (.ok items s) = lcK1 (lcL us tg t m items [] (wipeS s us)) := rfl
@[simp] theorem mLc_eq {us : List Nat} {tg : Tg} {mi : M (List D)} {t : M Bool} {m : M T} {s : S} : mLc us tg mi t m s = lcK us tg t m (mi s) := by
  unfold mLc lcK
  cases mi s with
  | ok items s =>
    show _ = lcK1 (lcL us tg t m items [] (wipeS s us))
    simp only
    cases lcL us tg t m items [] (wipeS s us) <;> rfl
  | _ => rfl
@[simp] theorem wipeS_nil {s : S} : wipeS s [] = s := rfl
@[simp] theorem wipeS_cons {s : S} {v : Nat} {vs : List Nat} : wipeS s (v :: vs) = (wipeS s vs).set v .un := rfl

/-! ### loops by an invariant -/
theorem lcL_run {us : List Nat} {tg : Tg} {t : M Bool} {m : M T} {I : List D → List D → S → Prop}
    (h : ∀ d ds acc s, I (d :: ds) acc s → ∃ s1 b s2, tg.set d s = some s1 ∧ t s1 = .ok b s2 ∧ (b = false → I ds acc (wipeS s2 us)) ∧ (b = true → ∃ y s3, m s2 = .ok y s3 ∧ acc.length < big ∧ I ds (acc ++ [y.1]) (wipeS s3 us))) :
    ∀ {items acc : List D} {s : S}, I items acc s → ∃ acc' s', lcL us tg t m items acc s = .ok acc' s' ∧ I [] acc' s'
  | [], acc, s, hi => ⟨acc, s, rfl, hi⟩
  | d :: ds, acc, s, hi => by
    obtain ⟨s1, b, s2, e1, e2, k1, k2⟩ := h d ds acc s hi
    cases b with
    | false =>
      obtain ⟨acc', s', e, q⟩ := lcL_run h (k1 rfl)
      exact ⟨acc', s', by simp only [lcL, e1, e2]; exact e, q⟩
    | true =>
      obtain ⟨y, s3, e3, hb, k3⟩ := k2 rfl
      obtain ⟨acc', s', e, q⟩ := lcL_run h k3
      exact ⟨acc', s', by simp only [lcL, e1, e2, e3, if_pos hb]; exact e, q⟩
/-- what is told of each item alone: p whether it is taken, g what it gives; nothing else changes -/
theorem lcL_pure {us : List Nat} {tg : Tg} {t : M Bool} {m : M T} {p : D → Bool} {g : D → D} {s : S} : ∀ {items acc : List D}, (∀ d ∈ items, ∃ s1 s2, tg.set d s = some s1 ∧ t s1 = .ok (p d) s2 ∧ (p d = false → wipeS s2 us = s) ∧ (p d = true → ∃ n s3, m s2 = .ok (g d, n) s3 ∧ wipeS s3 us = s)) →
    acc.length + items.length ≤ big → lcL us tg t m items acc s = .ok (acc ++ (items.filter p).map g) s
  | [], acc, h, hb => by simp [lcL]
  | d :: ds, acc, h, hb => by
    obtain ⟨s1, s2, e1, e2, k1, k2⟩ := h d List.mem_cons_self
    have hd : ∀ x ∈ ds, _ := fun x hx => h x (List.mem_cons_of_mem _ hx)
    cases q : p d with
    | false =>
      rw [q] at e2
      simp only [lcL, e1, e2, k1 q]
      rw [lcL_pure hd (by simp at hb; omega), List.filter_cons_of_neg (by simp [q])]
    | true =>
      rw [q] at e2
      obtain ⟨n, s3, e3, k3⟩ := k2 q
      have hl : acc.length < big := by simp at hb; omega
      simp only [lcL, e1, e2, e3, if_pos hl, k3]
      rw [lcL_pure hd (by simp at hb ⊢; omega), List.filter_cons_of_pos (by simp [q])]
      simp
theorem forL_run {tg : Tg} {body : M Fl} {I : List D → S → Prop} {P : R Fl → Prop} (h : ∀ d ds s, I (d :: ds) s → ∃ s1, tg.set d s = some s1 ∧ match body s1 with
      | .ok .nx s2 => I ds s2
      | .ok .ct s2 => I ds s2
      | .ok .bk s2 => P (.ok .nx s2)
      | .ok (.rt t) s2 => P (.ok (.rt t) s2)
      | .ex x s2 => P (.ex x s2)
      | .no => False) (hz : ∀ s, I [] s → P (.ok .nx s)) : ∀ {items : List D} {s : S}, I items s → P (forL tg body items s)
  | [], s, hi => hz s hi
  | d :: ds, s, hi => by
    obtain ⟨s1, e1, k⟩ := h d ds s hi
    simp only [forL, e1]
    cases q : body s1 with
    | no => rw [q] at k; exact k.elim
    | ex x s2 => rw [q] at k; exact k
    | ok f s2 =>
      rw [q] at k
      cases f with
      | nx => exact forL_run h hz k
      | ct => exact forL_run h hz k
      | bk => exact k
      | rt t => exact k
/-- the loop that always goes on -/
theorem forL_nx {tg : Tg} {body : M Fl} {I : List D → S → Prop} (h : ∀ d ds s, I (d :: ds) s → ∃ s1 s2, tg.set d s = some s1 ∧ (body s1 = .ok .nx s2 ∨ body s1 = .ok .ct s2) ∧ I ds s2) {items : List D} {s : S} (hi : I items s) : ∃ s', forL tg body items s = .ok .nx s' ∧ I [] s' := by
  refine forL_run (P := fun r => ∃ s', r = .ok .nx s' ∧ I [] s') (fun d ds s hi => ?_) (fun s hi => ⟨s, rfl, hi⟩) hi
  obtain ⟨s1, s2, e1, e2, k⟩ := h d ds s hi
  rcases e2 with e2 | e2 <;> exact ⟨s1, e1, by rw [e2]; exact k⟩
/-- while, by a measure -/
theorem whL_run {t : M Bool} {body : M Fl} {I : Nat → S → Prop} {P : R Fl → Prop} (hP : ¬ P .no) (h : ∀ k s, I k s → match t s with
      | .ok false s1 => P (.ok .nx s1)
      | .ok true s1 => (match body s1 with
        | .ok .nx s2 => ∃ j, j < k ∧ I j s2
        | .ok .ct s2 => ∃ j, j < k ∧ I j s2
        | .ok .bk s2 => P (.ok .nx s2)
        | .ok (.rt t) s2 => P (.ok (.rt t) s2)
        | .ex x s2 => P (.ex x s2)
        | .no => False)
      | .ex x s1 => P (.ex x s1)
      | .no => False) : ∀ {k n : Nat} {s : S}, k < n → I k s → P (whL t body n s) := by
  intro k n
  induction n generalizing k with
  | zero => intro s hk; omega
  | succ n ih =>
    intro s hk hi
    have z := h k s hi
    unfold whL
    cases q : t s with
    | no => rw [q] at z; exact z.elim
    | ex x s1 => rw [q] at z; exact z
    | ok b s1 =>
      rw [q] at z
      cases b with
      | false => exact z
      | true =>
        simp only at z ⊢
        cases q2 : body s1 with
        | no => rw [q2] at z; exact z.elim
        | ex x s2 => rw [q2] at z; exact z
        | ok f s2 =>
          rw [q2] at z
          cases f with
          | nx => obtain ⟨j, hj, k⟩ := z; exact ih (by omega) k
          | ct => obtain ⟨j, hj, k⟩ := z; exact ih (by omega) k
          | bk => exact z
          | rt t => exact z
theorem mWhile_run {t : M Bool} {body : M Fl} {I : Nat → S → Prop} {P : R Fl → Prop} (hP : ¬ P .no) (h : ∀ k s, I k s → match t s with
      | .ok false s1 => P (.ok .nx s1)
      | .ok true s1 => (match body s1 with
        | .ok .nx s2 => ∃ j, j < k ∧ I j s2
        | .ok .ct s2 => ∃ j, j < k ∧ I j s2
        | .ok .bk s2 => P (.ok .nx s2)
        | .ok (.rt t) s2 => P (.ok (.rt t) s2)
        | .ex x s2 => P (.ex x s2)
        | .no => False)
      | .ex x s1 => P (.ex x s1)
      | .no => False) {k : Nat} {s : S} (hi : I k s) : P (mWhile t body s) := by
  have z := whL_run hP h (Nat.lt_succ_self k) hi
  rw [mWhile_eq (n := k + 1) rfl fun e => hP (e ▸ z)]
  exact z
end Z

namespace Z
open PySem L2
/-! ### the operations on known data -/
@[simp] theorem fOr_some {f g : F} {ts : List T} {t : T} (h : f ts = some t) : fOr f g ts = some t := by unfold fOr; rw [h]
theorem fOr_none {f g : F} {ts : List T} (h : f ts = none) : fOr f g ts = g ts := by unfold fOr; rw [h]
@[simp] theorem fAdd_i {i j : Int} {n m : Nat} : fAdd [(.int i, n), (.int j, m)] = some (.int (i + j), 0) := rfl
@[simp] theorem fAdd_s {a b : Str} {n m : Nat} : fAdd [(.str a, n), (.str b, m)] = if a.length + b.length ≤ big then some (.str (a ++ b), 0) else none := by
  show fOr _ _ _ = _
  rw [fOr_none rfl]
  by_cases h : a.length + b.length ≤ big
  · rw [if_pos h]
    exact fOr_some (by show (if _ then _ else _) = _; rw [if_pos h])
  · rw [if_neg h, fOr_none (by show (if _ then _ else _) = _; rw [if_neg h])]
    rfl
@[simp] theorem fAdd_l {xs ys : List D} {n m : Nat} : fAdd [(.lst xs, n), (.lst ys, m)] = if n ≤ 1 ∧ m ≤ 1 ∧ xs.length + ys.length ≤ big then some (.lst (xs ++ ys), 1) else none := by
  show fOr _ _ _ = _
  rw [fOr_none rfl, fOr_none rfl]
  by_cases h : n ≤ 1 ∧ m ≤ 1 ∧ xs.length + ys.length ≤ big
  · rw [if_pos h]
    exact fOr_some (by show (if _ then _ else _) = _; rw [if_pos h])
  · rw [if_neg h, fOr_none (by show (if _ then _ else _) = _; rw [if_neg h])]
    rfl
@[simp] theorem fAdd_t {xs ys : List D} {n m : Nat} : fAdd [(.tup xs, n), (.tup ys, m)] = if n = 0 ∧ m = 0 ∧ xs.length + ys.length ≤ big then some (.tup (xs ++ ys), 0) else none := rfl
@[simp] theorem fSub_i {i j : Int} {n m : Nat} : fSub [(.int i, n), (.int j, m)] = some (.int (i - j), 0) := rfl
@[simp] theorem fMul_i {i j : Int} {n m : Nat} (h : CMul i j) : fMul [(.int i, n), (.int j, m)] = some (.int (i * j), 0) := by
  exact fOr_some (by show (if _ then _ else _) = _; rw [if_pos h])
@[simp] theorem cmul_l {i : Int} {j : Int} (h : -18446744073709551616 < i ∧ i < 18446744073709551616) : CMul i j := .inl h
@[simp] theorem cmul_r {i : Int} {j : Int} (h : -18446744073709551616 < j ∧ j < 18446744073709551616) : CMul i j := .inr h
@[simp] theorem fMod_i {i j : Int} {n m : Nat} (h : 0 < j) : fMod [(.int i, n), (.int j, m)] = some (.int (i % j), 0) := by
  show (if _ then _ else _) = _
  rw [if_pos h]
@[simp] theorem fDiv_i {i j : Int} {n m : Nat} (h : 0 < j) (h2 : j < 1073741824) : fDiv [(.int i, n), (.int j, m)] = some (.int (i / j), 0) := by
  show (if _ then _ else _) = _
  rw [if_pos ⟨h, h2⟩]
@[simp] theorem fPow_i {i j : Int} {n m : Nat} (h : 0 ≤ j) (h2 : j ≤ 1000000) (h3 : i.natAbs < 18446744073709551616) : fPow [(.int i, n), (.int j, m)] = some (.int (i ^ j.toNat), 0) := by
  show (if _ then _ else _) = _
  rw [if_pos ⟨h, h2, h3⟩]
@[simp] theorem fNeg_i {i : Int} {n : Nat} : fNeg [(.int i, n)] = some (.int (-i), 0) := rfl
@[simp] theorem fLt_i {i j : Int} {n m : Nat} : fLt [(.int i, n), (.int j, m)] = some (.bl (decide (i < j)), 0) := rfl
@[simp] theorem fLe_i {i j : Int} {n m : Nat} : fLe [(.int i, n), (.int j, m)] = some (.bl (decide (i ≤ j)), 0) := rfl
@[simp] theorem fGt_i {i j : Int} {n m : Nat} : fGt [(.int i, n), (.int j, m)] = some (.bl (decide (j < i)), 0) := rfl
@[simp] theorem fGe_i {i j : Int} {n m : Nat} : fGe [(.int i, n), (.int j, m)] = some (.bl (decide (j ≤ i)), 0) := rfl
@[simp] theorem fInt_i {i : Int} {n : Nat} : fInt [(.int i, n)] = some (.int i, 0) := rfl
@[simp] theorem fInt_b {b : Bool} {n : Nat} : fInt [(.bl b, n)] = some (.int (if b then 1 else 0), 0) := rfl
@[simp] theorem fAbs_i {i : Int} {n : Nat} : fAbs [(.int i, n)] = some (.int (if i < 0 then -i else i), 0) := rfl
@[simp] theorem fLen_l {xs : List D} {n : Nat} : fLen [(.lst xs, n)] = some (.int xs.length, 0) := rfl
@[simp] theorem fLen_r {xs : List D} {n : Nat} : fLen [(.rol xs, n)] = some (.int xs.length, 0) := rfl
@[simp] theorem fLen_t {xs : List D} {n : Nat} : fLen [(.tup xs, n)] = some (.int xs.length, 0) := rfl
@[simp] theorem fLen_d {xs : List (Key × D)} {n : Nat} : fLen [(.dct xs, n)] = some (.int xs.length, 0) := rfl
@[simp] theorem fLen_s {a : Str} {n : Nat} : fLen [(.str a, n)] = if a.length ≤ big then some (.int a.length, 0) else none := by
  show Option.map _ (if _ then _ else _) = _
  split <;> rfl
def ixK (o : Option D) : Option T := o.map fun d => (d, 0)
@[simp] theorem ixK_some {d : D} : ixK (some d) = some (d, 0) := rfl
@[simp] theorem fIx_l {xs : List D} {i : Int} {n m : Nat} (h : n ≤ 1) : fIx [(.lst xs, n), (.int i, m)] = ixK (atI xs i) := by
  show (if _ then _ else _) = _
  rw [if_pos h]
  rfl
@[simp] theorem fIx_t {xs : List D} {i : Int} {n m : Nat} (h : n ≤ 1) : fIx [(.tup xs, n), (.int i, m)] = ixK (atI xs i) := by
  show (if _ then _ else _) = _
  rw [if_pos h]
  rfl
@[simp] theorem fIx_r {xs : List D} {i : Int} {n m : Nat} (h : n ≤ 1) : fIx [(.rol xs, n), (.int i, m)] = ixK (atI xs i) := by
  show (if _ then _ else _) = _
  rw [if_pos h]
  rfl
@[simp] theorem fIx_s {a : Str} {i : Int} {n m : Nat} (h : n ≤ 1) (h2 : a.length ≤ big) : fIx [(.str a, n), (.int i, m)] = ixK ((atI (sl a) i).map chS) := by
  show (if _ then _ else _) = _
  rw [if_pos h]
  show Option.map _ (if _ then _ else _) = _
  rw [if_pos h2]
  rfl
theorem atI_ok {α : Type} {xs : List α} {i : Int} (h0 : 0 ≤ i) (h1 : i < xs.length) : atI xs i = some (xs[i.toNat]'(by omega)) := by
  unfold atI ixN
  rw [if_pos h0, if_pos h1]
  exact List.getElem?_eq_getElem _
@[simp] theorem atI_0 {α : Type} {a : α} {r : List α} : atI (a :: r) 0 = some a := by
  rw [atI_ok (by omega) (by simp)]; rfl
@[simp] theorem atI_1 {α : Type} {a b : α} {r : List α} : atI (a :: b :: r) 1 = some b := by
  rw [atI_ok (by omega) (by simp; omega)]; rfl
@[simp] theorem atI_2 {α : Type} {a b d : α} {r : List α} : atI (a :: b :: d :: r) 2 = some d := by
  rw [atI_ok (by omega) (by simp; omega)]; rfl
@[simp] theorem atI_3 {α : Type} {a b d e : α} {r : List α} : atI (a :: b :: d :: e :: r) 3 = some e := by
  rw [atI_ok (by omega) (by simp; omega)]; rfl
@[simp] theorem atI_m1 {α : Type} {a : α} {r : List α} : atI (r ++ [a]) (-1) = some a := by
  unfold atI ixN
  have : ((-(((r ++ [a]).length : Nat) : Int)) ≤ -1) := by simp; omega
  simp only [if_neg (by decide : ¬ (0 : Int) ≤ -1), if_pos this]
  have e : (-1 + (((r ++ [a]).length : Nat) : Int)).toNat = r.length := by simp; omega
  show (r ++ [a])[(-1 + (((r ++ [a]).length : Nat) : Int)).toNat]? = some a
  rw [e]
  simp
def sdK (o : Option Nat) (xs : List D) (v : D) : Option D := o.map fun j => .lst (xs.set j v)
@[simp] theorem sdK_some {j : Nat} {xs : List D} {v : D} : sdK (some j) xs v = some (.lst (xs.set j v)) := rfl
@[simp] theorem setD_l {xs : List D} {i : Int} {v : D} : setD (.lst xs) (.int i) v = sdK (ixN xs.length i) xs v := rfl
theorem ixN_ok {n : Nat} {i : Int} (h0 : 0 ≤ i) (h1 : i < n) : ixN n i = some i.toNat := by
  unfold ixN
  rw [if_pos h0, if_pos h1]
@[simp] theorem ixN_0 {n : Nat} : ixN (n + 1) 0 = some 0 := ixN_ok (by omega) (by omega)
@[simp] theorem ixN_1 {n : Nat} : ixN (n + 2) 1 = some 1 := ixN_ok (by omega) (by omega)
@[simp] theorem ixN_2 {n : Nat} : ixN (n + 3) 2 = some 2 := ixN_ok (by omega) (by omega)
@[simp] theorem ixN_3 {n : Nat} : ixN (n + 4) 3 = some 3 := ixN_ok (by omega) (by omega)
@[simp] theorem slD_l {xs : List D} {n : Nat} {l u : Option Int} (h : n ≤ 1) : slD l u (.lst xs, n) = some (.lst (cutD xs l u), 1) := by
  show (if _ then _ else _) = _
  rw [if_pos h]
@[simp] theorem slD_r {xs : List D} {n : Nat} {l u : Option Int} : slD l u (.rol xs, n) = some (.lst (cutD xs l u), 1) := rfl
@[simp] theorem slD_t {xs : List D} {l u : Option Int} : slD l u (.tup xs, 0) = some (.tup (cutD xs l u), 0) := rfl
@[simp] theorem slD_s {a : Str} {n : Nat} {l u : Option Int} (h : a.length ≤ big) : slD l u (.str a, n) = some (.str (cutS a l u), 0) := by
  show (if _ then _ else _) = _
  rw [if_pos h]
@[simp] theorem int1_i {j : Int} {n : Nat} (h1 : -(2 ^ 62) ≤ j) (h2 : j < 2 ^ 62) : int1 [(.int j, n)] = some j := by
  show (if _ then _ else _) = _
  rw [if_pos ⟨h1, h2⟩]
@[simp] theorem int2_i {i j : Int} {n m : Nat} (h1 : -(2 ^ 62) ≤ i) (h2 : i < 2 ^ 62) (h3 : -(2 ^ 62) ≤ j) (h4 : j < 2 ^ 62) : int2 [(.int i, n), (.int j, m)] = some (i, j) := by
  show (if _ then _ else _) = _
  rw [if_pos ⟨h1, h2, h3, h4⟩]
end Z

namespace Z
open PySem L2
/-! ### texts of plain signs, lists of them -/
def asc (s : Str) : Bool := (sl s).all fun k => decide (k < 128)
@[simp] theorem sl_len (s : Str) : (sl s).length = s.length := by
  show s.cps.toList.length = s.cps.size
  simp
theorem asc_mem {s : Str} (h : asc s = true) {k : Nat} (hk : k ∈ sl s) : k < 128 := of_decide_eq_true (List.all_eq_true.mp h k hk)
theorem asc_of {s : Str} (h : ∀ k ∈ sl s, k < 128) : asc s = true := List.all_eq_true.mpr fun k hk => decide_eq_true (h k hk)
theorem asc_strOk {s : Str} (h : asc s = true) : PyData.strOk s = true := by
  unfold PyData.strOk
  rw [← Array.all_toList]
  exact List.all_eq_true.mpr fun k hk => decide_eq_true (Nat.lt_trans (asc_mem h hk) (by decide))
theorem asc_app {a b : Str} (ha : asc a = true) (hb : asc b = true) : asc (a ++ b) = true := by
  refine asc_of fun k hk => ?_
  have hk : k ∈ (a.cps ++ b.cps).toList := hk
  rw [Array.toList_append] at hk
  rcases List.mem_append.mp hk with h | h
  · exact asc_mem ha h
  · exact asc_mem hb h
theorem asc_cut {a : Str} {l u : Option Int} (ha : asc a = true) : asc (cutS a l u) = true := by
  refine asc_of fun k hk => ?_
  have hk : k ∈ (cutS a l u).cps.toList := hk
  unfold cutS at hk
  rw [List.toList_toArray] at hk
  exact asc_mem ha (List.mem_of_mem_drop (List.mem_of_mem_take hk))
theorem asc_one {k : Nat} (h : k < 128) : asc ⟨#[k]⟩ = true := by
  refine asc_of fun j hj => ?_
  have hj : j ∈ (#[k] : Array Nat).toList := hj
  have : j = k := by simpa using hj
  rw [this]; exact h
theorem app_len (a b : Str) : (a ++ b).length = a.length + b.length := by
  show (a.cps ++ b.cps).size = _
  rw [Array.size_append]; rfl
theorem cut_len (a : Str) (l u : Option Int) : (cutS a l u).length ≤ a.length := by
  show ((List.take _ (List.drop _ a.cps.toList)).toArray).size ≤ a.cps.size
  simp
  omega
theorem one_len (k : Nat) : (⟨#[k]⟩ : Str).length = 1 := rfl
theorem toPs_strs : ∀ ss : List Str, toPs (ss.map D.str) = some (ss.map PyData.str)
  | [] => by simp [toPs]
  | s :: ss => by simp [toPs, toP, toPs_strs ss]
theorem depth_strs : ∀ ss : List Str, PyData.depthAll (ss.map PyData.str) = 0
  | [] => rfl
  | s :: ss => by simp [PyData.depthAll, PyData.depth, depth_strs ss]
theorem can_strs : ∀ {ss : List Str}, (∀ s ∈ ss, asc s = true) → PyData.canLayAll0 (ss.map PyData.str) = true
  | [], _ => rfl
  | s :: ss, h => by
    show (PyData.strOk s && PyData.canLayAll0 (ss.map PyData.str)) = true
    rw [asc_strOk (h s List.mem_cons_self), can_strs fun t ht => h t (List.mem_cons_of_mem _ ht)]
    rfl
theorem shaped_strs {ss : List Str} (h : ∀ s ∈ ss, asc s = true) : SeqAt.shaped (.list (ss.map PyData.str)) = true := by
  show (PyData.canLayAll0 (ss.map PyData.str) && decide (PyData.depthAll (ss.map PyData.str) + 1 ≤ 64)) = true
  rw [can_strs h, depth_strs]
  rfl
theorem eqv_strs : ∀ ss tt : List Str, PyData.eqvAll (ss.map PyData.str) (tt.map PyData.str) = decide (ss = tt)
  | [], [] => by simp [PyData.eqvAll]
  | [], _ :: _ => by simp [PyData.eqvAll]
  | _ :: _, [] => by simp [PyData.eqvAll]
  | s :: ss, t :: tt => by
    simp only [List.map_cons, PyData.eqvAll, PyData.eqv, eqv_strs ss tt, List.cons.injEq, Bool.decide_and]
    congr 1
theorem eqD_strs {ss tt : List Str} (h1 : ∀ s ∈ ss, asc s = true) (h2 : ∀ s ∈ tt, asc s = true) : eqD (.lst (ss.map D.str)) (.lst (tt.map D.str)) = some (decide (ss = tt)) := by
  unfold eqD
  have e : eqS (.lst (ss.map D.str)) (.lst (tt.map D.str)) = none := rfl
  rw [e]
  show eqP _ _ = _
  unfold eqP
  have e1 : ∀ ss : List Str, toP (.lst (ss.map D.str)) = some (.list (ss.map PyData.str)) := fun ss => by
    simp [toP, toPs_strs]
  rw [e1, e1]
  simp only
  rw [if_pos ⟨shaped_strs h1, shaped_strs h2⟩]
  show some (PyData.eqvAll _ _) = _
  rw [eqv_strs]
@[simp] theorem fEq_i {i j : Int} {n m : Nat} : fEq [(.int i, n), (.int j, m)] = some (.bl (decide (i = j)), 0) := by
  simp [fEq, eqD, eqS, scV, scal]
@[simp] theorem fNe_i {i j : Int} {n m : Nat} : fNe [(.int i, n), (.int j, m)] = some (.bl (!decide (i = j)), 0) := by
  simp [fNe, eqD, eqS, scV, scal]
@[simp] theorem fEq_b {i j : Bool} {n m : Nat} : fEq [(.bl i, n), (.bl j, m)] = some (.bl (decide (i = j)), 0) := by
  simp [fEq, eqD, eqS, scV, scal]
@[simp] theorem fNe_b {i j : Bool} {n m : Nat} : fNe [(.bl i, n), (.bl j, m)] = some (.bl (!decide (i = j)), 0) := by
  simp [fNe, eqD, eqS, scV, scal]
@[simp] theorem fEq_s {i j : Str} {n m : Nat} : fEq [(.str i, n), (.str j, m)] = some (.bl (decide (i = j)), 0) := by
  simp [fEq, eqD, eqS, scV, scal]
@[simp] theorem fNe_s {i j : Str} {n m : Nat} : fNe [(.str i, n), (.str j, m)] = some (.bl (!decide (i = j)), 0) := by
  simp [fNe, eqD, eqS, scV, scal]
theorem fEq_of {x y : D} {n m : Nat} {b : Bool} (h : eqD x y = some b) : fEq [(x, n), (y, m)] = some (.bl b, 0) := by
  show Option.map _ (eqD x y) = _
  rw [h]; rfl
theorem fNe_of {x y : D} {n m : Nat} {b : Bool} (h : eqD x y = some b) : fNe [(x, n), (y, m)] = some (.bl (!b), 0) := by
  show Option.map _ (eqD x y) = _
  rw [h]; rfl
@[simp] theorem fEq_nil {n m : Nat} : fEq [(.lst [], n), (.lst [], m)] = some (.bl true, 0) := fEq_of (by decide)
theorem scVs_strs : ∀ ss : List Str, scVs (ss.map D.str) = some (ss.map V.str)
  | [] => rfl
  | s :: ss => by simp [scVs, scV, scVs_strs ss]
theorem inV_strs (a : Str) (ss : List Str) : inV (.str a) (ss.map V.str) = decide (a ∈ ss) := by
  unfold inV
  induction ss with
  | nil => simp
  | cons s ss ih =>
    rw [List.map_cons, List.any_cons, ih]
    show (s == a || _) = _
    by_cases h : s = a
    · subst h; simp
    · have h' : a ≠ s := fun e => h e.symm
      simp [h, h']
theorem inQ_strs (a : Str) (ss : List Str) : inQ (.str a) (ss.map D.str) = some (decide (a ∈ ss)) := by
  unfold inQ
  rw [scVs_strs]
  show some (inV (.str a) (ss.map V.str)) = _
  rw [inV_strs]
theorem fIn_of {x y : D} {n m : Nat} {b : Bool} (h : inD x y = some b) : fIn [(x, n), (y, m)] = some (.bl b, 0) := by
  show Option.map _ (inD x y) = _
  rw [h]; rfl
theorem fNotIn_of {x y : D} {n m : Nat} {b : Bool} (h : inD x y = some b) : fNotIn [(x, n), (y, m)] = some (.bl (!b), 0) := by
  show Option.map _ (inD x y) = _
  rw [h]; rfl
theorem inD_sign (k : Nat) (b : Str) : inD (chS k) (.str b) = some (decide (k ∈ sl b)) := rfl
@[simp] theorem fIn_sign {k : Nat} {b : Str} {n m : Nat} : fIn [(chS k, n), (.str b, m)] = some (.bl (decide (k ∈ sl b)), 0) := rfl
@[simp] theorem fNotIn_sign {k : Nat} {b : Str} {n m : Nat} : fNotIn [(chS k, n), (.str b, m)] = some (.bl (!decide (k ∈ sl b)), 0) := rfl
theorem scVs_ints : ∀ ss : List Int, scVs (ss.map D.int) = some (ss.map V.int)
  | [] => rfl
  | s :: ss => by simp [scVs, scV, scVs_ints ss]
theorem inV_ints (a : Int) (ss : List Int) : inV (.int a) (ss.map V.int) = decide (a ∈ ss) := by
  unfold inV
  induction ss with
  | nil => simp
  | cons s ss ih =>
    rw [List.map_cons, List.any_cons, ih]
    show (s == a || _) = _
    by_cases h : s = a
    · subst h; simp
    · have h' : a ≠ s := fun e => h e.symm
      simp [h, h']
theorem inQ_ints (a : Int) (ss : List Int) : inQ (.int a) (ss.map D.int) = some (decide (a ∈ ss)) := by
  unfold inQ
  rw [scVs_ints]
  show some (inV (.int a) (ss.map V.int)) = _
  rw [inV_ints]
/-! a text of signs -/
def sigs (cs : List Nat) : List Str := cs.map fun k => ⟨#[k]⟩
theorem map_chS (cs : List Nat) : cs.map chS = (sigs cs).map D.str := by
  unfold sigs
  rw [List.map_map]
  rfl
theorem strsOf_map : ∀ ss : List Str, strsOf (ss.map D.str) = some ss
  | [] => rfl
  | s :: ss => by simp [strsOf, strsOf_map ss]
theorem joinL_nil : ∀ cs : List Nat, TL.joinL [] (cs.map fun k => [k]) = cs
  | [] => rfl
  | [_] => rfl
  | a :: b :: r => by
    show a :: TL.joinL [] ((b :: r).map fun k => [k]) = _
    rw [joinL_nil (b :: r)]
theorem join_sigs (cs : List Nat) : Txt.join Str.empty (sigs cs) = ⟨cs.toArray⟩ := by
  have e := SX.join_S [] (cs.map fun k => [k])
  rw [joinL_nil] at e
  have e2 : (cs.map fun k => [k]).map SX.S = sigs cs := by
    rw [List.map_map]
    rfl
  rw [e2] at e
  exact e
theorem sigs_len (cs : List Nat) : ((sigs cs).map (·.length)).sum = cs.length := by
  induction cs with
  | nil => rfl
  | cons a cs ih =>
    show 1 + ((sigs cs).map (·.length)).sum = _
    rw [ih]
    simp
    omega
theorem fJoin_sigs {cs : List Nat} {n m : Nat} (h : cs.length ≤ big) : fJoin [(.str Str.empty, n), (.lst (cs.map chS), m)] = some (.str ⟨cs.toArray⟩, 0) := by
  show joinF _ _ = _
  unfold joinF
  rw [map_chS, strsOf_map]
  simp only
  rw [sigs_len, if_pos, join_sigs]
  show cs.length + (sigs cs).length * 0 ≤ big
  omega
theorem fSplit_of {a b : Str} {ss : List Str} {n m : Nat} (h : (b.length == 0) = false ∧ a.length + 2 ≤ big) (e : Txt.split a b = ss) : fSplit [(.str a, n), (.str b, m)] = some (.lst (ss.map D.str), 1) := by
  show (if _ then _ else _) = _
  rw [if_pos h, e]
end Z

namespace Z
open PySem L2
/-! ### drawing from a box of three ints -/
structure Bx where
  a : Int
  b : Int
  d : Int
def bx (b : Bx) : D := .lst [.int b.a, .int b.b, .int b.d]
def tk1 (b : Bx) : Int := (b.b + 104729 * (b.d + 1)) * 69623 % 2147483647
def tk2 (b : Bx) : Int := (tk1 b * 48271 + 30103) % 2147483629 + 1
def tkR (b : Bx) (m : Int) : Int := if 0 < b.a then b.a % m else (tk1 b * 2147483647 + tk2 b) / 8191 % m
def tkB (b : Bx) (m : Int) : Bx := if 0 < b.a then ⟨b.a / m, b.b, b.d⟩ else ⟨b.a, tk2 b, b.d + 1⟩
theorem tk_ge {b : Bx} {m : Int} (h : 0 < m) : 0 ≤ tkR b m := by
  unfold tkR
  split <;> exact Int.emod_nonneg _ (by omega)
theorem tk_lt {b : Bx} {m : Int} (h : 0 < m) : tkR b m < m := by
  unfold tkR
  split <;> exact Int.emod_lt_of_pos _ h
def TakeOk (fn : Fn) : Prop := ∀ (b : Bx) (m : Int), 0 < m → m < 1073741824 → fn [(bx b, 1), (.int m, 0)] = .ok (.int (tkR b m), 0) [(bx (tkB b m), 1), (.int m, 0)]
def BoxOk (fn : Fn) : Prop := ∀ (ns : List Int) (k : Int), 0 ≤ k → ∃ b, fn [(.rol (ns.map D.int), 0), (.int k, 0)] = .ok (bx b, 1) [(.rol (ns.map D.int), 0), (.int k, 0)]
theorem atI_map {α β : Type} {xs : List α} {f : α → β} {i : Int} (h0 : 0 ≤ i) (h1 : i < xs.length) : ∃ x ∈ xs, atI (xs.map f) i = some (f x) := by
  refine ⟨xs[i.toNat]'(by omega), List.getElem_mem _, ?_⟩
  rw [atI_ok h0 (by simpa using h1)]
  simp
/-- a constant text's or list's item that is drawn -/
theorem atI_mem {α : Type} {xs : List α} {i : Int} (h0 : 0 ≤ i) (h1 : i < xs.length) : ∃ x ∈ xs, atI xs i = some x :=
  ⟨_, List.getElem_mem _, atI_ok h0 h1⟩
theorem rngL_cons {lo : Int} {n : Nat} : rngL lo (n + 1) = .int lo :: rngL (lo + 1) n := by
  unfold rngL
  rw [List.range_succ_eq_map, List.map_cons, List.map_map]
  refine congr (congrArg _ (by simp)) (List.map_congr_left fun i _ => ?_)
  show D.int _ = D.int _
  congr 1
  show lo + ((i + 1 : Nat) : Int) = lo + 1 + (i : Nat)
  omega
@[simp] theorem rngL_zero {lo : Int} : rngL lo 0 = [] := rfl
@[simp] theorem rngL_len {lo : Int} {n : Nat} : (rngL lo n).length = n := by simp [rngL]
theorem tk_lo {b : Bx} {m : Int} (h : 0 < m) : (-4611686018427387904 : Int) ≤ tkR b m := by have := tk_ge (b := b) h; omega
theorem tk_hi {b : Bx} {m : Int} (h : 0 < m) (h2 : m ≤ 4611686018427387904) : tkR b m < 4611686018427387904 := by have := tk_lt (b := b) h; omega
theorem blsOf_map : ∀ bs : List Bool, blsOf (bs.map D.bl) = some bs
  | [] => rfl
  | b :: bs => by simp [blsOf, blsOf_map bs]
theorem fAll_map {bs : List Bool} {n : Nat} : fAll [(.lst (bs.map D.bl), n)] = some (.bl (bs.all id), 0) := by
  show Option.map _ (blsOf _) = _
  rw [blsOf_map]; rfl
theorem fAny_map {bs : List Bool} {n : Nat} : fAny [(.lst (bs.map D.bl), n)] = some (.bl (bs.any id), 0) := by
  show Option.map _ (blsOf _) = _
  rw [blsOf_map]; rfl
@[simp] theorem fIsi_bb {b : Bool} {n : Nat} : fIsi "bool" [(.bl b, n)] = some (.bl true, 0) := by
  have e : kitB "bool" "bool" = some true := by decide +kernel
  unfold fIsi
  simp only [tyN, e]
  rfl
@[simp] theorem isStr_s {a : Str} : isStr (.str a) = true := rfl
@[simp] theorem atI_i10 {α : Type} {x y : α} {p : Prop} [Decidable p] : atI [x, y] (if p then 1 else 0) = some (if p then y else x) := by
  split <;> simp
/-! ### a comprehension's turn -/
def lsK2 (us : List Nat) : R T → Option (Option D × S)
  | .ok y s => some (some y.1, wipeS s us)
  | _ => none
def lsK1 (us : List Nat) (m : M T) : R Bool → Option (Option D × S)
  | .ok true s => lsK2 us (m s)
  | .ok false s => some (none, wipeS s us)
  | _ => none
def lsK0 (us : List Nat) (t : M Bool) (m : M T) : Option S → Option (Option D × S)
  | some s => lsK1 us m (t s)
  | none => none
def lcStep (us : List Nat) (tg : Tg) (t : M Bool) (m : M T) (d : D) (s : S) : Option (Option D × S) := lsK0 us t m (tg.set d s)
@[simp] theorem lsK2_ok {us : List Nat} {y : T} {s : S} : lsK2 us (.ok y s) = some (some y.1, wipeS s us) := rfl
@[simp] theorem lsK1_t {us : List Nat} {m : M T} {s : S} : lsK1 us m (.ok true s) = lsK2 us (m s) := rfl
@[simp] theorem lsK1_f {us : List Nat} {m : M T} {s : S} : lsK1 us m (.ok false s) = some (none, wipeS s us) := rfl
theorem lsK1_b {us : List Nat} {m : M T} {b : Bool} {s : S} : lsK1 us m (.ok b s) = if b = true then lsK2 us (m s) else some (none, wipeS s us) := by cases b <;> rfl
@[simp] theorem lsK0_some {us : List Nat} {t : M Bool} {m : M T} {s : S} : lsK0 us t m (some s) = lsK1 us m (t s) := rfl
theorem lcStep_eq {us : List Nat} {tg : Tg} {t : M Bool} {m : M T} {d : D} {s : S} : lcStep us tg t m d s = lsK0 us t m (tg.set d s) := rfl
theorem lcL_step {us : List Nat} {tg : Tg} {t : M Bool} {m : M T} {d : D} {ds acc : List D} {s s' : S} {o : Option D} (h : lcStep us tg t m d s = some (o, s')) (hb : acc.length < big) : lcL us tg t m (d :: ds) acc s = lcL us tg t m ds (acc ++ o.toList) s' := by
  unfold lcStep at h
  cases q : tg.set d s with
  | none => rw [q] at h; cases h
  | some s1 =>
    rw [q] at h
    have h : lsK1 us m (t s1) = some (o, s') := h
    cases q2 : t s1 with
    | no => rw [q2] at h; cases h
    | ex x s2 => rw [q2] at h; cases h
    | ok b s2 =>
      rw [q2] at h
      cases b with
      | false =>
        cases h
        simp only [lcL, q, q2, Option.toList_none, List.append_nil]
      | true =>
        have h : lsK2 us (m s2) = some (o, s') := h
        cases q3 : m s2 with
        | no => rw [q3] at h; cases h
        | ex x s2 => rw [q3] at h; cases h
        | ok y s3 =>
          rw [q3] at h
          cases h
          simp only [lcL, q, q2, q3, if_pos hb, Option.toList_some]
/-- each turn told alone, nothing else changes -/
theorem lcL_fm {α : Type} {us : List Nat} {tg : Tg} {t : M Bool} {m : M T} {c : α → D} (p : α → Bool) (g : α → D) {s : S} : ∀ {xs : List α} {acc : List D}, (∀ x ∈ xs, lcStep us tg t m (c x) s = some (if p x = true then some (g x) else none, s)) → acc.length + xs.length ≤ big →
    lcL us tg t m (xs.map c) acc s = .ok (acc ++ (xs.filter p).map g) s
  | [], acc, _, _ => by simp [lcL]
  | x :: xs, acc, h, hb => by
    rw [List.map_cons, lcL_step (h x List.mem_cons_self) (by simp at hb; omega), lcL_fm p g (fun y hy => h y (List.mem_cons_of_mem _ hy)) (by split <;> simp at hb ⊢ <;> omega)]
    by_cases q : p x = true
    · rw [if_pos q, List.filter_cons_of_pos q]; simp
    · rw [if_neg q, List.filter_cons_of_neg q]; simp
theorem lcL_mp {α : Type} {us : List Nat} {tg : Tg} {t : M Bool} {m : M T} {c : α → D} (g : α → D) {s : S} {xs : List α} (h : ∀ x ∈ xs, lcStep us tg t m (c x) s = some (some (g x), s)) (hb : xs.length ≤ big) : lcL us tg t m (xs.map c) [] s = .ok (xs.map g) s := by
  rw [lcL_fm (fun _ => true) g (by simpa using h) (by simpa using hb)]
  congr 1
  rw [List.nil_append, List.filter_eq_self.mpr fun _ _ => rfl]
/-- with a state: an invariant -/
theorem lcL_inv {α : Type} {us : List Nat} {tg : Tg} {t : M Bool} {m : M T} {c : α → D} {I : List α → List D → S → Prop} (h : ∀ x r acc s, I (x :: r) acc s → acc.length < big ∧ ∃ o s', lcStep us tg t m (c x) s = some (o, s') ∧ I r (acc ++ o.toList) s') :
    ∀ {xs : List α} {acc : List D} {s : S}, I xs acc s → ∃ acc' s', lcL us tg t m (xs.map c) acc s = .ok acc' s' ∧ I [] acc' s'
  | [], acc, s, hi => ⟨acc, s, rfl, hi⟩
  | x :: r, acc, s, hi => by
    obtain ⟨hb, o, s', e, k⟩ := h x r acc s hi
    obtain ⟨acc', s2, e2, k2⟩ := lcL_inv h k
    exact ⟨acc', s2, by rw [List.map_cons, lcL_step e hb]; exact e2, k2⟩
def rng (lo : Int) : Nat → List Int
  | 0 => []
  | n + 1 => lo :: rng (lo + 1) n
theorem rngL_map : ∀ {n : Nat} {lo : Int}, rngL lo n = (rng lo n).map D.int
  | 0, _ => rfl
  | n + 1, lo => by rw [rngL_cons, rngL_map]; rfl
theorem rng_len : ∀ {n : Nat} {lo : Int}, (rng lo n).length = n
  | 0, _ => rfl
  | n + 1, lo => by simp [rng, rng_len (n := n)]
theorem rng_mem : ∀ {n : Nat} {lo i : Int}, i ∈ rng lo n → lo ≤ i ∧ i < lo + n
  | 0, _, _, h => nomatch h
  | n + 1, lo, i, h => by
    rcases List.mem_cons.mp h with h | h
    · omega
    · have := rng_mem h; omega
end Z

namespace Z
open PySem L2
theorem cutD_map {α β : Type} {f : α → β} {xs : List α} {l u : Option Int} : cutD (xs.map f) l u = (cutD xs l u).map f := by
  unfold cutD
  rw [List.length_map, List.map_take, List.map_drop]
theorem cutD_mem {α : Type} {xs : List α} {l u : Option Int} {x : α} (h : x ∈ cutD xs l u) : x ∈ xs := List.mem_of_mem_drop (List.mem_of_mem_take h)
theorem cutD_le {α : Type} {xs : List α} {l u : Option Int} : (cutD xs l u).length ≤ xs.length := by
  unfold cutD
  simp
  omega
theorem cutD_first {α : Type} {xs : List α} {k : Nat} : cutD xs none (some (k : Int)) = xs.take k := by
  unfold cutD
  rw [HT.sIx_none, HT.sIx_nat, List.drop_zero, Nat.sub_zero, Nat.min_comm]
  by_cases h : k ≤ xs.length
  · rw [Nat.min_eq_right h]
  · rw [Nat.min_eq_left (by omega), List.take_of_length_le (by omega), List.take_of_length_le (by omega)]
end Z

namespace Z
open PySem L2
open PyProof.Rows (envOfC)
/-! ### constants of the module -/
def litV : D → Value → Bool
  | .non, .none => true
  | .bl a, .bool b => a == b
  | .int a, .int b _ => a == b
  | .str a, .str b _ => a == b
  | _, _ => false
theorem litV_ok {c : Zc} {d : D} {u : Value} (h : litV d u = true) : ∃ v, RelV v u ∧ ∀ Z, RF c Z d v := by
  unfold litV at h
  split at h
  · exact ⟨.non, rfl, fun _ => .non⟩
  · have := beq_iff_eq.mp h; subst this; exact ⟨.bl _, rfl, fun _ => .bl⟩
  · have := beq_iff_eq.mp h; subst this; exact ⟨.int _, ⟨_, rfl⟩, fun _ => .int⟩
  · have := beq_iff_eq.mp h; subst this; exact ⟨.str _, ⟨_, rfl⟩, fun _ => .str⟩
  · cases h
def litL : List D → List Value → Bool
  | [], [] => true
  | d :: ds, u :: us => litV d u && litL ds us
  | _, _ => false
theorem litL_ok {c : Zc} : ∀ {ds : List D} {us : List Value}, litL ds us = true → ∃ vs, Vals vs us ∧ ds.length = vs.length ∧ ∀ Z (i : Nat) d w, ds[i]? = some d → vs[i]? = some w → RF c Z d w
  | [], [], _ => ⟨[], .nil, rfl, fun Z i d w h => by simp at h⟩
  | d :: ds, u :: us, h => by
    obtain ⟨h1, h2⟩ := Bool.and_eq_true_iff.mp h
    obtain ⟨v, r1, f1⟩ := litV_ok (c := c) h1
    obtain ⟨vs, r2, l2, f2⟩ := litL_ok (c := c) h2
    refine ⟨v :: vs, .cons r1 r2, by simp [l2], fun Z i d w hd hw => ?_⟩
    cases i with
    | zero => cases hd; cases hw; exact f1 Z
    | succ i => exact f2 Z i d w (by simpa using hd) (by simpa using hw)
  | [], _ :: _, h => by cases h
  | _ :: _, [], h => by cases h
section
variable {c : Zc} {h : Heap} {mg : Str → Option Value}
theorem gv_lit {x : Str} {d : D} {u : Value} (X0 : c.K.In h) (G0 : h.Ns mainGlobals mg) (a : PySem.W.nsIn c.K mainGlobals x = some (some u)) (hl : litV d u = true) : Gv c mg x d := by
  obtain ⟨v, h1, h2⟩ := litV_ok (c := c) hl
  exact ⟨v, u, PySem.W.mg_of X0 G0 a, h1, h2⟩
theorem gv_tup {x : Str} {ds : List D} {p : Addr} {od : Option Addr} {its : Array Value} {n : Nat} {sl : Array (Option Value)} (X0 : c.K.In h) (G0 : h.Ns mainGlobals mg) (a : PySem.W.nsIn c.K mainGlobals x = some (some (.ref p))) (l : c.K.lookup p = some ⟨.type "tuple", od, .seq its n, sl⟩)
    (hz : its.size ≤ sizeLine) (hl : litL ds its.toList = true) : Gv c mg x (.tup ds) := by
  obtain ⟨vs, h1, h2, h3⟩ := litL_ok (c := c) hl
  exact ⟨.ref p, _, PySem.W.mg_of X0 G0 a, rfl, fun Z => .tup (.inr ⟨_, its, n, l, rfl, rfl, hz, h1⟩) h2 (h3 Z)⟩
end
/-! ### the end -/
theorem z_end {l : PySem.W.OpenLaw} {q : Program} {loose : List Str} {XP : (Str → Option Value) → Heap → Prop} {YP : World → Heap → Prop} {d : DefRec} {K : Params → PySem.W.Frag} {cl : World → Str → Option Addr} {k : Nat} {x : Str} {fn : Fn} (hn : l.most = some 63) (hdf : d.params.defaults = []) (hr : Room k callerA)
    (hY : ∀ (w : World) (h : Heap), YP w h → (K w.params).In h)
    (F0 : ∀ (w : World) (mg : Str → Option Value) (fa : Addr) (h : Heap), (K w.params).In h → h.Ns mainGlobals mg → mg d.name = some (.ref fa) → ∃ fd : FuncData, (∀ (s : Shared) (u : Value), BindsTo s fd ⟨[u], []⟩ [(x, u)]) ∧
      ∀ base : Heap, (K w.params).In base → base.Ns mainGlobals mg → FnOk l.prog w (K w.params) mg base (L2.CX l.prog w) k fa fd [x] (spZ ⟨K w.params, cl w⟩ 1 fn))
    (hfn : ∀ ns : List Int, ns.length ≤ 63 → ∃ ts, fn [(.rol (ns.map D.int), 0)] = .ok (.bl true, 0) ts) :
    PySem.W.WalkO q loose XP YP l.row.toRowW d [] (fun f vs => PySem.call f vs) := by
  refine L2.walk_of (n := 63) (k := k) (x := x) (CX := fun w => L2.CX l.prog w) (sp := fun w => spZ ⟨K w.params, cl w⟩ 1 fn) hn (by decide) hdf hr hY F0 (fun w H a ns hl _ hS => ?_) fun _ _ _ _ _ ⟨_, _, _, _, _, _, _, _, _, _, _, _, z⟩ => z
  obtain ⟨ts, e⟩ := hfn ns hl
  have rf : RF ⟨K w.params, cl w⟩ H (.rol (ns.map D.int)) (.ref a) := .rol hS (by simp) fun i d v h1 h2 => by
    rw [List.getElem?_map] at h1 h2
    cases q : ns[i]? with
    | none => rw [q] at h1; cases h1
    | some j => rw [q] at h1 h2; cases h1; cases h2; exact .int
  refine ⟨H, [(.rol (ns.map D.int), 0)], [], rfl, ⟨fun a o e => .inl e, ⟨[], [], rfl, ⟨rf, rfl⟩, rfl⟩, .nil, fun a h => nomatch h⟩, ?_⟩
  rw [e]
  intro Z' H' v fp' s' a'
  obtain ⟨f, g, ef, l1, l2⟩ := LR.split (by
    have := a'.lr.len
    simp only [List.length_append, List.length_cons, List.length_nil] at this ⊢
    omega) a'.lr
  obtain ⟨v', ev, r⟩ := LR.of_one l2
  cases ev
  obtain ⟨r, _⟩ := r
  cases r
  rfl
end Z

namespace Y_k02
open PySem L2 Z
def top (i : Nat) : Stmt := PySem.Challenge.pw_dropfates_k02_names_and_words.main.body.getD i (.Pass ⟨0, 0, 0, 0⟩)
abbrev s__law_box : Stmt := top 8
abbrev s__law_take : Stmt := top 9
abbrev s__law_kept : Stmt := top 10
abbrev s__law_text : Stmt := top 11
abbrev s_has_letters : Stmt := top 4
abbrev s_is_name : Stmt := top 5
abbrev s_is_word : Stmt := top 6
abbrev s__law_plain : Stmt := top 12
abbrev s__law_right : Stmt := top 13
abbrev s_law : Stmt := top 14
/-! ### mirrors -/
def d_LONGEST : D := (.int 8)
def d_LETTERS : D := (.str "abcdefghijklmnopqrstuvwxyz")
def ds_KEPT_WORDS : List D := [(.str "create"), (.str "drop"), (.str "cascade"), (.str "rename"), (.str "redefine"), (.str "swap"), (.str "fail"), (.str "if"), (.str "while"), (.str "try"), (.str "batch"), (.str "else"), (.str "on"), (.str "end"), (.str "to"), (.str "needs"), (.str "part")]
def d_KEPT_WORDS : D := .tup ds_KEPT_WORDS
noncomputable section
def b__law_box_3 : M Fl :=
  (mRet (mLst [(mOp fIx [(.tm (mLst [(mC (.int 0)), (mNm 2)])), (.tm (mOp fInt [(.tm (mOp fGe [(.nm 2), (.tm (mOp fPow [(.tm (mC (.int 10))), (.tm (mC (.int 18)))]))]))]))]), (mNm 3), (mC (.int 0))]))
def b__law_box_2 : M Fl :=
  (mSeq (mAsg 3 (mOp fAdd [(.tm (mOp fMod [(.tm (mOp fInt [(.tm (mOp fAdd [(.tm (mOp fAdd [(.tm (mOp fMul [(.tm (mOp fMod [(.tm (mOp fInt [(.nm 2)])), (.tm (mC (.int 2147483629)))])), (.tm (mC (.int 48271)))])), (.tm (mOp fMul [(.tm (mC (.int 40692))), (.nm 1)]))])), (.tm (mC (.int 7)))]))])), (.tm (mC (.int 2147483629)))])), (.tm (mC (.int 1)))]))
    b__law_box_3)
def b__law_box_1 : M Fl :=
  (mSeq (mIfS (mB (mOp fLt [(.nm 1), (.tm (mOp fLen [(.nm 0)]))])) (mAsg 2 (mOp fAbs [(.tm (mOp fIx [(.nm 0), (.nm 1)]))])) (mIfS (mB (mOp fGt [(.tm (mOp fLen [(.nm 0)])), (.tm (mC (.int 0)))])) (mAsg 2 (mOp fAdd [(.nm 2), (.tm (mOp fMul [(.tm (mOp fMod [(.tm (mOp fInt [(.tm (mOp fIx [(.nm 0), (.tm (mOp fMod [(.tm (mOp fInt [(.nm 1)])), (.tm (mOp fLen [(.nm 0)]))]))]))])), (.tm (mC (.int 2147483629)))])), (.tm (mC (.int 69623)))]))])) mNx))
    b__law_box_2)
def b__law_box : M Fl :=
  (mSeq (mAsg 2 (mOp fAdd [(.tm (mOp fMul [(.tm (mC (.int 6151))), (.nm 1)])), (.tm (mC (.int 29)))]))
    b__law_box_1)
def f__law_box : Fn := fnOf 4 b__law_box
def b__law_take_4 : M Fl :=
  (mRet (mOp fMod [(.tm (mOp fInt [(.tm (mOp fDiv [(.tm (mOp fAdd [(.tm (mOp fMul [(.nm 2), (.tm (mC (.int 2147483647)))])), (.tm (mOp fIx [(.nm 0), (.tm (mC (.int 1)))]))])), (.tm (mC (.int 8191)))]))])), (.nm 1)]))
def b__law_take_3 : M Fl :=
  (mSeq (mSet 0 (.tm (mC (.int 1))) (mOp fAdd [(.tm (mOp fMod [(.tm (mOp fInt [(.tm (mOp fAdd [(.tm (mOp fMul [(.nm 2), (.tm (mC (.int 48271)))])), (.tm (mC (.int 30103)))]))])), (.tm (mC (.int 2147483629)))])), (.tm (mC (.int 1)))]))
    b__law_take_4)
def b__law_take_2 : M Fl :=
  (mSeq (mAsg 2 (mOp fMod [(.tm (mOp fInt [(.tm (mOp fMul [(.tm (mOp fAdd [(.tm (mOp fIx [(.nm 0), (.tm (mC (.int 1)))])), (.tm (mOp fMul [(.tm (mC (.int 104729))), (.tm (mOp fIx [(.nm 0), (.tm (mC (.int 2)))]))]))])), (.tm (mC (.int 69623)))]))])), (.tm (mC (.int 2147483647)))]))
    b__law_take_3)
def b__law_take_1 : M Fl :=
  (mSeq (mSet 0 (.tm (mC (.int 2))) (mOp fAdd [(.tm (mOp fIx [(.nm 0), (.tm (mC (.int 2)))])), (.tm (mC (.int 1)))]))
    b__law_take_2)
def b__law_take : M Fl :=
  (mSeq (mIfS (mB (mOp fGt [(.tm (mOp fIx [(.nm 0), (.tm (mC (.int 0)))])), (.tm (mC (.int 0)))])) (mSeq (mAsg 3 (mOp fMod [(.tm (mOp fInt [(.tm (mOp fIx [(.nm 0), (.tm (mC (.int 0)))]))])), (.nm 1)]))
    (mSeq (mSet 0 (.tm (mC (.int 0))) (mOp fDiv [(.tm (mOp fIx [(.nm 0), (.tm (mC (.int 0)))])), (.nm 1)]))
    (mRet (mNm 3)))) mNx)
    b__law_take_1)
def f__law_take : Fn := fnOf 4 b__law_take
def b__law_kept_1 : M Fl :=
  (mRet (mBm fSplit (.nm 0) [(mC (.str " "))]))
def b__law_kept : M Fl :=
  (mSeq (mAsg 0 (mC (.str "create drop cascade rename redefine swap fail if while try batch else on end to needs part")))
    b__law_kept_1)
def f__law_kept : Fn := fnOf 1 b__law_kept
def e__law_text_1 : M T :=
  (mOp fIx [(.nm 1), (.tm (mCall f__law_take [(.bo 0), (.tm (mC (.int 26)))] []))])
def b__law_text_8 : M Fl :=
  (mRet (mNm 4))
def b__law_text_7 : M Fl :=
  (mSeq (mIfS (mB (mOp fEq [(.nm 3), (.tm (mC (.int 4)))])) (mSeq (mAsg 8 (mOp fIx [(.tm (mLst [(mOp fIx [(.nm 2), (.tm (mCall f__law_take [(.bo 0), (.tm (mOp fLen [(.nm 2)]))] []))]), (mC (.str "\n")), (mC (.str " "))])), (.tm (mCall f__law_take [(.bo 0), (.tm (mC (.int 3)))] []))]))
    (mSeq (mAsg 5 (mOp fIx [(.tm (mLst [(mC (.int 0)), (mOp fLen [(.nm 4)]), (mNm 5)])), (.tm (mCall f__law_take [(.bo 0), (.tm (mC (.int 3)))] []))]))
    (mRet (mOp fAdd [(.tm (mOp fAdd [(.tm (mSl (.nm 4) none (some (mNm 5)))), (.nm 8)])), (.tm (mSl (.nm 4) (some (mOp fAdd [(.nm 5), (.tm (mCall f__law_take [(.bo 0), (.tm (mC (.int 2)))] []))])) none))])))) mNx)
    b__law_text_8)
def b__law_text_6 : M Fl :=
  (mSeq (mIfS (mB (mOp fIn [(.nm 3), (.tm (mTup [(mC (.int 1)), (mC (.int 3))]))])) (mSeq (mAsg 7 (mOp fIx [(.tm (mLst [(mC (.str "")), (mOp fIx [(.nm 1), (.tm (mCall f__law_take [(.bo 0), (.tm (mC (.int 26)))] []))])])), (.tm (mCall f__law_take [(.bo 0), (.tm (mC (.int 2)))] []))]))
    (mRet (mOp fAdd [(.tm (mOp fAdd [(.tm (mSl (.nm 4) none (some (mNm 5)))), (.nm 7)])), (.tm (mSl (.nm 4) (some (mOp fAdd [(.nm 5), (.tm (mCall f__law_take [(.bo 0), (.tm (mC (.int 2)))] []))])) none))]))) mNx)
    b__law_text_7)
def b__law_text_5 : M Fl :=
  (mSeq (mAsg 5 (mCall f__law_take [(.bo 0), (.tm (mOp fAdd [(.tm (mOp fLen [(.nm 4)])), (.tm (mC (.int 1)))]))] []))
    b__law_text_6)
def b__law_text_4 : M Fl :=
  (mSeq (mIfS (mB (mOp fLt [(.nm 3), (.tm (mC (.int 3)))])) (mSeq (mAsg 6 (mOp fAdd [(.tm (mCall f__law_kept [] [])), (.tm (mLst [(mC (.str "done")), (mC (.str "endless")), (mC (.str "taken")), (mC (.str "missing")), (mC (.str "blocked")), (mC (.str "cycle"))]))]))
    (mAsg 4 (mOp fIx [(.nm 6), (.tm (mCall f__law_take [(.bo 0), (.tm (mOp fLen [(.nm 6)]))] []))]))) mNx)
    b__law_text_5)
def b__law_text_3 : M Fl :=
  (mSeq (mAsg 4 (mBm fJoin (.tm (mC (.str ""))) [(mLc [9] (.nm 9) (mRng1 (.tm (mCall f__law_take [(.bo 0), (.tm (mC (.int 11)))] []))) mYes e__law_text_1)]))
    b__law_text_4)
def b__law_text_2 : M Fl :=
  (mSeq (mAsg 3 (mCall f__law_take [(.bo 0), (.tm (mC (.int 6)))] []))
    b__law_text_3)
def b__law_text_1 : M Fl :=
  (mSeq (mAsg 2 (mC (.str " !\"#$&'()*+,-./0123456789:;<=>?@ABCDEFGHIJKLMNOPQRSTUVWXYZ[\\]^_`{|}~\n")))
    b__law_text_2)
def b__law_text : M Fl :=
  (mSeq (mAsg 1 (mC (.str "abcdefghijklmnopqrstuvwxyz")))
    b__law_text_1)
def f__law_text : Fn := fnOf 10 b__law_text
def e_has_letters_1 : M T :=
  (mOp fIn [(.nm 1), (.tm (mC d_LETTERS))])
def b_has_letters : M Fl :=
  (mRet (mAnd (mCh (fun i j => decide (i ≤ j)) (fun i j => decide (i ≤ j)) (mC (.int 1)) (mOp fLen [(.nm 0)]) (mC d_LONGEST)) (mOp fAll [(.tm (mLc [1] (.nm 1) (mIts (mNm 0)) mYes e_has_letters_1))])))
def f_has_letters : Fn := fnOf 2 b_has_letters
def b_is_name : M Fl :=
  (mRet (mAnd (mCall f_has_letters [(.bo 0)] []) (mOp fNotIn [(.nm 0), (.tm (mC d_KEPT_WORDS))])))
def f_is_name : Fn := fnOf 1 b_is_name
def b_is_word : M Fl :=
  (mRet (mAnd (mCall f_has_letters [(.bo 0)] []) (mAnd (mOp fNe [(.nm 0), (.tm (mC (.str "done")))]) (mOp fNe [(.nm 0), (.tm (mC (.str "endless")))]))))
def f_is_word : Fn := fnOf 1 b_is_word
def t__law_plain_1 : M Bool :=
  (mB (mOp fNotIn [(.nm 1), (.tm (mC (.str "abcdefghijklmnopqrstuvwxyz")))]))
def e__law_plain_1 : M T :=
  (mNm 1)
def b__law_plain : M Fl :=
  (mRet (mAnd (mCh (fun i j => decide (i < j)) (fun i j => decide (i < j)) (mC (.int 0)) (mOp fLen [(.nm 0)]) (mC (.int 9))) (mOp fEq [(.tm (mLc [1] (.nm 1) (mIts (mNm 0)) t__law_plain_1 e__law_plain_1)), (.tm (mLst []))])))
def f__law_plain : Fn := fnOf 2 b__law_plain
def b__law_right_4 : M Fl :=
  (mRet (mOp fEq [(.nm 2), (.tm (mAnd (mCall f__law_plain [(.bo 0)] []) (mOp fNotIn [(.nm 0), (.tm (mTup [(mC (.str "done")), (mC (.str "endless"))]))])))]))
def b__law_right_3 : M Fl :=
  (mSeq (mIfS (mB (mOp fNe [(.nm 1), (.tm (mAnd (mCall f__law_plain [(.bo 0)] []) (mOp fNotIn [(.nm 0), (.tm (mCall f__law_kept [] []))])))])) (mRet (mC (.bl false))) mNx)
    b__law_right_4)
def b__law_right_2 : M Fl :=
  (mSeq (mIfS (mOrT (mNotT (mTru (.tm (mOp (fIsi "bool") [(.nm 1)])))) (mNotT (mTru (.tm (mOp (fIsi "bool") [(.nm 2)]))))) (mRet (mC (.bl false))) mNx)
    b__law_right_3)
def b__law_right_1 : M Fl :=
  (mSeq (mIfS (mOrT (mB (mOp fNe [(.tm (mCall f_is_name [(.bo 0)] [])), (.nm 1)])) (mB (mOp fNe [(.tm (mCall f_is_word [(.bo 0)] [])), (.nm 2)]))) (mRet (mC (.bl false))) mNx)
    b__law_right_2)
def b__law_right : M Fl :=
  (mSeq (mPar 1 2 (mCall f_is_name [(.bo 0)] []) (mCall f_is_word [(.bo 0)] []))
    b__law_right_1)
def f__law_right : Fn := fnOf 3 b__law_right
def e_law_1 : M T :=
  (mCall f__law_text [(.bo 3)] [])
def l_law_1_1 : M Fl :=
  (mAsg 1 (mOp fAdd [(.nm 1), (.tm (mLc [5] (.nm 5) (mRng1 (.tm (mC (.int 5)))) mYes e_law_1))]))
def l_law_1 : M Fl :=
  (mSeq (mAsg 3 (mCall f__law_box [(.bo 0), (.bo 2)] []))
    l_law_1_1)
def t_law_1 : M Bool :=
  (mNotT (mTru (.tm (mCall f__law_right [(.bo 4)] []))))
def e_law_2 : M T :=
  (mNm 4)
def b_law_2 : M Fl :=
  (mRet (mOp fEq [(.tm (mLc [4] (.nm 4) (mIts (mOp fAdd [(.nm 1), (.tm (mSl (.nm 1) none (some (mC (.int 1)))))])) t_law_1 e_law_2)), (.tm (mLst []))]))
def b_law_1 : M Fl :=
  (mSeq (mFor (.nm 2) (mRng1 (.tm (mOp fAdd [(.tm (mC (.int 1))), (.tm (mOp fLen [(.tm (mSl (.nm 0) none (some (mC (.int 5)))))]))]))) l_law_1)
    b_law_2)
def b_law : M Fl :=
  (mSeq (mAsg 1 (mLst []))
    b_law_1)
def f_law : Fn := fnOf 6 b_law
end
/-! ### what the top has written -/
structure Tx (c : Zc) (mg : Str → Option Value) : Prop where
  b_abs : mg "abs" = none
  b_all : mg "all" = none
  b_bool : mg "bool" = none
  b_int : mg "int" = none
  b_isinstance : mg "isinstance" = none
  b_len : mg "len" = none
  b_range : mg "range" = none
  g_LONGEST : Gv c mg "LONGEST" d_LONGEST
  g_LETTERS : Gv c mg "LETTERS" d_LETTERS
  g_KEPT_WORDS : Gv c mg "KEPT_WORDS" d_KEPT_WORDS
def N__law_box : List Str := ["_law_script", "_law_k", "_law_cell", "_law_seed"]
def P__law_box : List Str := ["_law_script", "_law_k"]
abbrev dd__law_box : List (List D) := [[]]
abbrev kk__law_box : List (List Str × List D) := []
theorem sc__law_box : FnScope N__law_box P__law_box (defScope s__law_box) := ⟨rfl, rfl, rfl, by decide +kernel, rfl, by decide +kernel, by decide +kernel⟩
def N__law_take : List Str := ["_law_box_here", "_law_many", "_law_one", "_law_digit"]
def P__law_take : List Str := ["_law_box_here", "_law_many"]
abbrev dd__law_take : List (List D) := [[]]
abbrev kk__law_take : List (List Str × List D) := []
theorem sc__law_take : FnScope N__law_take P__law_take (defScope s__law_take) := ⟨rfl, rfl, rfl, by decide +kernel, rfl, by decide +kernel, by decide +kernel⟩
def N__law_kept : List Str := ["_law_words"]
def P__law_kept : List Str := []
abbrev dd__law_kept : List (List D) := [[]]
abbrev kk__law_kept : List (List Str × List D) := []
theorem sc__law_kept : FnScope N__law_kept P__law_kept (defScope s__law_kept) := ⟨rfl, rfl, rfl, by decide +kernel, rfl, by decide +kernel, by decide +kernel⟩
def N__law_text : List Str := ["_law_box_here", "_law_letters", "_law_signs", "_law_form", "_law_word", "_law_at", "_law_some", "_law_more", "_law_sign", "_law_k"]
def P__law_text : List Str := ["_law_box_here"]
abbrev dd__law_text : List (List D) := [[]]
abbrev kk__law_text : List (List Str × List D) := []
theorem sc__law_text : FnScope N__law_text P__law_text (defScope s__law_text) := ⟨rfl, rfl, rfl, by decide +kernel, rfl, by decide +kernel, by decide +kernel⟩
def N_has_letters : List Str := ["text", "sign"]
def P_has_letters : List Str := ["text"]
abbrev dd_has_letters : List (List D) := [[]]
abbrev kk_has_letters : List (List Str × List D) := []
theorem sc_has_letters : FnScope N_has_letters P_has_letters (defScope s_has_letters) := ⟨rfl, rfl, rfl, by decide +kernel, rfl, by decide +kernel, by decide +kernel⟩
def N_is_name : List Str := ["text"]
def P_is_name : List Str := ["text"]
abbrev dd_is_name : List (List D) := [[]]
abbrev kk_is_name : List (List Str × List D) := [(["text"], [])]
theorem sc_is_name : FnScope N_is_name P_is_name (defScope s_is_name) := ⟨rfl, rfl, rfl, by decide +kernel, rfl, by decide +kernel, by decide +kernel⟩
def N_is_word : List Str := ["text"]
def P_is_word : List Str := ["text"]
abbrev dd_is_word : List (List D) := [[]]
abbrev kk_is_word : List (List Str × List D) := [(["text"], [])]
theorem sc_is_word : FnScope N_is_word P_is_word (defScope s_is_word) := ⟨rfl, rfl, rfl, by decide +kernel, rfl, by decide +kernel, by decide +kernel⟩
def N__law_plain : List Str := ["_law_written", "_law_sign"]
def P__law_plain : List Str := ["_law_written"]
abbrev dd__law_plain : List (List D) := [[]]
abbrev kk__law_plain : List (List Str × List D) := []
theorem sc__law_plain : FnScope N__law_plain P__law_plain (defScope s__law_plain) := ⟨rfl, rfl, rfl, by decide +kernel, rfl, by decide +kernel, by decide +kernel⟩
def N__law_right : List Str := ["_law_written", "_law_name", "_law_word"]
def P__law_right : List Str := ["_law_written"]
abbrev dd__law_right : List (List D) := [[]]
abbrev kk__law_right : List (List Str × List D) := []
theorem sc__law_right : FnScope N__law_right P__law_right (defScope s__law_right) := ⟨rfl, rfl, rfl, by decide +kernel, rfl, by decide +kernel, by decide +kernel⟩
def N_law : List Str := ["_law_script", "_law_texts", "_law_k", "_law_box_here", "_law_written", "_law_turn"]
def P_law : List Str := ["_law_script"]
abbrev dd_law : List (List D) := [[]]
abbrev kk_law : List (List Str × List D) := []
theorem sc_law : FnScope N_law P_law (defScope s_law) := ⟨rfl, rfl, rfl, by decide +kernel, rfl, by decide +kernel, by decide +kernel⟩
section
variable {P : Program} {w : World} {c : Zc} {mg : Str → Option Value} {base : Heap}
theorem cl__law_box (T : Tx c mg) (D0 : Df c mg "_law_box" s__law_box P__law_box dd__law_box kk__law_box)  : Cl P w c mg base 1 "_law_box" P__law_box f__law_box dd__law_box kk__law_box :=
  cl_of (N := N__law_box) (k := 0) (body := b__law_box) D0 sc__law_box (by decide) fun _ cdv A outer s H E W hr tk =>
    (zss_cons (vS 2 sc__law_box.nd (ze_bin (opAdd rfl) ruAdd (zo_tm (ze_bin opMul ruMul (zo_tm ze_int) (vO 1))) (zo_tm ze_int)))
    (zss_cons (zs_if (zt_cmp op_lt ruLt (vO 1) (zo_tm (b_len T.b_len (vO 0))) (nomark _)) (zss_one (vS 2 sc__law_box.nd (b_abs T.b_abs (zo_tm (ze_ix ix_seq ruIx (vO 0) (vO 1) (fun _ _ => rfl)))))) (zss_one (zs_if (zt_cmp op_gt ruGt (zo_tm (b_len T.b_len (vO 0))) (zo_tm ze_int) (nomark _)) (zss_one (vS 2 sc__law_box.nd (ze_bin (opAdd rfl) ruAdd (vO 2) (zo_tm (ze_bin opMul ruMul (zo_tm (ze_bin op_mod ruMod (zo_tm (b_int T.b_int (zo_tm (ze_ix ix_seq ruIx (vO 0) (zo_tm (ze_bin op_mod ruMod (zo_tm (b_int T.b_int (vO 1))) (zo_tm (b_len T.b_len (vO 0))))) (fun _ _ => rfl))))) (zo_tm ze_int))) (zo_tm ze_int)))))) zss_nil)))
    (zss_cons (vS 3 sc__law_box.nd (ze_bin (opAdd rfl) ruAdd (zo_tm (ze_bin op_mod ruMod (zo_tm (b_int T.b_int (zo_tm (ze_bin (opAdd rfl) ruAdd (zo_tm (ze_bin (opAdd rfl) ruAdd (zo_tm (ze_bin opMul ruMul (zo_tm (ze_bin op_mod ruMod (zo_tm (b_int T.b_int (vO 2))) (zo_tm ze_int))) (zo_tm ze_int))) (zo_tm (ze_bin opMul ruMul (zo_tm ze_int) (vO 1))))) (zo_tm ze_int))))) (zo_tm ze_int))) (zo_tm ze_int)))
    (zss_one (zs_ret (ze_lst (za_cons (ze_ix ix_seq ruIx (zo_tm (ze_lst (za_cons ze_int (za_cons (vE 2) za_nil)))) (zo_tm (b_int T.b_int (zo_tm (ze_cmp op_ge ruGe (vO 2) (zo_tm (ze_bin op_pow ruPow (zo_tm ze_int) (zo_tm ze_int))) (nomark _))))) (fun _ _ => rfl)) (za_cons (vE 3) (za_cons ze_int za_nil)))))))))
theorem cl__law_take (T : Tx c mg) (D0 : Df c mg "_law_take" s__law_take P__law_take dd__law_take kk__law_take)  : Cl P w c mg base 1 "_law_take" P__law_take f__law_take dd__law_take kk__law_take :=
  cl_of (N := N__law_take) (k := 0) (body := b__law_take) D0 sc__law_take (by decide) fun _ cdv A outer s H E W hr tk =>
    (zss_cons (zs_if (zt_cmp op_gt ruGt (zo_tm (ze_ix ix_seq ruIx (vO 0) (zo_tm ze_int) (fun _ _ => rfl))) (zo_tm ze_int) (nomark _)) (zss_cons (vS 3 sc__law_take.nd (ze_bin op_mod ruMod (zo_tm (b_int T.b_int (zo_tm (ze_ix ix_seq ruIx (vO 0) (zo_tm ze_int) (fun _ _ => rfl))))) (vO 1)))
    (zss_cons (zs_set (ze_bin op_fdiv ruDiv (zo_tm (ze_ix ix_seq ruIx (vO 0) (zo_tm ze_int) (fun _ _ => rfl))) (vO 1)) (by decide) (pg_sub (pv 0) (zo_tm ze_int) (set_any (hu_of hr))))
    (zss_one (zs_ret (vE 3))))) zss_nil)
    (zss_cons (zs_set (ze_bin (opAdd rfl) ruAdd (zo_tm (ze_ix ix_seq ruIx (vO 0) (zo_tm ze_int) (fun _ _ => rfl))) (zo_tm ze_int)) (by decide) (pg_sub (pv 0) (zo_tm ze_int) (set_any (hu_of hr))))
    (zss_cons (vS 2 sc__law_take.nd (ze_bin op_mod ruMod (zo_tm (b_int T.b_int (zo_tm (ze_bin opMul ruMul (zo_tm (ze_bin (opAdd rfl) ruAdd (zo_tm (ze_ix ix_seq ruIx (vO 0) (zo_tm ze_int) (fun _ _ => rfl))) (zo_tm (ze_bin opMul ruMul (zo_tm ze_int) (zo_tm (ze_ix ix_seq ruIx (vO 0) (zo_tm ze_int) (fun _ _ => rfl))))))) (zo_tm ze_int))))) (zo_tm ze_int)))
    (zss_cons (zs_set (ze_bin (opAdd rfl) ruAdd (zo_tm (ze_bin op_mod ruMod (zo_tm (b_int T.b_int (zo_tm (ze_bin (opAdd rfl) ruAdd (zo_tm (ze_bin opMul ruMul (vO 2) (zo_tm ze_int))) (zo_tm ze_int))))) (zo_tm ze_int))) (zo_tm ze_int)) (by decide) (pg_sub (pv 0) (zo_tm ze_int) (set_any (hu_of hr))))
    (zss_one (zs_ret (ze_bin op_mod ruMod (zo_tm (b_int T.b_int (zo_tm (ze_bin op_fdiv ruDiv (zo_tm (ze_bin (opAdd rfl) ruAdd (zo_tm (ze_bin opMul ruMul (vO 2) (zo_tm ze_int))) (zo_tm (ze_ix ix_seq ruIx (vO 0) (zo_tm ze_int) (fun _ _ => rfl))))) (zo_tm ze_int))))) (vO 1))))))))
theorem cl__law_kept (T : Tx c mg) (D0 : Df c mg "_law_kept" s__law_kept P__law_kept dd__law_kept kk__law_kept)  : Cl P w c mg base 1 "_law_kept" P__law_kept f__law_kept dd__law_kept kk__law_kept :=
  cl_of (N := N__law_kept) (k := 0) (body := b__law_kept) D0 sc__law_kept (by decide) fun _ cdv A outer s H E W hr tk =>
    (zss_cons (vS 0 sc__law_kept.nd ze_str)
    (zss_one (zs_ret (m_split (vO 0) ze_str))))
theorem cl__law_text (T : Tx c mg) (D0 : Df c mg "_law_text" s__law_text P__law_text dd__law_text kk__law_text) (C__law_kept : Cl P w c mg base 1 "_law_kept" P__law_kept f__law_kept dd__law_kept kk__law_kept) (C__law_take : Cl P w c mg base 1 "_law_take" P__law_take f__law_take dd__law_take kk__law_take) : Cl P w c mg base 2 "_law_text" P__law_text f__law_text dd__law_text kk__law_text :=
  cl_of (N := N__law_text) (k := 1) (body := b__law_text) D0 sc__law_text (by decide) fun _ cdv A outer s H E W hr tk =>
    (zss_cons (vS 1 sc__law_text.nd ze_str)
    (zss_cons (vS 2 sc__law_text.nd ze_str)
    (zss_cons (vS 3 sc__law_text.nd (zc_ca [] tk C__law_take hr (by decide) (mem_ix (i := 0) rfl) (zgs_cons (vG 0) (zgs_cons (zg_tm ze_int) zgs_nil))))
    (zss_cons (vS 4 sc__law_text.nd (m_join (zo_tm ze_str) (ze_lc (own := [("_law_k", 9)]) rfl sc__law_text.nd (zi_rng1 rfl T.b_range (zos_cons (zo_tm (zc_ca [] tk C__law_take hr (by decide) (mem_ix (i := 0) rfl) (zgs_cons (vG 0) (zgs_cons (zg_tm ze_int) zgs_nil)))) zos_nil)) (blkOk_by (by show blkC N__law_text (defScope s__law_text) _ _ = true; decide +kernel)) (fun _ _ _ _ _ => zp_nm sc__law_text.nd) (tgr_nm (by decide)) (fun _ _ _ _ _ => zts_nil) (fun _ _ _ _ _ => (ze_ix ix_seq ruIx (vO 1) (zo_tm (zc_ca [] takes_none5 C__law_take hr (by decide) (mem_ix (i := 0) rfl) (zgs_cons (vG 0) (zgs_cons (zg_tm ze_int) zgs_nil)))) (fun _ _ => rfl))))))
    (zss_cons (zs_if (zt_cmp op_lt ruLt (vO 3) (zo_tm ze_int) (nomark _)) (zss_cons (vS 6 sc__law_text.nd (ze_bin (opAdd rfl) ruAdd (zo_tm (zc_ca0 [] tk C__law_kept hr (by decide) (mem_ix (i := 0) rfl))) (zo_tm (ze_lst (za_cons ze_str (za_cons ze_str (za_cons ze_str (za_cons ze_str (za_cons ze_str (za_cons ze_str za_nil))))))))))
    (zss_one (vS 4 sc__law_text.nd (ze_ix ix_seq ruIx (vO 6) (zo_tm (zc_ca [] tk C__law_take hr (by decide) (mem_ix (i := 0) rfl) (zgs_cons (vG 0) (zgs_cons (zg_tm (b_len T.b_len (vO 6))) zgs_nil)))) (fun _ _ => rfl))))) zss_nil)
    (zss_cons (vS 5 sc__law_text.nd (zc_ca [] tk C__law_take hr (by decide) (mem_ix (i := 0) rfl) (zgs_cons (vG 0) (zgs_cons (zg_tm (ze_bin (opAdd rfl) ruAdd (zo_tm (b_len T.b_len (vO 4))) (zo_tm ze_int))) zgs_nil))))
    (zss_cons (zs_if (zt_cmp (opIn rfl (hu_of hr)) ruIn (vO 3) (zo_tm (ze_tup (za_cons ze_int (za_cons ze_int za_nil)))) (by with_unfolding_all rfl)) (zss_cons (vS 7 sc__law_text.nd (ze_ix ix_seq ruIx (zo_tm (ze_lst (za_cons ze_str (za_cons (ze_ix ix_seq ruIx (vO 1) (zo_tm (zc_ca [] tk C__law_take hr (by decide) (mem_ix (i := 0) rfl) (zgs_cons (vG 0) (zgs_cons (zg_tm ze_int) zgs_nil)))) (fun _ _ => rfl)) za_nil)))) (zo_tm (zc_ca [] tk C__law_take hr (by decide) (mem_ix (i := 0) rfl) (zgs_cons (vG 0) (zgs_cons (zg_tm ze_int) zgs_nil)))) (fun _ _ => rfl)))
    (zss_one (zs_ret (ze_bin (opAdd rfl) ruAdd (zo_tm (ze_bin (opAdd rfl) ruAdd (zo_tm (ze_sl rfl (vO 4) zp_no (zp_is (vE 5)))) (vO 7))) (zo_tm (ze_sl rfl (vO 4) (zp_is (ze_bin (opAdd rfl) ruAdd (vO 5) (zo_tm (zc_ca [] tk C__law_take hr (by decide) (mem_ix (i := 0) rfl) (zgs_cons (vG 0) (zgs_cons (zg_tm ze_int) zgs_nil)))))) zp_no)))))) zss_nil)
    (zss_cons (zs_if (zt_cmp (opEq rfl hr.units) ruEq (vO 3) (zo_tm ze_int) (nomark _)) (zss_cons (vS 8 sc__law_text.nd (ze_ix ix_seq ruIx (zo_tm (ze_lst (za_cons (ze_ix ix_seq ruIx (vO 2) (zo_tm (zc_ca [] tk C__law_take hr (by decide) (mem_ix (i := 0) rfl) (zgs_cons (vG 0) (zgs_cons (zg_tm (b_len T.b_len (vO 2))) zgs_nil)))) (fun _ _ => rfl)) (za_cons ze_str (za_cons ze_str za_nil))))) (zo_tm (zc_ca [] tk C__law_take hr (by decide) (mem_ix (i := 0) rfl) (zgs_cons (vG 0) (zgs_cons (zg_tm ze_int) zgs_nil)))) (fun _ _ => rfl)))
    (zss_cons (vS 5 sc__law_text.nd (ze_ix ix_seq ruIx (zo_tm (ze_lst (za_cons ze_int (za_cons (b_len T.b_len (vO 4)) (za_cons (vE 5) za_nil))))) (zo_tm (zc_ca [] tk C__law_take hr (by decide) (mem_ix (i := 0) rfl) (zgs_cons (vG 0) (zgs_cons (zg_tm ze_int) zgs_nil)))) (fun _ _ => rfl)))
    (zss_one (zs_ret (ze_bin (opAdd rfl) ruAdd (zo_tm (ze_bin (opAdd rfl) ruAdd (zo_tm (ze_sl rfl (vO 4) zp_no (zp_is (vE 5)))) (vO 8))) (zo_tm (ze_sl rfl (vO 4) (zp_is (ze_bin (opAdd rfl) ruAdd (vO 5) (zo_tm (zc_ca [] tk C__law_take hr (by decide) (mem_ix (i := 0) rfl) (zgs_cons (vG 0) (zgs_cons (zg_tm ze_int) zgs_nil)))))) zp_no))))))) zss_nil)
    (zss_one (zs_ret (vE 4)))))))))))
theorem cl_has_letters (T : Tx c mg) (D0 : Df c mg "has_letters" s_has_letters P_has_letters dd_has_letters kk_has_letters)  : Cl P w c mg base 1 "has_letters" P_has_letters f_has_letters dd_has_letters kk_has_letters :=
  cl_of (N := N_has_letters) (k := 0) (body := b_has_letters) D0 sc_has_letters (by decide) fun _ cdv A outer s H E W hr tk =>
    (zss_one (zs_ret (ze_and (ze_ch op_le op_le ze_int (b_len T.b_len (vO 0)) (ze_gv T.g_LONGEST)) (ze_one (b_all T.b_all (zo_tm (ze_lc (own := [("sign", 1)]) rfl sc_has_letters.nd (zi_seq rfl (vE 0)) (blkOk_by (by show blkC N_has_letters (defScope s_has_letters) _ _ = true; decide +kernel)) (fun _ _ _ _ _ => zp_nm sc_has_letters.nd) (tgr_nm (by decide)) (fun _ _ _ _ _ => zts_nil) (fun _ _ _ _ _ => (ze_cmp (opIn rfl (hu_of hr)) ruIn (vO 1) (zo_tm (ze_gv T.g_LETTERS)) (by with_unfolding_all rfl))))))))))
theorem cl_is_name (T : Tx c mg) (D0 : Df c mg "is_name" s_is_name P_is_name dd_is_name kk_is_name) (C_has_letters : Cl P w c mg base 1 "has_letters" P_has_letters f_has_letters dd_has_letters kk_has_letters) : Cl P w c mg base 2 "is_name" P_is_name f_is_name dd_is_name kk_is_name :=
  cl_of (N := N_is_name) (k := 1) (body := b_is_name) D0 sc_is_name (by decide) fun _ cdv A outer s H E W hr tk =>
    (zss_one (zs_ret (ze_and (zc_ca [] tk C_has_letters hr (by decide) (mem_ix (i := 0) rfl) (zgs_cons (vG 0) zgs_nil)) (ze_one (ze_cmp (opNotIn rfl (hu_of hr)) ruNotIn (vO 0) (zo_tm (ze_gv T.g_KEPT_WORDS)) (by with_unfolding_all rfl))))))
theorem cl_is_word (T : Tx c mg) (D0 : Df c mg "is_word" s_is_word P_is_word dd_is_word kk_is_word) (C_has_letters : Cl P w c mg base 1 "has_letters" P_has_letters f_has_letters dd_has_letters kk_has_letters) : Cl P w c mg base 2 "is_word" P_is_word f_is_word dd_is_word kk_is_word :=
  cl_of (N := N_is_word) (k := 1) (body := b_is_word) D0 sc_is_word (by decide) fun _ cdv A outer s H E W hr tk =>
    (zss_one (zs_ret (ze_and (zc_ca [] tk C_has_letters hr (by decide) (mem_ix (i := 0) rfl) (zgs_cons (vG 0) zgs_nil)) (ze_and (ze_cmp (opNe rfl hr.units) ruNe (vO 0) (zo_tm ze_str) (nomark _)) (ze_one (ze_cmp (opNe rfl hr.units) ruNe (vO 0) (zo_tm ze_str) (nomark _)))))))
theorem cl__law_plain (T : Tx c mg) (D0 : Df c mg "_law_plain" s__law_plain P__law_plain dd__law_plain kk__law_plain)  : Cl P w c mg base 1 "_law_plain" P__law_plain f__law_plain dd__law_plain kk__law_plain :=
  cl_of (N := N__law_plain) (k := 0) (body := b__law_plain) D0 sc__law_plain (by decide) fun _ cdv A outer s H E W hr tk =>
    (zss_one (zs_ret (ze_and (ze_ch op_lt op_lt ze_int (b_len T.b_len (vO 0)) ze_int) (ze_one (ze_cmp (opEq rfl hr.units) ruEq (zo_tm (ze_lc (own := [("_law_sign", 1)]) rfl sc__law_plain.nd (zi_seq rfl (vE 0)) (blkOk_by (by show blkC N__law_plain (defScope s__law_plain) _ _ = true; decide +kernel)) (fun _ _ _ _ _ => zp_nm sc__law_plain.nd) (tgr_nm (by decide)) (fun _ _ _ _ _ => zts_one (zt_cmp (opNotIn rfl (hu_of hr)) ruNotIn (vO 1) (zo_tm ze_str) (by with_unfolding_all rfl))) (fun _ _ _ _ _ => (vE 1)))) (zo_tm (ze_lst za_nil)) (nomark _))))))
theorem cl__law_right (T : Tx c mg) (D0 : Df c mg "_law_right" s__law_right P__law_right dd__law_right kk__law_right) (C__law_kept : Cl P w c mg base 1 "_law_kept" P__law_kept f__law_kept dd__law_kept kk__law_kept) (C__law_plain : Cl P w c mg base 1 "_law_plain" P__law_plain f__law_plain dd__law_plain kk__law_plain) (C_is_name : Cl P w c mg base 2 "is_name" P_is_name f_is_name dd_is_name kk_is_name) (C_is_word : Cl P w c mg base 2 "is_word" P_is_word f_is_word dd_is_word kk_is_word) : Cl P w c mg base 3 "_law_right" P__law_right f__law_right dd__law_right kk__law_right :=
  cl_of (N := N__law_right) (k := 2) (body := b__law_right) D0 sc__law_right (by decide) fun _ cdv A outer s H E W hr tk =>
    (zss_cons (zs_par rfl sc__law_right.nd rfl rfl (by decide) rfl rfl (za_cons (zc_ca [] tk C_is_name hr (by decide) (mem_ix (i := 0) rfl) (zgs_cons (vG 0) zgs_nil)) (za_cons (zc_ca [] tk C_is_word hr (by decide) (mem_ix (i := 0) rfl) (zgs_cons (vG 0) zgs_nil)) za_nil)))
    (zss_cons (zs_if (zt_w (zw_or (zt_cmp (opNe rfl hr.units) ruNe (zo_tm (zc_kw0 [] tk C_is_name hr (by decide) (mem_ix (i := 0) rfl) (zk_cons (vG 0) zk_nil))) (vO 1) (nomark _)) (zw_or1 (zt_cmp (opNe rfl hr.units) ruNe (zo_tm (zc_kw0 [] tk C_is_word hr (by decide) (mem_ix (i := 0) rfl) (zk_cons (vG 0) zk_nil))) (vO 2) (nomark _))))) (zss_one (zs_ret ze_bl)) zss_nil)
    (zss_cons (zs_if (zt_w (zw_or (zt_not (zt_tru rfl (zo_tm (b_isi T.b_isinstance T.b_bool (by decide +kernel) (vO 1))))) (zw_or1 (zt_not (zt_tru rfl (zo_tm (b_isi T.b_isinstance T.b_bool (by decide +kernel) (vO 2)))))))) (zss_one (zs_ret ze_bl)) zss_nil)
    (zss_cons (zs_if (zt_cmp (opNe rfl hr.units) ruNe (vO 1) (zo_tm (ze_and (zc_ca [] tk C__law_plain hr (by decide) (mem_ix (i := 0) rfl) (zgs_cons (vG 0) zgs_nil)) (ze_one (ze_cmp (opNotIn rfl (hu_of hr)) ruNotIn (vO 0) (zo_tm (zc_ca0 [] tk C__law_kept hr (by decide) (mem_ix (i := 0) rfl))) (by with_unfolding_all rfl))))) (nomark _)) (zss_one (zs_ret ze_bl)) zss_nil)
    (zss_one (zs_ret (ze_cmp (opEq rfl hr.units) ruEq (vO 2) (zo_tm (ze_and (zc_ca [] tk C__law_plain hr (by decide) (mem_ix (i := 0) rfl) (zgs_cons (vG 0) zgs_nil)) (ze_one (ze_cmp (opNotIn rfl (hu_of hr)) ruNotIn (vO 0) (zo_tm (ze_tup (za_cons ze_str (za_cons ze_str za_nil)))) (by with_unfolding_all rfl))))) (nomark _))))))))
theorem ok_law {f : Addr} {fd : FuncData} (T : Tx c mg) (F0 : Fun c.K "law" "law" s_law f fd) (C__law_box : Cl P w c mg base 1 "_law_box" P__law_box f__law_box dd__law_box kk__law_box) (C__law_right : Cl P w c mg base 3 "_law_right" P__law_right f__law_right dd__law_right kk__law_right) (C__law_text : Cl P w c mg base 2 "_law_text" P__law_text f__law_text dd__law_text kk__law_text) : FnOk P w c.K mg base (L2.CX P w) 4 f fd P_law (spZ c P_law.length f_law) :=
  ok_fn (N := N_law) (k := 3) (body := b_law) F0 sc_law (by decide) fun cdv A outer s H E W hr tk =>
    (zss_cons (vS 1 sc_law.nd (ze_lst za_nil))
    (zss_cons (zs_for (passes_of rfl) rfl (zi_rng1 rfl T.b_range (zos_cons (zo_tm (ze_bin (opAdd rfl) ruAdd (zo_tm ze_int) (zo_tm (b_len T.b_len (zo_tm (ze_sl rfl (vO 0) zp_no (zp_is ze_int))))))) zos_nil)) (zp_nm sc_law.nd) (tgr_nm (by decide)) (zss_cons (vS 3 sc_law.nd (zc_ca [] tk C__law_box hr (by decide) (mem_ix (i := 0) rfl) (zgs_cons (vG 0) (zgs_cons (vG 2) zgs_nil))))
    (zss_one (vS 1 sc_law.nd (ze_bin (opAdd rfl) ruAdd (vO 1) (zo_tm (ze_lc (own := [("_law_turn", 5)]) rfl sc_law.nd (zi_rng1 rfl T.b_range (zos_cons (zo_tm ze_int) zos_nil)) (blkOk_by (by show blkC N_law (defScope s_law) _ _ = true; decide +kernel)) (fun _ _ _ _ _ => zp_nm sc_law.nd) (tgr_nm (by decide)) (fun _ _ _ _ _ => zts_nil) (fun _ _ _ _ _ => (zc_ca [] takes_none5 C__law_text hr (by decide) (mem_ix (i := 0) rfl) (zgs_cons (vG 3) zgs_nil))))))))))
    (zss_one (zs_ret (ze_cmp (opEq rfl hr.units) ruEq (zo_tm (ze_lc (own := [("_law_written", 4)]) rfl sc_law.nd (zi_seq rfl (ze_bin (opAdd rfl) ruAdd (vO 1) (zo_tm (ze_sl rfl (vO 1) zp_no (zp_is ze_int))))) (blkOk_by (by show blkC N_law (defScope s_law) _ _ = true; decide +kernel)) (fun _ _ _ _ _ => zp_nm sc_law.nd) (tgr_nm (by decide)) (fun _ _ _ _ _ => zts_one (zt_not (zt_tru rfl (zo_tm (zc_ca [] takes_none5 C__law_right hr (by decide) (mem_ix (i := 0) rfl) (zgs_cons (vG 4) zgs_nil)))))) (fun _ _ _ _ _ => (vE 4)))) (zo_tm (ze_lst za_nil)) (nomark _))))))
theorem all_mk {l : PySem.W.OpenLaw} {w : World} {K : PySem.W.Frag} {h : Heap} {mg : Str → Option Value} {fa : Addr} (X0 : K.In h) (G0 : h.Ns mainGlobals mg) (hfa : mg "law" = some (.ref fa))
    {u_LONGEST : Value}
    {u_LETTERS : Value}
    {p_KEPT_WORDS : Addr} {o_KEPT_WORDS : Option Addr} {i_KEPT_WORDS : Array Value} {n_KEPT_WORDS : Nat} {s_KEPT_WORDS : Array (Option Value)}
    {f__law_box : Addr} {od__law_box an__law_box : Option Addr} {sl__law_box : Array (Option Value)} {oc__law_box kV__law_box dc__law_box pm__law_box cd__law_box ct__law_box : Value}
    {f__law_take : Addr} {od__law_take an__law_take : Option Addr} {sl__law_take : Array (Option Value)} {oc__law_take kV__law_take dc__law_take pm__law_take cd__law_take ct__law_take : Value}
    {f__law_kept : Addr} {od__law_kept an__law_kept : Option Addr} {sl__law_kept : Array (Option Value)} {oc__law_kept kV__law_kept dc__law_kept pm__law_kept cd__law_kept ct__law_kept : Value}
    {f__law_text : Addr} {od__law_text an__law_text : Option Addr} {sl__law_text : Array (Option Value)} {oc__law_text kV__law_text dc__law_text pm__law_text cd__law_text ct__law_text : Value}
    {f_has_letters : Addr} {od_has_letters an_has_letters : Option Addr} {sl_has_letters : Array (Option Value)} {oc_has_letters kV_has_letters dc_has_letters pm_has_letters cd_has_letters ct_has_letters : Value}
    {f_is_name : Addr} {od_is_name an_is_name : Option Addr} {sl_is_name : Array (Option Value)} {oc_is_name kV_is_name dc_is_name pm_is_name cd_is_name ct_is_name : Value}
    {f_is_word : Addr} {od_is_word an_is_word : Option Addr} {sl_is_word : Array (Option Value)} {oc_is_word kV_is_word dc_is_word pm_is_word cd_is_word ct_is_word : Value}
    {f__law_plain : Addr} {od__law_plain an__law_plain : Option Addr} {sl__law_plain : Array (Option Value)} {oc__law_plain kV__law_plain dc__law_plain pm__law_plain cd__law_plain ct__law_plain : Value}
    {f__law_right : Addr} {od__law_right an__law_right : Option Addr} {sl__law_right : Array (Option Value)} {oc__law_right kV__law_right dc__law_right pm__law_right cd__law_right ct__law_right : Value}
    {f_law : Addr} {od_law an_law : Option Addr} {sl_law : Array (Option Value)} {oc_law kV_law dc_law pm_law cd_law ct_law : Value}
    (z_abs : PySem.W.nsIn K mainGlobals "abs" = some none)
    (z_all : PySem.W.nsIn K mainGlobals "all" = some none)
    (z_bool : PySem.W.nsIn K mainGlobals "bool" = some none)
    (z_int : PySem.W.nsIn K mainGlobals "int" = some none)
    (z_isinstance : PySem.W.nsIn K mainGlobals "isinstance" = some none)
    (z_len : PySem.W.nsIn K mainGlobals "len" = some none)
    (z_range : PySem.W.nsIn K mainGlobals "range" = some none)
    (g_LONGEST : PySem.W.nsIn K mainGlobals "LONGEST" = some (some u_LONGEST))
    (h_LONGEST : litV d_LONGEST u_LONGEST = true)
    (g_LETTERS : PySem.W.nsIn K mainGlobals "LETTERS" = some (some u_LETTERS))
    (h_LETTERS : litV d_LETTERS u_LETTERS = true)
    (g_KEPT_WORDS : PySem.W.nsIn K mainGlobals "KEPT_WORDS" = some (some (.ref p_KEPT_WORDS)))
    (l_KEPT_WORDS : K.lookup p_KEPT_WORDS = some ⟨.type "tuple", o_KEPT_WORDS, .seq i_KEPT_WORDS n_KEPT_WORDS, s_KEPT_WORDS⟩)
    (y_KEPT_WORDS : i_KEPT_WORDS.size ≤ sizeLine)
    (h_KEPT_WORDS : litL ds_KEPT_WORDS i_KEPT_WORDS.toList = true)
    (a__law_box : PySem.W.nsIn K mainGlobals "_law_box" = some (some (.ref f__law_box)))
    (l__law_box : K.lookup f__law_box = some ⟨oc__law_box, od__law_box, .func (PySem.W.fnOf "_law_box" "_law_box" (defArgs s__law_box) (defBody s__law_box) (defScope s__law_box) .none kV__law_box dc__law_box pm__law_box an__law_box cd__law_box ct__law_box), sl__law_box⟩)
    (c__law_box : PySem.W.codeIn K cd__law_box "_law_box" = true)
    (k__law_box : PySem.W.keepIn K (.ref f__law_box) = true)
    (a__law_take : PySem.W.nsIn K mainGlobals "_law_take" = some (some (.ref f__law_take)))
    (l__law_take : K.lookup f__law_take = some ⟨oc__law_take, od__law_take, .func (PySem.W.fnOf "_law_take" "_law_take" (defArgs s__law_take) (defBody s__law_take) (defScope s__law_take) .none kV__law_take dc__law_take pm__law_take an__law_take cd__law_take ct__law_take), sl__law_take⟩)
    (c__law_take : PySem.W.codeIn K cd__law_take "_law_take" = true)
    (k__law_take : PySem.W.keepIn K (.ref f__law_take) = true)
    (a__law_kept : PySem.W.nsIn K mainGlobals "_law_kept" = some (some (.ref f__law_kept)))
    (l__law_kept : K.lookup f__law_kept = some ⟨oc__law_kept, od__law_kept, .func (PySem.W.fnOf "_law_kept" "_law_kept" (defArgs s__law_kept) (defBody s__law_kept) (defScope s__law_kept) .none kV__law_kept dc__law_kept pm__law_kept an__law_kept cd__law_kept ct__law_kept), sl__law_kept⟩)
    (c__law_kept : PySem.W.codeIn K cd__law_kept "_law_kept" = true)
    (k__law_kept : PySem.W.keepIn K (.ref f__law_kept) = true)
    (a__law_text : PySem.W.nsIn K mainGlobals "_law_text" = some (some (.ref f__law_text)))
    (l__law_text : K.lookup f__law_text = some ⟨oc__law_text, od__law_text, .func (PySem.W.fnOf "_law_text" "_law_text" (defArgs s__law_text) (defBody s__law_text) (defScope s__law_text) .none kV__law_text dc__law_text pm__law_text an__law_text cd__law_text ct__law_text), sl__law_text⟩)
    (c__law_text : PySem.W.codeIn K cd__law_text "_law_text" = true)
    (k__law_text : PySem.W.keepIn K (.ref f__law_text) = true)
    (a_has_letters : PySem.W.nsIn K mainGlobals "has_letters" = some (some (.ref f_has_letters)))
    (l_has_letters : K.lookup f_has_letters = some ⟨oc_has_letters, od_has_letters, .func (PySem.W.fnOf "has_letters" "has_letters" (defArgs s_has_letters) (defBody s_has_letters) (defScope s_has_letters) .none kV_has_letters dc_has_letters pm_has_letters an_has_letters cd_has_letters ct_has_letters), sl_has_letters⟩)
    (c_has_letters : PySem.W.codeIn K cd_has_letters "has_letters" = true)
    (k_has_letters : PySem.W.keepIn K (.ref f_has_letters) = true)
    (a_is_name : PySem.W.nsIn K mainGlobals "is_name" = some (some (.ref f_is_name)))
    (l_is_name : K.lookup f_is_name = some ⟨oc_is_name, od_is_name, .func (PySem.W.fnOf "is_name" "is_name" (defArgs s_is_name) (defBody s_is_name) (defScope s_is_name) .none kV_is_name dc_is_name pm_is_name an_is_name cd_is_name ct_is_name), sl_is_name⟩)
    (c_is_name : PySem.W.codeIn K cd_is_name "is_name" = true)
    (k_is_name : PySem.W.keepIn K (.ref f_is_name) = true)
    (a_is_word : PySem.W.nsIn K mainGlobals "is_word" = some (some (.ref f_is_word)))
    (l_is_word : K.lookup f_is_word = some ⟨oc_is_word, od_is_word, .func (PySem.W.fnOf "is_word" "is_word" (defArgs s_is_word) (defBody s_is_word) (defScope s_is_word) .none kV_is_word dc_is_word pm_is_word an_is_word cd_is_word ct_is_word), sl_is_word⟩)
    (c_is_word : PySem.W.codeIn K cd_is_word "is_word" = true)
    (k_is_word : PySem.W.keepIn K (.ref f_is_word) = true)
    (a__law_plain : PySem.W.nsIn K mainGlobals "_law_plain" = some (some (.ref f__law_plain)))
    (l__law_plain : K.lookup f__law_plain = some ⟨oc__law_plain, od__law_plain, .func (PySem.W.fnOf "_law_plain" "_law_plain" (defArgs s__law_plain) (defBody s__law_plain) (defScope s__law_plain) .none kV__law_plain dc__law_plain pm__law_plain an__law_plain cd__law_plain ct__law_plain), sl__law_plain⟩)
    (c__law_plain : PySem.W.codeIn K cd__law_plain "_law_plain" = true)
    (k__law_plain : PySem.W.keepIn K (.ref f__law_plain) = true)
    (a__law_right : PySem.W.nsIn K mainGlobals "_law_right" = some (some (.ref f__law_right)))
    (l__law_right : K.lookup f__law_right = some ⟨oc__law_right, od__law_right, .func (PySem.W.fnOf "_law_right" "_law_right" (defArgs s__law_right) (defBody s__law_right) (defScope s__law_right) .none kV__law_right dc__law_right pm__law_right an__law_right cd__law_right ct__law_right), sl__law_right⟩)
    (c__law_right : PySem.W.codeIn K cd__law_right "_law_right" = true)
    (k__law_right : PySem.W.keepIn K (.ref f__law_right) = true)
    (a_law : PySem.W.nsIn K mainGlobals "law" = some (some (.ref f_law)))
    (l_law : K.lookup f_law = some ⟨oc_law, od_law, .func (PySem.W.fnOf "law" "law" (defArgs s_law) (defBody s_law) (defScope s_law) .none kV_law dc_law pm_law an_law cd_law ct_law), sl_law⟩)
    (c_law : PySem.W.codeIn K cd_law "law" = true)
    (k_law : PySem.W.keepIn K (.ref f_law) = true)
    : ∃ fd : FuncData, (∀ (s : Shared) (v : Value), BindsTo s fd ⟨[v], []⟩ [("_law_script", v)]) ∧ ∀ base : Heap, K.In base → base.Ns mainGlobals mg → FnOk l.prog w K mg base (L2.CX l.prog w) 4 fa fd ["_law_script"] (spZ ⟨K, fun _ => none⟩ 1 Y_k02.f_law) := by
  have e := hfa.symm.trans (PySem.W.mg_of X0 G0 a_law)
  cases e
  have T : Tx ⟨K, fun _ => none⟩ mg := { b_abs := PySem.W.mg_none_of X0 G0 z_abs, b_all := PySem.W.mg_none_of X0 G0 z_all, b_bool := PySem.W.mg_none_of X0 G0 z_bool, b_int := PySem.W.mg_none_of X0 G0 z_int, b_isinstance := PySem.W.mg_none_of X0 G0 z_isinstance, b_len := PySem.W.mg_none_of X0 G0 z_len, b_range := PySem.W.mg_none_of X0 G0 z_range, g_LONGEST := gv_lit X0 G0 g_LONGEST h_LONGEST, g_LETTERS := gv_lit X0 G0 g_LETTERS h_LETTERS, g_KEPT_WORDS := gv_tup X0 G0 g_KEPT_WORDS l_KEPT_WORDS y_KEPT_WORDS h_KEPT_WORDS }
  have D__law_box : Df ⟨K, fun _ => none⟩ mg "_law_box" s__law_box P__law_box dd__law_box kk__law_box := df_mk X0 G0 a__law_box l__law_box c__law_box k__law_box fun fd F0 => ⟨(fun dd hd => by rcases List.mem_singleton.mp hd with rfl; exact bd_of F0 fun _ _ _ _ _ _ us hl => match us, hl with | [_, _], _ => rfl), (fun _ hd => nomatch hd)⟩
  have D__law_take : Df ⟨K, fun _ => none⟩ mg "_law_take" s__law_take P__law_take dd__law_take kk__law_take := df_mk X0 G0 a__law_take l__law_take c__law_take k__law_take fun fd F0 => ⟨(fun dd hd => by rcases List.mem_singleton.mp hd with rfl; exact bd_of F0 fun _ _ _ _ _ _ us hl => match us, hl with | [_, _], _ => rfl), (fun _ hd => nomatch hd)⟩
  have D__law_kept : Df ⟨K, fun _ => none⟩ mg "_law_kept" s__law_kept P__law_kept dd__law_kept kk__law_kept := df_mk X0 G0 a__law_kept l__law_kept c__law_kept k__law_kept fun fd F0 => ⟨(fun dd hd => by rcases List.mem_singleton.mp hd with rfl; exact bd_of F0 fun _ _ _ _ _ _ us hl => match us, hl with | [], _ => rfl), (fun _ hd => nomatch hd)⟩
  have D__law_text : Df ⟨K, fun _ => none⟩ mg "_law_text" s__law_text P__law_text dd__law_text kk__law_text := df_mk X0 G0 a__law_text l__law_text c__law_text k__law_text fun fd F0 => ⟨(fun dd hd => by rcases List.mem_singleton.mp hd with rfl; exact bd_of F0 fun _ _ _ _ _ _ us hl => match us, hl with | [_], _ => rfl), (fun _ hd => nomatch hd)⟩
  have D_has_letters : Df ⟨K, fun _ => none⟩ mg "has_letters" s_has_letters P_has_letters dd_has_letters kk_has_letters := df_mk X0 G0 a_has_letters l_has_letters c_has_letters k_has_letters fun fd F0 => ⟨(fun dd hd => by rcases List.mem_singleton.mp hd with rfl; exact bd_of F0 fun _ _ _ _ _ _ us hl => match us, hl with | [_], _ => rfl), (fun _ hd => nomatch hd)⟩
  have D_is_name : Df ⟨K, fun _ => none⟩ mg "is_name" s_is_name P_is_name dd_is_name kk_is_name := df_mk X0 G0 a_is_name l_is_name c_is_name k_is_name fun fd F0 => ⟨(fun dd hd => by rcases List.mem_singleton.mp hd with rfl; exact bd_of F0 fun _ _ _ _ _ _ us hl => match us, hl with | [_], _ => rfl), (fun p hp => by rcases List.mem_singleton.mp hp with rfl; exact bk_of F0 fun _ _ _ _ _ _ us ws hl => match us, ws, hl with | [], [_], _ => rfl | [_], [], _ => rfl)⟩
  have D_is_word : Df ⟨K, fun _ => none⟩ mg "is_word" s_is_word P_is_word dd_is_word kk_is_word := df_mk X0 G0 a_is_word l_is_word c_is_word k_is_word fun fd F0 => ⟨(fun dd hd => by rcases List.mem_singleton.mp hd with rfl; exact bd_of F0 fun _ _ _ _ _ _ us hl => match us, hl with | [_], _ => rfl), (fun p hp => by rcases List.mem_singleton.mp hp with rfl; exact bk_of F0 fun _ _ _ _ _ _ us ws hl => match us, ws, hl with | [], [_], _ => rfl | [_], [], _ => rfl)⟩
  have D__law_plain : Df ⟨K, fun _ => none⟩ mg "_law_plain" s__law_plain P__law_plain dd__law_plain kk__law_plain := df_mk X0 G0 a__law_plain l__law_plain c__law_plain k__law_plain fun fd F0 => ⟨(fun dd hd => by rcases List.mem_singleton.mp hd with rfl; exact bd_of F0 fun _ _ _ _ _ _ us hl => match us, hl with | [_], _ => rfl), (fun _ hd => nomatch hd)⟩
  have D__law_right : Df ⟨K, fun _ => none⟩ mg "_law_right" s__law_right P__law_right dd__law_right kk__law_right := df_mk X0 G0 a__law_right l__law_right c__law_right k__law_right fun fd F0 => ⟨(fun dd hd => by rcases List.mem_singleton.mp hd with rfl; exact bd_of F0 fun _ _ _ _ _ _ us hl => match us, hl with | [_], _ => rfl), (fun _ hd => nomatch hd)⟩
  refine ⟨PySem.W.fnOf "law" "law" (defArgs s_law) (defBody s_law) (defScope s_law) .none kV_law dc_law pm_law an_law cd_law ct_law, fun s v => .of_eq rfl, fun base _ _ => ?_⟩
  have C__law_box := cl__law_box (P := l.prog) (w := w) (base := base) T D__law_box 
  have C__law_take := cl__law_take (P := l.prog) (w := w) (base := base) T D__law_take 
  have C__law_kept := cl__law_kept (P := l.prog) (w := w) (base := base) T D__law_kept 
  have C__law_text := cl__law_text (P := l.prog) (w := w) (base := base) T D__law_text C__law_kept C__law_take
  have C_has_letters := cl_has_letters (P := l.prog) (w := w) (base := base) T D_has_letters 
  have C_is_name := cl_is_name (P := l.prog) (w := w) (base := base) T D_is_name C_has_letters
  have C_is_word := cl_is_word (P := l.prog) (w := w) (base := base) T D_is_word C_has_letters
  have C__law_plain := cl__law_plain (P := l.prog) (w := w) (base := base) T D__law_plain 
  have C__law_right := cl__law_right (P := l.prog) (w := w) (base := base) T D__law_right C__law_kept C__law_plain C_is_name C_is_word
  exact ok_law T (fun_mk (st := s_law) l_law c_law k_law) C__law_box C__law_right C__law_text
end
end Y_k02

namespace Y_k02
open PySem L2 Z
theorem take_ok : TakeOk f__law_take := by
  intro b m h1 h2
  by_cases ha : 0 < b.a
  · simp [f__law_take, b__law_take, b__law_take_4, b__law_take_3, b__law_take_2, b__law_take_1, fnOf_eq, st0, tre_def, loc_def, at_def, List.replicate, ha, h1, h2, bx, tkR, tkB]
  · simp [f__law_take, b__law_take, b__law_take_4, b__law_take_3, b__law_take_2, b__law_take_1, fnOf_eq, st0, tre_def, loc_def, at_def, List.replicate, ha, h1, h2, bx, tkR, tkB, tk1, tk2]
theorem take_s {b : Bx} {m : Int} (h1 : 0 < m) (h2 : m < 1073741824) : f__law_take [(bx b, 1), (.int m, 0)] = .ok (.int (tkR b m), 0) [(bx (tkB b m), 1), (.int m, 0)] := take_ok b m h1 h2
theorem box_ok : BoxOk f__law_box := by
  intro ns k hk
  by_cases h : k < ns.length
  · obtain ⟨x, _, e⟩ := atI_map (f := D.int) hk h
    simp [f__law_box, b__law_box, b__law_box_3, b__law_box_2, b__law_box_1, fnOf_eq, st0, tre_def, loc_def, at_def, List.replicate, h, e]
    (repeat' split) <;> exact ⟨⟨_, _, _⟩, rfl⟩
  · by_cases h2 : 0 < ns.length
    · have hl : (0 : Int) < ns.length := by omega
      obtain ⟨x, _, e⟩ := atI_map (f := D.int) (Int.emod_nonneg k (b := ns.length) (by omega)) (Int.emod_lt_of_pos k hl)
      simp [f__law_box, b__law_box, b__law_box_3, b__law_box_2, b__law_box_1, fnOf_eq, st0, tre_def, loc_def, at_def, List.replicate, h, h2, hl, e]
      (repeat' split) <;> exact ⟨⟨_, _, _⟩, rfl⟩
    · simp [f__law_box, b__law_box, b__law_box_3, b__law_box_2, b__law_box_1, fnOf_eq, st0, tre_def, loc_def, at_def, List.replicate, h, h2]
      (repeat' split) <;> exact ⟨⟨_, _, _⟩, rfl⟩
def KW : List Str := ["create", "drop", "cascade", "rename", "redefine", "swap", "fail", "if", "while", "try", "batch", "else", "on", "end", "to", "needs", "part"]
theorem kw_eq : d_KEPT_WORDS = .tup (KW.map .str) := rfl
theorem kw_split : Txt.split "create drop cascade rename redefine swap fail if while try batch else on end to needs part" " " = KW := by decide +kernel
theorem kept_eq : f__law_kept [] = .ok (.lst (KW.map .str), 1) [] := by
  simp [f__law_kept, b__law_kept, b__law_kept_1, fnOf_eq, st0, tre_def, loc_def, at_def, List.replicate, fSplit_of (by decide +kernel) kw_split]
abbrev LL : Str := "abcdefghijklmnopqrstuvwxyz"
abbrev SG : Str := " !\"#$&'()*+,-./0123456789:;<=>?@ABCDEFGHIJKLMNOPQRSTUVWXYZ[\\]^_`{|}~\n"
theorem ll_len : LL.length = 26 := by decide +kernel
theorem sg_len : SG.length = 69 := by decide +kernel
def inLL (k : Nat) : Bool := decide (k ∈ sl LL)
def hl (t : Str) : Bool := decide (1 ≤ t.length) && (decide (t.length ≤ 8) && (sl t).all inLL)
theorem comp_a (t : Str) (h : t.length ≤ 1000) : lcL [1] (.nm 1) mYes e_has_letters_1 ((sl t).map chS) [] [.ow (.str t) 0, .un, .ow (.str t) 0] = .ok (((sl t).map inLL).map D.bl) [.ow (.str t) 0, .un, .ow (.str t) 0] := by
  rw [lcL_mp (fun k => .bl (inLL k)), List.map_map]
  · rfl
  · intro k _
    simp [f_has_letters, b_has_letters, e_has_letters_1, fnOf_eq, st0, tre_def, loc_def, at_def, List.replicate, lcStep_eq, d_LETTERS, inLL]
  · have hb : 1000 ≤ big := by decide
    simp
    omega
theorem letters_ok (t : Str) (h : t.length ≤ 1000) : f_has_letters [(.str t, 0)] = .ok (.bl (hl t), 0) [(.str t, 0)] := by
  have hb : t.length ≤ big := Nat.le_trans h (by decide)
  by_cases h1 : 1 ≤ t.length
  · have h1' : (1 : Int) ≤ t.length := by omega
    by_cases h2 : t.length ≤ 8
    · have h2' : (t.length : Int) ≤ 8 := by omega
      have hc := comp_a t h
      unfold e_has_letters_1 d_LETTERS at hc
      have fa : ∀ n, fAll [(.lst ((sl t).map (D.bl ∘ inLL)), n)] = some (.bl ((sl t).all inLL), 0) := fun n => by
        have := fAll_map (bs := (sl t).map inLL) (n := n)
        rw [List.map_map] at this
        rw [this]
        simp
      simp [f_has_letters, b_has_letters, e_has_letters_1, fnOf_eq, st0, tre_def, loc_def, at_def, List.replicate, hb, d_LONGEST, d_LETTERS, h1, h2, h1', h2', hc, fa, hl]
    · have h2' : ¬ (t.length : Int) ≤ 8 := by omega
      simp [f_has_letters, b_has_letters, e_has_letters_1, fnOf_eq, st0, tre_def, loc_def, at_def, List.replicate, hb, d_LONGEST, d_LETTERS, h1, h2, h1', h2', hl]
  · have h1' : ¬ (1 : Int) ≤ t.length := by omega
    simp [f_has_letters, b_has_letters, e_has_letters_1, fnOf_eq, st0, tre_def, loc_def, at_def, List.replicate, hb, d_LONGEST, d_LETTERS, h1, h1', hl]
theorem name_ok (t : Str) (h : t.length ≤ 1000) : f_is_name [(.str t, 0)] = .ok (.bl (hl t && !decide (t ∈ KW)), 0) [(.str t, 0)] := by
  cases q : hl t
  all_goals simp [f_is_name, b_is_name, fnOf_eq, st0, tre_def, loc_def, at_def, List.replicate, letters_ok t h, q, kw_eq, fNotIn_of (show inD (.str t) (.tup (KW.map .str)) = _ from inQ_strs t KW)]
theorem word_ok (t : Str) (h : t.length ≤ 1000) : f_is_word [(.str t, 0)] = .ok (.bl (hl t && (!decide (t = "done") && !decide (t = "endless"))), 0) [(.str t, 0)] := by
  cases q : hl t
  all_goals simp [f_is_word, b_is_word, fnOf_eq, st0, tre_def, loc_def, at_def, List.replicate, letters_ok t h, q]
  by_cases e : t = "done"
  · simp [e]
  · simp [e]
theorem comp_b (t : Str) (h : t.length ≤ 1000) : lcL [1] (.nm 1) t__law_plain_1 e__law_plain_1 ((sl t).map chS) [] [.ow (.str t) 0, .un, .ow (.str t) 0] = .ok (((sl t).filter fun k => !inLL k).map chS) [.ow (.str t) 0, .un, .ow (.str t) 0] := by
  rw [lcL_fm (fun k => !inLL k) chS]
  · rfl
  · intro k _
    cases q : inLL k
    all_goals
      unfold inLL at q
      simp [f__law_plain, b__law_plain, t__law_plain_1, e__law_plain_1, fnOf_eq, st0, tre_def, loc_def, at_def, List.replicate, lcStep_eq, q]
  · have hb : 1000 ≤ big := by decide
    simp
    omega
theorem eq_nil (ks : List Nat) (h : ∀ k ∈ ks, k < 128) (n m : Nat) : fEq [(.lst (ks.map chS), n), (.lst [], m)] = some (.bl (decide (ks = [])), 0) := by
  rw [map_chS]
  refine (fEq_of (eqD_strs (tt := []) (fun s hs => ?_) (fun s hs => nomatch hs))).trans ?_
  · unfold sigs at hs
    obtain ⟨k, hk, rfl⟩ := List.mem_map.mp hs
    exact asc_one (h k hk)
  · cases ks <;> simp [sigs]
theorem plain_ok (t : Str) (h : t.length ≤ 1000) (ha : asc t = true) : f__law_plain [(.str t, 0)] = .ok (.bl (hl t), 0) [(.str t, 0)] := by
  have hb : t.length ≤ big := Nat.le_trans h (by decide)
  by_cases h1 : 1 ≤ t.length
  · have h1' : 0 < t.length := by omega
    by_cases h2 : t.length ≤ 8
    · have h2' : (t.length : Int) < 9 := by omega
      have hc := comp_b t h
      unfold e__law_plain_1 t__law_plain_1 at hc
      have he := fun n m => eq_nil ((sl t).filter fun k => !inLL k) (fun k hk => asc_mem ha (List.mem_filter.mp hk).1) n m
      have e1 : decide (((sl t).filter fun k => !inLL k) = []) = (sl t).all inLL := by
        rw [Bool.eq_iff_iff, decide_eq_true_eq, List.filter_eq_nil_iff, List.all_eq_true]
        simp
      rw [e1] at he
      simp only [hl, h1, h2, decide_true, Bool.true_and]
      generalize (sl t).all inLL = b at he
      generalize ((sl t).filter fun k => !inLL k).map chS = z at he hc
      simp [f__law_plain, b__law_plain, t__law_plain_1, e__law_plain_1, fnOf_eq, st0, tre_def, loc_def, at_def, List.replicate, hb, h1', h2', hc, he]
    · have h2' : ¬ (t.length : Int) < 9 := by omega
      simp [f__law_plain, b__law_plain, t__law_plain_1, e__law_plain_1, fnOf_eq, st0, tre_def, loc_def, at_def, List.replicate, hb, h1, h2, h1', h2', hl]
  · have h1' : ¬ 0 < t.length := by omega
    simp [f__law_plain, b__law_plain, t__law_plain_1, e__law_plain_1, fnOf_eq, st0, tre_def, loc_def, at_def, List.replicate, hb, h1, h1', hl]
theorem right_ok (t : Str) (h : t.length ≤ 1000) (ha : asc t = true) : f__law_right [(.str t, 0)] = .ok (.bl true, 0) [(.str t, 0)] := by
  have e2 : ∀ n m, fNotIn [(.str t, n), (.tup [.str "done", .str "endless"], m)] = some (.bl (!decide (t = "done") && !decide (t = "endless")), 0) := fun n m => by
    refine (fNotIn_of (show inD (.str t) (.tup [.str "done", .str "endless"]) = _ from inQ_strs t ["done", "endless"])).trans ?_
    simp
  have e3 : ∀ n m, fNotIn [(.str t, n), (.lst (KW.map .str), m)] = some (.bl (!decide (t ∈ KW)), 0) := fun n m => fNotIn_of (show inD (.str t) (.lst (KW.map .str)) = _ from inQ_strs t KW)
  have p1 := name_ok t h
  have p2 := word_ok t h
  have p3 := plain_ok t h ha
  generalize hl t = b at p1 p2 p3
  generalize (!decide (t ∈ KW)) = c at p1 e3
  generalize (!decide (t = "done") && !decide (t = "endless")) = d at p2 e2
  cases b
  all_goals simp [f__law_right, b__law_right, b__law_right_4, b__law_right_3, b__law_right_2, b__law_right_1, fnOf_eq, st0, tre_def, loc_def, at_def, List.replicate, p1, p2, p3, kept_eq, e2, e3]
theorem draw_ch {a : Str} {l : Int} (ha : a.length ≤ big) (hl : (a.length : Int) = l) (h0 : 0 < l) (hz : asc a = true) (b : Bx) (n m : Nat) (hn : n ≤ 1) : ∃ k, k < 128 ∧ fIx [(.str a, n), (.int (tkR b l), m)] = some (chS k, 0) := by
  obtain ⟨k, hk, e⟩ := atI_mem (xs := sl a) (i := tkR b l) (tk_ge h0) (by rw [sl_len, hl]; exact tk_lt h0)
  exact ⟨k, asc_mem hz hk, by rw [fIx_s hn ha, e]; rfl⟩
theorem ll_big : LL.length ≤ big := by rw [ll_len]; decide
theorem ll_asc : asc LL = true := by decide +kernel
theorem sg_big : SG.length ≤ big := by rw [sg_len]; decide
theorem sg_asc : asc SG = true := by decide +kernel
theorem draw_l (b : Bx) (n m : Nat) (hn : n ≤ 1) : ∃ k, k < 128 ∧ fIx [(.str LL, n), (.int (tkR b 26), m)] = some (chS k, 0) := draw_ch ll_big (by rw [ll_len]; rfl) (by decide) ll_asc b n m hn
theorem draw_s (b : Bx) (n m : Nat) (hn : n ≤ 1) : ∃ k, k < 128 ∧ fIx [(.str SG, n), (.int (tkR b 69), m)] = some (chS k, 0) := draw_ch sg_big (by rw [sg_len]; rfl) (by decide) sg_asc b n m hn
theorem draw_m {xs : List D} {l : Int} (hl : (xs.length : Int) = l) (h0 : 0 < l) (b : Bx) (n m : Nat) (hn : n ≤ 1) : ∃ x ∈ xs, fIx [(.lst xs, n), (.int (tkR b l), m)] = some (x, 0) := by
  obtain ⟨x, hx, e⟩ := atI_mem (xs := xs) (i := tkR b l) (tk_ge h0) (by rw [hl]; exact tk_lt h0)
  exact ⟨x, hx, by rw [fIx_l hn, e]; rfl⟩
theorem comp_c (sg f : D) (n : Nat) (h : n ≤ 100) (b : Bx) : ∃ (cs : List Nat) (b' : Bx), lcL [9] (.nm 9) mYes e__law_text_1 ((rng 0 n).map D.int) [] [.pa 10, .ow (.str LL) 0, .ow sg 0, .ow f 0, .un, .un, .un, .un, .un, .un, .ow (bx b) 1] = .ok (cs.map chS) [.pa 10, .ow (.str LL) 0, .ow sg 0, .ow f 0, .un, .un, .un, .un, .un, .un, .ow (bx b') 1] ∧ cs.length = n ∧ ∀ k ∈ cs, k < 128 := by
  obtain ⟨acc, s', e, cs, b', rfl, rfl, hl, hk⟩ := lcL_inv (us := [9]) (tg := .nm 9) (t := mYes) (m := e__law_text_1) (c := D.int) (xs := rng 0 n) (acc := []) (s := [.pa 10, .ow (.str LL) 0, .ow sg 0, .ow f 0, .un, .un, .un, .un, .un, .un, .ow (bx b) 1])
    (I := fun r acc s => ∃ (cs : List Nat) (b' : Bx), acc = cs.map chS ∧ s = [.pa 10, .ow (.str LL) 0, .ow sg 0, .ow f 0, .un, .un, .un, .un, .un, .un, .ow (bx b') 1] ∧ cs.length + r.length = n ∧ ∀ k ∈ cs, k < 128)
    (fun x r acc s hi => by
      obtain ⟨cs, b', rfl, rfl, hl, hk⟩ := hi
      have hb : 100 < big := by decide
      obtain ⟨k, hk2, e⟩ := draw_l b' 0 0 (by decide)
      refine ⟨by simp at hl ⊢; omega, some (chS k), [.pa 10, .ow (.str LL) 0, .ow sg 0, .ow f 0, .un, .un, .un, .un, .un, .un, .ow (bx (tkB b' 26)) 1], ?_, cs ++ [k], tkB b' 26, by simp, rfl, by simp at hl ⊢; omega, fun j hj => ?_⟩
      · simp [f__law_text, b__law_text, e__law_text_1, b__law_text_8, b__law_text_7, b__law_text_6, b__law_text_5, b__law_text_4, b__law_text_3, b__law_text_2, b__law_text_1, fnOf_eq, st0, tre_def, loc_def, at_def, List.replicate, lcStep_eq, take_s, e]
      · rcases List.mem_append.mp hj with hj | hj
        · exact hk j hj
        · rw [List.mem_singleton.mp hj]; exact hk2) ⟨[], b, rfl, rfl, by simp [rng_len], fun k hk => nomatch hk⟩
  exact ⟨cs, b', e, by simpa using hl, hk⟩
/-- what is told of a drawn text -/
def Dr (r : Fr) : Prop := ∃ (t : Str) (b' : Bx), r = .ok (.str t, 0) [(bx b', 1)] ∧ t.length ≤ 1000 ∧ asc t = true
def tS (f : Int) (w : Str) (c5 c6 c7 : Ce) (b : Bx) : S := [.pa 10, .ow (.str LL) 0, .ow (.str SG) 0, .ow (.int f) 0, .ow (.str w) 0, c5, c6, c7, .un, .un, .ow (bx b) 1]
theorem dr_cut {w u : Str} {i j : Int} {b : Bx} (hw : w.length ≤ 100) (aw : asc w = true) (hu : u.length ≤ 1) (au : asc u = true) : ∃ (t : Str), (cutS w none (some i)).length + u.length ≤ big ∧ (cutS w none (some i) ++ u).length + (cutS w (some j) none).length ≤ big ∧ t = cutS w none (some i) ++ u ++ cutS w (some j) none ∧ t.length ≤ 1000 ∧ asc t = true := by
  have hb : 1000 ≤ big := by decide
  have c1 := cut_len w none (some i)
  have c2 := cut_len w (some j) none
  refine ⟨_, by omega, by rw [app_len]; omega, rfl, by rw [app_len, app_len]; omega, asc_app (asc_app (asc_cut aw) au) (asc_cut aw)⟩
theorem text_8 {f : Int} {w : Str} {c5 c6 c7 : Ce} {b : Bx} (hw : w.length ≤ 100) (aw : asc w = true) : Dr (fnK 10 (b__law_text_8 (tS f w c5 c6 c7 b))) := by
  refine ⟨w, b, ?_, by omega, aw⟩
  simp [tS, b__law_text_8, tre_def, loc_def, at_def]
theorem text_7 {f i : Int} {w : Str} {c6 c7 : Ce} {b : Bx} (hw : w.length ≤ 100) (aw : asc w = true) : Dr (fnK 10 (b__law_text_7 (tS f w (.ow (.int i) 0) c6 c7 b))) := by
  have hwb : w.length ≤ big := Nat.le_trans hw (by decide)
  by_cases hf : f = 4
  · subst hf
    obtain ⟨k, hk, e1⟩ := draw_s b 0 0 (by decide)
    obtain ⟨x, hx, e2⟩ := draw_m (l := 3) (xs := [chS k, .str "\n", .str " "]) rfl (by decide) (tkB b 69) 1 0 (by decide)
    obtain ⟨y, hy, e3⟩ := draw_m (l := 3) (xs := [.int 0, .int w.length, .int i]) rfl (by decide) (tkB (tkB b 69) 3) 1 0 (by decide)
    have hx' : ∃ u : Str, x = .str u ∧ u.length ≤ 1 ∧ asc u = true := by
      simp only [List.mem_cons, List.not_mem_nil, or_false] at hx
      rcases hx with rfl | rfl | rfl
      · exact ⟨_, rfl, Nat.le_refl _, asc_one hk⟩
      · exact ⟨_, rfl, by decide +kernel, by decide +kernel⟩
      · exact ⟨_, rfl, by decide +kernel, by decide +kernel⟩
    have hy' : ∃ j : Int, y = .int j := by
      simp only [List.mem_cons, List.not_mem_nil, or_false] at hy
      rcases hy with rfl | rfl | rfl <;> exact ⟨_, rfl⟩
    obtain ⟨u, rfl, hu, au⟩ := hx'
    obtain ⟨j, rfl⟩ := hy'
    obtain ⟨t, g1, g2, rfl, g4, g5⟩ := dr_cut (w := w) (u := u) (i := j) (j := j + tkR (tkB (tkB (tkB b 69) 3) 3) 2) (b := b) hw aw hu au
    refine ⟨_, tkB (tkB (tkB (tkB b 69) 3) 3) 2, ?_, g4, g5⟩
    simp [tS, b__law_text_7, tre_def, loc_def, at_def, take_s, e1, e2, e3, g1, g2, hwb, sg_big, sg_len, (by decide : 69 ≤ big)]
  · have := text_8 (f := f) (c5 := .ow (.int i) 0) (c6 := c6) (c7 := c7) (b := b) hw aw
    unfold tS at this
    simpa [tS, b__law_text_7, tre_def, loc_def, at_def, hf] using this
theorem text_6 {f i : Int} {w : Str} {c6 : Ce} {b : Bx} (hw : w.length ≤ 100) (aw : asc w = true) : Dr (fnK 10 (b__law_text_6 (tS f w (.ow (.int i) 0) c6 .un b))) := by
  have hwb : w.length ≤ big := Nat.le_trans hw (by decide)
  have hi : ∀ n m, fIn [(.int f, n), (.tup [.int 1, .int 3], m)] = some (.bl (decide (f ∈ [1, 3])), 0) := fun n m => fIn_of (show inD (.int f) (.tup [.int 1, .int 3]) = _ from inQ_ints f [1, 3])
  by_cases hf : f ∈ [1, 3]
  · obtain ⟨k, hk, e1⟩ := draw_l b 0 0 (by decide)
    obtain ⟨x, hx, e2⟩ := draw_m (l := 2) (xs := [.str "", chS k]) rfl (by decide) (tkB b 26) 1 0 (by decide)
    have hx' : ∃ u : Str, x = .str u ∧ u.length ≤ 1 ∧ asc u = true := by
      simp only [List.mem_cons, List.not_mem_nil, or_false] at hx
      rcases hx with rfl | rfl
      · exact ⟨_, rfl, by decide +kernel, by decide +kernel⟩
      · exact ⟨_, rfl, Nat.le_refl _, asc_one hk⟩
    obtain ⟨u, rfl, hu, au⟩ := hx'
    obtain ⟨t, g1, g2, rfl, g4, g5⟩ := dr_cut (w := w) (u := u) (i := i) (j := i + tkR (tkB (tkB b 26) 2) 2) (b := b) hw aw hu au
    refine ⟨_, tkB (tkB (tkB b 26) 2) 2, ?_, g4, g5⟩
    rw [decide_eq_true hf] at hi
    simp [tS, b__law_text_6, tre_def, loc_def, at_def, take_s, hi, e1, e2, g1, g2, hwb]
  · have := text_7 (f := f) (i := i) (c6 := c6) (c7 := .un) (b := b) hw aw
    unfold tS at this
    rw [decide_eq_false hf] at hi
    simpa [tS, b__law_text_6, tre_def, loc_def, at_def, hi] using this
theorem text_5 {f : Int} {w : Str} {c6 : Ce} {b : Bx} (hw : w.length ≤ 100) (aw : asc w = true) : Dr (fnK 10 (b__law_text_5 (tS f w .un c6 .un b))) := by
  have hwb : w.length ≤ big := Nat.le_trans hw (by decide)
  have l1 : (0 : Int) < w.length + 1 := by omega
  have l2 : (w.length : Int) + 1 < 1073741824 := by omega
  have := text_6 (f := f) (i := tkR b (w.length + 1)) (c6 := c6) (b := tkB b (w.length + 1)) hw aw
  unfold tS at this
  simpa [tS, b__law_text_5, tre_def, loc_def, at_def, take_s, hwb, l1, l2] using this
def SW : List Str := KW ++ (["done", "endless", "taken", "missing", "blocked", "cycle"] : List Str)
theorem sw_ok : ∀ s ∈ SW, s.length ≤ 100 ∧ asc s = true := by decide +kernel
theorem sw_len : SW.length = 23 := rfl
theorem text_4 {f : Int} {w : Str} {b : Bx} (hw : w.length ≤ 100) (aw : asc w = true) : Dr (fnK 10 (b__law_text_4 (tS f w .un .un .un b))) := by
  by_cases hf : f < 3
  · obtain ⟨x, hx, e⟩ := draw_m (l := 23) (xs := SW.map D.str) rfl (by decide) b 1 0 (by decide)
    obtain ⟨u, hu, rfl⟩ := List.mem_map.mp hx
    obtain ⟨hu, au⟩ := sw_ok u hu
    have := text_5 (f := f) (c6 := .ow (.lst (SW.map D.str)) 1) (b := tkB b 23) hu au
    unfold tS at this
    have es : KW.map D.str ++ [.str "done", .str "endless", .str "taken", .str "missing", .str "blocked", .str "cycle"] = SW.map D.str := rfl
    have el : (SW.map D.str).length = 23 := rfl
    have kl : KW.length = 17 := rfl
    simpa [tS, b__law_text_4, tre_def, loc_def, at_def, take_s, hf, kept_eq, es, el, kl, sw_len, e, (by decide : 23 ≤ big)] using this
  · have := text_5 (f := f) (c6 := .un) (b := b) hw aw
    unfold tS at this
    simpa [tS, b__law_text_4, tre_def, loc_def, at_def, hf] using this
theorem text_ok (b : Bx) : Dr (f__law_text [(bx b, 1)]) := by
  have h0 := tk_ge (b := tkB b 6) (m := 11) (by decide)
  have h1 := tk_lt (b := tkB b 6) (m := 11) (by decide)
  obtain ⟨cs, b', e, hl, ha⟩ := comp_c (.str SG) (.int (tkR b 6)) (tkR (tkB b 6) 11).toNat (by omega) (tkB (tkB b 6) 11)
  have hb : 1000 ≤ big := by decide
  have := text_4 (f := tkR b 6) (w := ⟨cs.toArray⟩) (b := b') (by show cs.toArray.size ≤ _; simp; omega) (asc_of ha)
  unfold tS at this
  have ej : ∀ n m, fJoin [(.str "", n), (.lst (cs.map chS), m)] = some (.str ⟨cs.toArray⟩, 0) := fun n m => fJoin_sigs (by omega)
  simpa [f__law_text, b__law_text, b__law_text_1, b__law_text_2, b__law_text_3, fnOf_eq, st0, tre_def, loc_def, at_def, List.replicate, take_s, tk_lo, tk_hi, rngL_map, e, ej] using this
def Gd (t : Str) : Prop := t.length ≤ 1000 ∧ asc t = true
theorem text_s (b : Bx) : ∃ (t : Str) (b' : Bx), f__law_text [(bx b, 1)] = .ok (.str t, 0) [(bx b', 1)] ∧ Gd t := text_ok b
def lS (ns : List Int) (ts : List Str) (c2 c3 : Ce) : S := [.ow (.rol (ns.map D.int)) 0, .ow (.lst (ts.map D.str)) 1, c2, c3, .un, .un, .ow (.rol (ns.map D.int)) 0]
theorem comp_d (ns : List Int) (ts : List Str) (c2 : Ce) (b : Bx) : ∃ (us : List Str) (b' : Bx), lcL [5] (.nm 5) mYes e_law_1 ((rng 0 5).map D.int) [] (lS ns ts c2 (.ow (bx b) 1)) = .ok (us.map D.str) (lS ns ts c2 (.ow (bx b') 1)) ∧ us.length = 5 ∧ ∀ u ∈ us, Gd u := by
  obtain ⟨acc, s', e, us, b', rfl, rfl, hl, hk⟩ := lcL_inv (us := [5]) (tg := .nm 5) (t := mYes) (m := e_law_1) (c := D.int) (xs := rng 0 5) (acc := []) (s := lS ns ts c2 (.ow (bx b) 1))
    (I := fun r acc s => ∃ (us : List Str) (b' : Bx), acc = us.map D.str ∧ s = lS ns ts c2 (.ow (bx b') 1) ∧ us.length + r.length = 5 ∧ ∀ u ∈ us, Gd u)
    (fun x r acc s hi => by
      obtain ⟨us, b', rfl, rfl, hl, hk⟩ := hi
      have hb : 100 < big := by decide
      obtain ⟨t, b2, e, g⟩ := text_s b'
      refine ⟨by simp at hl ⊢; omega, some (.str t), lS ns ts c2 (.ow (bx b2) 1), ?_, us ++ [t], b2, by simp, rfl, by simp at hl ⊢; omega, fun j hj => ?_⟩
      · simp [lS, e_law_1, lcStep_eq, e, tre_def, loc_def, at_def]
      · rcases List.mem_append.mp hj with hj | hj
        · exact hk j hj
        · rw [List.mem_singleton.mp hj]; exact g) ⟨[], b, rfl, rfl, by simp [rng_len], fun k hk => nomatch hk⟩
  exact ⟨us, b', e, by simpa using hl, hk⟩
theorem loop_ok (ns : List Int) (n : Nat) (hn : n ≤ 6) : ∃ (ts : List Str) (c2 c3 : Ce), forL (.nm 2) l_law_1 (rngL 0 n) (lS ns [] .un .un) = .ok .nx (lS ns ts c2 c3) ∧ ts.length ≤ 30 ∧ ∀ t ∈ ts, Gd t := by
  obtain ⟨s', e, k, ts, c2, c3, _, rfl, hl, hg, _⟩ := forL_nx (tg := .nm 2) (body := l_law_1) (items := rngL 0 n) (s := lS ns [] .un .un)
    (I := fun ds s => ∃ (k : Nat) (ts : List Str) (c2 c3 : Ce), ds = rngL k (n - k) ∧ s = lS ns ts c2 c3 ∧ ts.length = 5 * k ∧ (∀ t ∈ ts, Gd t) ∧ k ≤ n)
    (fun d ds s hi => by
      obtain ⟨k, ts, c2, c3, hds, rfl, hl, hg, hk⟩ := hi
      have hkn : ∃ j, n - k = j + 1 := by
        cases q : n - k with
        | zero => rw [q] at hds; cases hds
        | succ j => exact ⟨j, rfl⟩
      obtain ⟨j, hj⟩ := hkn
      rw [hj, rngL_cons] at hds
      cases hds
      obtain ⟨b, eb⟩ := box_ok ns k (by omega)
      obtain ⟨us, b', eu, hu, gu⟩ := comp_d ns ts (.ow (.int k) 0) b
      unfold lS at eu
      have h5 : rngL 0 5 = (rng 0 5).map D.int := rngL_map
      have hb : ts.length + us.length ≤ big := Nat.le_trans (by omega : _ ≤ 100) (by decide)
      refine ⟨_, lS ns (ts ++ us) (.ow (.int k) 0) (.ow (bx b') 1), rfl, .inl ?_, k + 1, ts ++ us, _, _, ?_, rfl, by simp; omega, fun t ht => ?_, by omega⟩
      · simp [lS, l_law_1, l_law_1_1, tre_def, loc_def, at_def, eb, h5, eu, hb]
      · show rngL ((k : Int) + 1) j = _
        rw [show n - (k + 1) = j by omega]
        rfl
      · rcases List.mem_append.mp ht with ht | ht
        · exact hg t ht
        · exact gu t ht) ⟨0, [], .un, .un, by simp, rfl, rfl, ⟨fun t ht => (nomatch ht), Nat.zero_le _⟩⟩
  exact ⟨ts, c2, c3, e, by omega, hg⟩
theorem comp_e (ns : List Int) (ts us : List Str) (c2 c3 : Ce) (hu : ∀ u ∈ us, Gd u) (hl : us.length ≤ 100) : lcL [4] (.nm 4) t_law_1 e_law_2 (us.map D.str) [] (lS ns ts c2 c3) = .ok [] (lS ns ts c2 c3) := by
  rw [lcL_fm (fun _ => false) D.str]
  · simp
  · intro u h
    obtain ⟨g1, g2⟩ := hu u h
    simp [lS, t_law_1, lcStep_eq, tre_def, loc_def, at_def, right_ok u g1 g2]
  · have : 100 ≤ big := by decide
    simp
    omega
theorem lawS (ns n5 : List Int) (s : S)
  (c5 : cutD (List.map D.int ns) none (some 5) = List.map D.int n5) :
  mSl (.nm 0) none (some (mC (.int 5))) (Ce.ow (D.rol (List.map D.int ns)) 0 :: s) = .ok (.lst (n5.map D.int), 1) (Ce.ow (D.rol (List.map D.int ns)) 0 :: s) := by
  simp [tre_def, loc_def, at_def, c5]
theorem lawT (n5 : List Int) (s : S) (m : M T) (h : m s = .ok (.lst (n5.map D.int), 1) s) :
  mOp fAdd [(.tm (mC (.int 1))), (.tm (mOp fLen [(.tm m)]))] s = .ok (.int (1 + (n5.length : Int)), 0) s := by
  simp [h]
theorem i1y (n : Nat) (h5 : n ≤ 5) : int1 [(.int (1 + (n : Int)), 0)] = some (1 + (n : Int)) := int1_i (by omega) (by omega)
theorem n1y (n : Nat) : (1 + (n : Int)).toNat = 1 + n := by omega
theorem lawV (n : Nat) (s : S) (m : M T) (h : m s = .ok (.int (1 + (n : Int)), 0) s) (i1 : int1 [(.int (1 + (n : Int)), 0)] = some (1 + (n : Int))) : mRng1 (.tm m) s = .ok (rngL 0 (1 + (n : Int)).toNat) s := by
  rw [mRng1_eq, evs_cons, ev_tm, h, tmK_ok, evK_ok, evs_nil, evK1_ok, r1K_ok, gets_tm, gets_nil, geK_some]
  generalize (1 + (n : Int)) = j at *
  rw [r1K1_some, i1, r1K2_some]
theorem lawU (n5 : List Int) (s : S) (m : M T) (h : m s = .ok (.int (1 + (n5.length : Int)), 0) s) (h5 : n5.length ≤ 5) : mRng1 (.tm m) s = .ok (rngL 0 (1 + n5.length)) s :=
  (lawV n5.length s m h (i1y _ h5)).trans (congrArg (fun j => R.ok (rngL 0 j) s) (n1y n5.length))
theorem lawB (ns n5 : List Int) (ts : List Str) (c2 c3 : Ce) (h5 : n5.length ≤ 5)
  (c5 : cutD (List.map D.int ns) none (some 5) = List.map D.int n5)
  (e : forL (Tg.nm 2) l_law_1 (rngL 0 (1 + n5.length)) (lS ns [] .un .un) = .ok .nx (lS ns ts c2 c3)) : b_law_1 (lS ns [] .un .un) = b_law_2 (lS ns ts c2 c3) := by
  unfold b_law_1
  rw [show lS ns [] .un .un = Ce.ow (D.rol (List.map D.int ns)) 0 :: (lS ns [] .un .un).tail from rfl, mSeq_eq, mFor_eq, lawU n5 _ _ (lawT n5 _ _ (lawS ns n5 _ c5)) h5, foK_ok]
  show sqK b_law_2 (forL (Tg.nm 2) l_law_1 (rngL 0 (1 + n5.length)) (lS ns [] .un .un)) = _
  rw [e, sqK_nx]
theorem lawA (ns : List Int) (ts t1 : List Str) (c2 c3 : Ce) 
  (c1 : cutD (List.map D.str ts) none (some 1) = List.map D.str t1) (hb : ts.length + t1.length ≤ big)
  (ec : lcL [4] (Tg.nm 4) t_law_1 e_law_2 ((ts ++ t1).map D.str) [] (lS ns ts c2 c3) = .ok [] (lS ns ts c2 c3)) : b_law_2 (lS ns ts c2 c3) = .ok (.rt (.bl true, 0)) (lS ns ts c2 c3) := by
  rw [List.map_append] at ec
  unfold lS at ec ⊢
  simp [b_law_2, tre_def, loc_def, at_def, c1, hb, ec]
theorem law3 (ns : List Int) : b_law (st0 6 [(.rol (ns.map D.int), 0)]) = b_law_1 (lS ns [] .un .un) := by
  have e : st0 6 [(.rol (ns.map D.int), 0)] = [.ow (.rol (ns.map D.int)) 0, .un, .un, .un, .un, .un, .ow (.rol (ns.map D.int)) 0] := rfl
  rw [e]
  unfold b_law lS
  generalize D.rol (ns.map D.int) = r
  rw [mSeq_eq, mAsg_eq, mLst_eq, evm_nil, lsK_ok, asK_ok, if_pos (by simp), sqK_nx]
  rfl
theorem law4 (ns : List Int) (ts : List Str) (c2 c3 : Ce) : fnK 6 (.ok (.rt (.bl true, 0)) (lS ns ts c2 c3)) = .ok (.bl true, 0) [(.rol (ns.map D.int), 0)] := rfl
theorem law5 (ns : List Int) : cutD (ns.map D.int) none (some 5) = (ns.take 5).map D.int := by rw [cutD_map]; exact congrArg _ (cutD_first (k := 5))
theorem law6 (ts : List Str) : cutD (ts.map D.str) none (some 1) = (ts.take 1).map D.str := by rw [cutD_map]; exact congrArg _ (cutD_first (k := 1))
theorem law7 (ts : List Str) (hl : ts.length ≤ 30) : (ts ++ ts.take 1).length ≤ 100 := by simp; omega
theorem law8 (ts : List Str) (hl : ts.length ≤ 30) : ts.length + (ts.take 1).length ≤ big := by
  have h : ts.length + (ts.take 1).length ≤ 100 := by simp; omega
  exact Nat.le_trans h (by decide)
theorem law9 (ns : List Int) : (ns.take 5).length ≤ 5 := by simp; omega
theorem law10 (ns : List Int) : 1 + (ns.take 5).length ≤ 6 := by have := law9 ns; omega
theorem law_ok (ns : List Int) : ∃ ts, f_law [(.rol (ns.map D.int), 0)] = .ok (.bl true, 0) ts := by
  obtain ⟨ts, c2, c3, e, hl, hg⟩ := loop_ok ns (1 + (ns.take 5).length) (law10 ns)
  have ec := comp_e ns ts (ts ++ ts.take 1) c2 c3 (fun u hu => (List.mem_append.mp hu).elim (hg u) fun h => hg u (List.mem_of_mem_take h)) (law7 ts hl)
  have h1 := lawB ns _ ts c2 c3 (law9 ns) (law5 ns) e
  have h2 := lawA ns ts _ c2 c3 (law6 ts) (law8 ts hl) ec
  refine ⟨[(.rol (ns.map D.int), 0)], ?_⟩
  exact fnOf_eq.trans ((congrArg (fnK 6) ((law3 ns).trans (h1.trans h2))).trans (law4 ns ts c2 c3))
end Y_k02

open PySem PySem.W PyProof.Rows in
set_option maxRecDepth 100000 in
set_option maxHeartbeats 0 in
theorem PySem.Challenge.cw_dropfates_k02_names_and_words_holds : PySem.Challenge.rw_dropfates_k02_names_and_words.Holds := by
  w_on; o_law; k_head; (case hw => w_witness2)
  k_fill
  refine Z.z_end (l := PySem.Challenge.rw_dropfates_k02_names_and_words) (k := 4) (x := "_law_script") (fn := Y_k02.f_law) (cl := fun _ _ => none) rfl rfl ⟨rfl, by decide, by decide⟩ (fun w h Y => PySem.W.kIn_of Y) ?F (fun ns _ => Y_k02.law_ok ns)
  case F =>
    intro w mg fa h KX G hmg
    refine' Y_k02.all_mk KX G hmg ?z_abs ?z_all ?z_bool ?z_int ?z_isinstance ?z_len ?z_range ?g_LONGEST ?h_LONGEST ?g_LETTERS ?h_LETTERS ?g_KEPT_WORDS ?l_KEPT_WORDS ?y_KEPT_WORDS ?h_KEPT_WORDS ?a__law_box ?l__law_box ?c__law_box ?k__law_box ?a__law_take ?l__law_take ?c__law_take ?k__law_take ?a__law_kept ?l__law_kept ?c__law_kept ?k__law_kept ?a__law_text ?l__law_text ?c__law_text ?k__law_text ?a_has_letters ?l_has_letters ?c_has_letters ?k_has_letters ?a_is_name ?l_is_name ?c_is_name ?k_is_name ?a_is_word ?l_is_word ?c_is_word ?k_is_word ?a__law_plain ?l__law_plain ?c__law_plain ?k__law_plain ?a__law_right ?l__law_right ?c__law_right ?k__law_right ?a_law ?l_law ?c_law ?k_law
    (case z_abs => k_is)
    (case z_all => k_is)
    (case z_bool => k_is)
    (case z_int => k_is)
    (case z_isinstance => k_is)
    (case z_len => k_is)
    (case z_range => k_is)
    (case g_LONGEST => k_is)
    (case h_LONGEST => decide +kernel)
    (case g_LETTERS => k_is)
    (case h_LETTERS => decide +kernel)
    (case g_KEPT_WORDS => k_is)
    (case l_KEPT_WORDS => k_is)
    (case y_KEPT_WORDS => decide +kernel)
    (case h_KEPT_WORDS => decide +kernel)
    (case a__law_box => k_is)
    (case l__law_box => k_is)
    (case c__law_box => k_is)
    (case k__law_box => k_is)
    (case a__law_take => k_is)
    (case l__law_take => k_is)
    (case c__law_take => k_is)
    (case k__law_take => k_is)
    (case a__law_kept => k_is)
    (case l__law_kept => k_is)
    (case c__law_kept => k_is)
    (case k__law_kept => k_is)
    (case a__law_text => k_is)
    (case l__law_text => k_is)
    (case c__law_text => k_is)
    (case k__law_text => k_is)
    (case a_has_letters => k_is)
    (case l_has_letters => k_is)
    (case c_has_letters => k_is)
    (case k_has_letters => k_is)
    (case a_is_name => k_is)
    (case l_is_name => k_is)
    (case c_is_name => k_is)
    (case k_is_name => k_is)
    (case a_is_word => k_is)
    (case l_is_word => k_is)
    (case c_is_word => k_is)
    (case k_is_word => k_is)
    (case a__law_plain => k_is)
    (case l__law_plain => k_is)
    (case c__law_plain => k_is)
    (case k__law_plain => k_is)
    (case a__law_right => k_is)
    (case l__law_right => k_is)
    (case c__law_right => k_is)
    (case k__law_right => k_is)
    (case a_law => k_is)
    (case l_law => k_is)
    (case c_law => k_is)
    (case k_law => k_is)
