import PyProof.Rows.All
import Wide.All
import OpenK.AllK
import Wide.FinOn
import HandS.Base
import HandS.Call
import HandS.List
import HandS.Comp
import HandS.Dict
import HandS.Iter
import HandS.Text
import HandS.Exc
import HandS.TryMany
import HandS.IsInst
import HandS.More
import HandS.Words
import HandS.WordsExc
import HandS.CallSlots
import HandS.EndBits
import HandS.WordsDict
import HandS.TupAny
import HandS.WordsList
import HandS.Codes
import HandS.DictComp
import KE.SortKeyHeap
import HandS.SortKw
import HandS.Conv
import HandS.RaiseMore
import HandS.ExcInit
import HandS.ExcField
import HandS.FStr
import HandS.Style
import HandS.Defaults
import KE.SortLaws
import PyProof.P3Eq
import OpenK.KMeth
import OpenK.KOps
import HandS.Deep
import PySem.Challenge.RW_dropfates_k18_what_an_object_leads_to
set_option Elab.async false
set_option linter.all false
set_option maxRecDepth 100000
set_option maxHeartbeats 4000000
/-! The layer Z over HandS: value semantics. Data as trees, ownership by levels, no heap in the mirrors. -/
namespace Z
open PySem L2

/-! ### data -/
inductive D where
  | non | bl (b : Bool) | int (i : Int) | str (s : Str)
  | lst (xs : List D) | tup (xs : List D) | dct (kvs : List (Key × D)) | obj (C : Str) (fs : List (Str × D)) | rol (xs : List D)
  deriving Inhabited
abbrev T := D × Nat
/-- what stands at an index of the state: nothing known, a tree of that level, another index' tree -/
inductive Ce where
  | un | ow (d : D) (n : Nat) | pa (j : Nat)
  deriving Inhabited
abbrev S := List Ce
structure Ex where
  C : Str
  fs : List (Str × D)

/-- the classes by name -/
structure Zc where
  K : PySem.W.Frag
  cl : Str → Option Addr

/-! ### frozen data -/
inductive RF (c : Zc) (Z : Hp) : D → V → Prop where
  | non : RF c Z .non .non
  | bl {b : Bool} : RF c Z (.bl b) (.bl b)
  | int {i : Int} : RF c Z (.int i) (.int i)
  | str {s : Str} : RF c Z (.str s) (.str s)
  | lst {a : Addr} {vs : List V} {xs : List D} (h : Z a = some (.lst vs)) (hl : xs.length = vs.length) (hx : ∀ (i : Nat) d v, xs[i]? = some d → vs[i]? = some v → RF c Z d v) : RF c Z (.lst xs) (.ref a)
  | rol {a : Addr} {vs : List V} {xs : List D} (h : SqL c.K Z a vs) (hl : xs.length = vs.length) (hx : ∀ (i : Nat) d v, xs[i]? = some d → vs[i]? = some v → RF c Z d v) : RF c Z (.rol xs) (.ref a)
  | tup {a : Addr} {vs : List V} {xs : List D} (h : SqT c.K Z a vs) (hl : xs.length = vs.length) (hx : ∀ (i : Nat) d v, xs[i]? = some d → vs[i]? = some v → RF c Z d v) : RF c Z (.tup xs) (.ref a)
  | dct {a : Addr} {vs : List (Key × V)} {kvs : List (Key × D)} (h : Rd Z a (.dK vs)) (hk : kvs.map (·.1) = vs.map (·.1)) (hx : ∀ (i : Nat) d v, (kvs.map (·.2))[i]? = some d → (vs.map (·.2))[i]? = some v → RF c Z d v) : RF c Z (.dct kvs) (.ref a)
  | obj {C : Str} {A a dx : Addr} {vs : List (Str × V)} {fs : List (Str × D)} (hc : c.cl C = some A) (h : Z a = some (.ins A dx vs)) (hk : fs.map (·.1) = vs.map (·.1)) (hx : ∀ (i : Nat) d v, (fs.map (·.2))[i]? = some d → (vs.map (·.2))[i]? = some v → RF c Z d v) : RF c Z (.obj C fs) (.ref a)

/-- the frozen part lies in the heap; a dict that a loop walks may be locked there -/
def Sub (Z H : Hp) : Prop := ∀ a o, Z a = some o → H a = some o ∨ ∃ ob kvs, H a = some (.frz ob o) ∧ o = .dK kvs
theorem Sub.rd {Z H : Hp} (s : Sub Z H) {a : Addr} {u : HO} (h : Rd Z a u) : Rd H a u := by
  rcases h with h | ⟨o, h⟩
  · rcases s _ _ h with h | ⟨ob, _, h, _⟩
    · exact .inl h
    · exact .inr ⟨ob, h⟩
  · rcases s _ _ h with h | ⟨ob, _, _, m⟩
    · exact .inr ⟨o, h⟩
    · cases m
theorem Sub.sqL {K : PySem.W.Frag} {Z H : Hp} (s : Sub Z H) {a : Addr} {xs : List V} (h : SqL K Z a xs) : SqL K H a xs := by
  rcases h with h | h
  · exact .inl (s.rd h)
  · exact .inr h
theorem Sub.sqT {K : PySem.W.Frag} {Z H : Hp} (s : Sub Z H) {a : Addr} {xs : List V} (h : SqT K Z a xs) : SqT K H a xs := by
  rcases h with h | h
  · exact .inl (s.rd h)
  · exact .inr h
theorem Sub.get {Z H : Hp} (s : Sub Z H) {a : Addr} {o : HO} (h : Z a = some o) (hn : ∀ kvs, o ≠ .dK kvs) : H a = some o := by
  rcases s _ _ h with h | ⟨_, kvs, _, e⟩
  · exact h
  · exact absurd e (hn kvs)
theorem Sub.some {Z H : Hp} (s : Sub Z H) {a : Addr} {o : HO} (h : Z a = some o) : H a ≠ none := by
  rcases s _ _ h with h | ⟨_, _, h, _⟩ <;> rw [h] <;> exact fun z => nomatch z
theorem Sub.none {Z H : Hp} (s : Sub Z H) {a : Addr} (h : H a = none) : Z a = none := by
  cases e : Z a with
  | none => rfl
  | some o => exact absurd h (s.some e)

theorem Sub.refl (Z : Hp) : Sub Z Z := fun _ _ h => .inl h
theorem Sub.trans {A B C : Hp} (h : Sub A B) (k : Sub B C) : Sub A C := fun a o e => by
  rcases h a o e with h | ⟨ob, kvs, h, m⟩
  · exact k a o h
  · rcases k a _ h with k | ⟨_, _, _, z⟩
    · exact .inr ⟨ob, kvs, k, m⟩
    · cases z
/-- what is frozen stays; a dict may be locked for good -/
abbrev Sm (Z Z' : Hp) : Prop := Sub Z Z'
theorem Sm.refl (Z : Hp) : Sm Z Z := Sub.refl Z
theorem Sm.trans {A B C : Hp} (h : Sm A B) (k : Sm B C) : Sm A C := Sub.trans h k
theorem RF.mono {c : Zc} {Z Z' : Hp} (s : Sm Z Z') {d : D} {v : V} (h : RF c Z d v) : RF c Z' d v := by
  induction h with
  | non => exact .non
  | bl => exact .bl
  | int => exact .int
  | str => exact .str
  | lst h hl _ ih => exact .lst (s.get h fun _ e => nomatch e) hl ih
  | rol h hl _ ih => exact .rol (s.sqL h) hl ih
  | tup h hl _ ih => exact .tup (s.sqT h) hl ih
  | dct h hk _ ih => exact .dct (s.rd h) hk ih
  | obj hc h hk _ ih => exact .obj hc (s.get h fun _ e => nomatch e) hk ih

/-! ### lists with footprints -/
def LR {α β : Type} (R : α → β → List Addr → Prop) : List α → List β → List Addr → Prop
  | [], [], fp => fp = []
  | a :: as, b :: bs, fp => ∃ f g, fp = f ++ g ∧ R a b f ∧ LR R as bs g
  | _, _, _ => False
section
variable {α β : Type} {R R' : α → β → List Addr → Prop}
theorem LR.len : ∀ {as : List α} {bs : List β} {fp : List Addr}, LR R as bs fp → as.length = bs.length
  | [], [], _, _ => rfl
  | _ :: _, _ :: _, _, ⟨_, _, _, _, h⟩ => congrArg (· + 1) (LR.len h)
  | [], _ :: _, _, h => h.elim
  | _ :: _, [], _, h => h.elim
theorem LR.imp : ∀ {as : List α} {bs : List β} {fp : List Addr}, LR R as bs fp → (∀ a b f, (∀ x ∈ f, x ∈ fp) → a ∈ as → R a b f → R' a b f) → LR R' as bs fp
  | [], [], _, h, _ => h
  | a :: as, b :: bs, _, ⟨f, g, e, h1, h2⟩, k => ⟨f, g, e, k a b f (fun x hx => by rw [e]; exact List.mem_append_left _ hx) List.mem_cons_self h1, LR.imp h2 fun a b f hf ha => k a b f (fun x hx => by rw [e]; exact List.mem_append_right _ (hf x hx)) (List.mem_cons_of_mem _ ha)⟩
  | [], _ :: _, _, h, _ => h.elim
  | _ :: _, [], _, h, _ => h.elim
theorem LR.append : ∀ {as as' : List α} {bs bs' : List β} {f g : List Addr}, LR R as bs f → LR R as' bs' g → LR R (as ++ as') (bs ++ bs') (f ++ g)
  | [], _, [], _, _, _, h, k => by rw [show _ = [] from h]; exact k
  | a :: as, _, b :: bs, _, _, _, ⟨f, g, e, h1, h2⟩, k => ⟨f, _, by rw [e, List.append_assoc], h1, LR.append h2 k⟩
  | [], _, _ :: _, _, _, _, h, _ => h.elim
  | _ :: _, _, [], _, _, _, h, _ => h.elim
theorem LR.split : ∀ {as as' : List α} {bs bs' : List β} {fp : List Addr}, as.length = bs.length → LR R (as ++ as') (bs ++ bs') fp → ∃ f g, fp = f ++ g ∧ LR R as bs f ∧ LR R as' bs' g
  | [], _, [], _, fp, _, h => ⟨[], fp, rfl, rfl, h⟩
  | a :: as, _, b :: bs, _, _, hl, ⟨f, g, e, h1, h2⟩ => by
    obtain ⟨f', g', e', k1, k2⟩ := LR.split (Nat.succ.inj hl) h2
    exact ⟨f ++ f', g', by rw [e, e', List.append_assoc], ⟨f, f', rfl, h1, k1⟩, k2⟩
  | [], _, _ :: _, _, _, hl, _ => by cases hl
  | _ :: _, _, [], _, _, hl, _ => by cases hl
/-- the item at an index, and what may be put in its place -/
theorem LR.get : ∀ {as : List α} {bs : List β} {fp : List Addr} {i : Nat} {a : α}, LR R as bs fp → as[i]? = some a → ∃ b g1 f g2, bs[i]? = some b ∧ fp = g1 ++ f ++ g2 ∧ R a b f ∧ ∀ a' b' f', R a' b' f' → LR R (as.set i a') (bs.set i b') (g1 ++ f' ++ g2)
  | a :: as, b :: bs, _, 0, x, ⟨f, g, e, h1, h2⟩, hi => by
    cases hi
    exact ⟨b, [], f, g, rfl, e, h1, fun a' b' f' h => ⟨f', g, rfl, h, h2⟩⟩
  | a :: as, b :: bs, _, i + 1, x, ⟨f, g, e, h1, h2⟩, hi => by
    obtain ⟨y, g1, f', g2, e1, e2, r, k⟩ := LR.get (i := i) h2 (by simpa using hi)
    exact ⟨y, f ++ g1, f', g2, by simpa using e1, by rw [e, e2]; simp [List.append_assoc], r, fun a' b' f'' h => ⟨f, _, by simp [List.append_assoc], h1, k a' b' f'' h⟩⟩
  | [], _, _, i, _, _, hi => by simp at hi
  | _ :: _, [], _, _, _, h, _ => h.elim
theorem LR.nil {bs : List β} {fp : List Addr} (h : LR R [] bs fp) : bs = [] ∧ fp = [] := by
  cases bs with
  | nil => exact ⟨rfl, h⟩
  | cons => exact h.elim
theorem LR.one {a : α} {b : β} {f : List Addr} (h : R a b f) : LR R [a] [b] f := ⟨f, [], by simp, h, rfl⟩
theorem LR.of_one {a : α} {bs : List β} {f : List Addr} (h : LR R [a] bs f) : ∃ b, bs = [b] ∧ R a b f := by
  cases bs with
  | nil => exact h.elim
  | cons b r =>
    obtain ⟨f1, g, e, h1, h2⟩ := h
    obtain ⟨rfl, rfl⟩ := LR.nil h2
    rw [List.append_nil] at e
    subst e
    exact ⟨b, rfl, h1⟩
end

/-! ### live trees -/
def RT (c : Zc) (Z H : Hp) : Nat → D → V → List Addr → Prop
  | 0, d, v, fp => RF c Z d v ∧ fp = []
  | n + 1, .lst xs, v, fp => ∃ a vs f, v = .ref a ∧ H a = some (.lst vs) ∧ LR (RT c Z H n) xs vs f ∧ fp = a :: f
  | n + 1, .tup xs, v, fp => ∃ a vs f, v = .ref a ∧ H a = some (.tup vs) ∧ LR (RT c Z H n) xs vs f ∧ fp = a :: f
  | n + 1, .dct kvs, v, fp => ∃ a vs f, v = .ref a ∧ H a = some (.dK vs) ∧ kvs.map (·.1) = vs.map (·.1) ∧ LR (RT c Z H n) (kvs.map (·.2)) (vs.map (·.2)) f ∧ fp = a :: f
  | n + 1, .obj C fs, v, fp => ∃ A a dx vs f, v = .ref a ∧ c.cl C = some A ∧ H a = some (.ins A dx vs) ∧ fs.map (·.1) = vs.map (·.1) ∧ LR (RT c Z H n) (fs.map (·.2)) (vs.map (·.2)) f ∧ fp = a :: f
  | _ + 1, .rol xs, v, fp => RF c Z (.rol xs) v ∧ fp = []
  | _ + 1, .non, v, fp => v = .non ∧ fp = []
  | _ + 1, .bl b, v, fp => v = .bl b ∧ fp = []
  | _ + 1, .int i, v, fp => v = .int i ∧ fp = []
  | _ + 1, .str s, v, fp => v = .str s ∧ fp = []

theorem RT.stay {c : Zc} {Z Z' H H' : Hp} (sz : Sm Z Z') : ∀ {n : Nat} {d : D} {v : V} {fp : List Addr}, RT c Z H n d v fp → (∀ a ∈ fp, H' a = H a) → RT c Z' H' n d v fp
  | 0, d, v, fp, ⟨h, e⟩, _ => ⟨h.mono sz, e⟩
  | n + 1, .lst xs, v, fp, ⟨a, vs, f, h1, h2, h3, h4⟩, k => ⟨a, vs, f, h1, (k a (by rw [h4]; exact List.mem_cons_self)).trans h2, LR.imp h3 fun _ _ g hg _ h => RT.stay sz h fun x hx => k x (by rw [h4]; exact List.mem_cons_of_mem _ (hg x hx)), h4⟩
  | n + 1, .tup xs, v, fp, ⟨a, vs, f, h1, h2, h3, h4⟩, k => ⟨a, vs, f, h1, (k a (by rw [h4]; exact List.mem_cons_self)).trans h2, LR.imp h3 fun _ _ g hg _ h => RT.stay sz h fun x hx => k x (by rw [h4]; exact List.mem_cons_of_mem _ (hg x hx)), h4⟩
  | n + 1, .dct kvs, v, fp, ⟨a, vs, f, h1, h2, h0, h3, h4⟩, k => ⟨a, vs, f, h1, (k a (by rw [h4]; exact List.mem_cons_self)).trans h2, h0, LR.imp h3 fun _ _ g hg _ h => RT.stay sz h fun x hx => k x (by rw [h4]; exact List.mem_cons_of_mem _ (hg x hx)), h4⟩
  | n + 1, .obj C fs, v, fp, ⟨A, a, dx, vs, f, h1, hc, h2, h0, h3, h4⟩, k => ⟨A, a, dx, vs, f, h1, hc, (k a (by rw [h4]; exact List.mem_cons_self)).trans h2, h0, LR.imp h3 fun _ _ g hg _ h => RT.stay sz h fun x hx => k x (by rw [h4]; exact List.mem_cons_of_mem _ (hg x hx)), h4⟩
  | _ + 1, .rol _, _, _, h, _ => ⟨h.1.mono sz, h.2⟩
  | _ + 1, .non, _, _, h, _ => h
  | _ + 1, .bl _, _, _, h, _ => h
  | _ + 1, .int _, _, _, h, _ => h
  | _ + 1, .str _, _, _, h, _ => h

theorem LR.mem {α β : Type} {R : α → β → List Addr → Prop} {P : Addr → Prop} : ∀ {as : List α} {bs : List β} {fp : List Addr}, LR R as bs fp → (∀ a b f, R a b f → ∀ x ∈ f, P x) → ∀ x ∈ fp, P x
  | [], [], _, h, _, x, hx => by rw [show _ = [] from h] at hx; cases hx
  | a :: as, b :: bs, _, ⟨f, g, e, h1, h2⟩, k, x, hx => by
    rw [e] at hx
    rcases List.mem_append.mp hx with hx | hx
    · exact k a b f h1 x hx
    · exact LR.mem h2 k x hx
  | [], _ :: _, _, h, _, _, _ => h.elim
  | _ :: _, [], _, h, _, _, _ => h.elim

theorem RT.there {c : Zc} {Z H : Hp} : ∀ {n : Nat} {d : D} {v : V} {fp : List Addr}, RT c Z H n d v fp → ∀ a ∈ fp, H a ≠ none
  | 0, d, v, fp, ⟨h, e⟩, a, ha => by rw [e] at ha; cases ha
  | n + 1, .lst xs, v, fp, ⟨b, vs, f, h1, h2, h3, h4⟩, a, ha => by
    rw [h4] at ha
    rcases List.mem_cons.mp ha with rfl | ha
    · rw [h2]; exact fun z => nomatch z
    · exact LR.mem h3 (fun _ _ _ h x hx => RT.there h x hx) a ha
  | n + 1, .tup xs, v, fp, ⟨b, vs, f, h1, h2, h3, h4⟩, a, ha => by
    rw [h4] at ha
    rcases List.mem_cons.mp ha with rfl | ha
    · rw [h2]; exact fun z => nomatch z
    · exact LR.mem h3 (fun _ _ _ h x hx => RT.there h x hx) a ha
  | n + 1, .dct xs, v, fp, ⟨b, vs, f, h1, h2, _, h3, h4⟩, a, ha => by
    rw [h4] at ha
    rcases List.mem_cons.mp ha with rfl | ha
    · rw [h2]; exact fun z => nomatch z
    · exact LR.mem h3 (fun _ _ _ h x hx => RT.there h x hx) a ha
  | n + 1, .obj C xs, v, fp, ⟨_, b, _, vs, f, h1, _, h2, _, h3, h4⟩, a, ha => by
    rw [h4] at ha
    rcases List.mem_cons.mp ha with rfl | ha
    · rw [h2]; exact fun z => nomatch z
    · exact LR.mem h3 (fun _ _ _ h x hx => RT.there h x hx) a ha
  | _ + 1, .rol _, _, _, ⟨_, e⟩, a, ha => by rw [e] at ha; cases ha
  | _ + 1, .non, _, _, ⟨_, e⟩, a, ha => by rw [e] at ha; cases ha
  | _ + 1, .bl _, _, _, ⟨_, e⟩, a, ha => by rw [e] at ha; cases ha
  | _ + 1, .int _, _, _, ⟨_, e⟩, a, ha => by rw [e] at ha; cases ha
  | _ + 1, .str _, _, _, ⟨_, e⟩, a, ha => by rw [e] at ha; cases ha

theorem LR.items {α β : Type} {R : α → β → List Addr → Prop} : ∀ {as : List α} {bs : List β} {fp : List Addr}, LR R as bs fp → ∀ (i : Nat) a b, as[i]? = some a → bs[i]? = some b → ∃ f, (∀ x ∈ f, x ∈ fp) ∧ R a b f
  | a :: as, b :: bs, _, ⟨f, g, e, h1, h2⟩, 0, x, y, hx, hy => by
    cases hx; cases hy
    exact ⟨f, fun x hx => by rw [e]; exact List.mem_append_left _ hx, h1⟩
  | a :: as, b :: bs, _, ⟨f, g, e, h1, h2⟩, i + 1, x, y, hx, hy => by
    obtain ⟨f', k, r⟩ := LR.items h2 i x y (by simpa using hx) (by simpa using hy)
    exact ⟨f', fun x hx => by rw [e]; exact List.mem_append_right _ (k x hx), r⟩
  | [], _, _, _, _, _, _, hx, _ => by simp at hx
  | _ :: _, [], _, h, _, _, _, _, _ => h.elim

/-- a live tree whose nodes are frozen -/
theorem RT.freeze {c : Zc} {Z Z' H : Hp} (sz : Sm Z Z') : ∀ {n : Nat} {d : D} {v : V} {fp : List Addr}, RT c Z H n d v fp → (∀ a ∈ fp, Z' a = H a) → RF c Z' d v
  | 0, d, v, fp, ⟨h, e⟩, _ => h.mono sz
  | n + 1, .lst xs, v, fp, ⟨a, vs, f, h1, h2, h3, h4⟩, k => by
    subst h1
    refine .lst ((k a (by rw [h4]; exact List.mem_cons_self)).trans h2) h3.len fun i d v hd hv => ?_
    obtain ⟨g, hg, r⟩ := h3.items i d v hd hv
    exact r.freeze sz fun x hx => k x (by rw [h4]; exact List.mem_cons_of_mem _ (hg x hx))
  | n + 1, .tup xs, v, fp, ⟨a, vs, f, h1, h2, h3, h4⟩, k => by
    subst h1
    refine .tup (.inl (.inl ((k a (by rw [h4]; exact List.mem_cons_self)).trans h2))) h3.len fun i d v hd hv => ?_
    obtain ⟨g, hg, r⟩ := h3.items i d v hd hv
    exact r.freeze sz fun x hx => k x (by rw [h4]; exact List.mem_cons_of_mem _ (hg x hx))
  | n + 1, .dct kvs, v, fp, ⟨a, vs, f, h1, h2, h0, h3, h4⟩, k => by
    subst h1
    refine .dct (.inl ((k a (by rw [h4]; exact List.mem_cons_self)).trans h2)) h0 fun i d v hd hv => ?_
    obtain ⟨g, hg, r⟩ := h3.items i d v hd hv
    exact r.freeze sz fun x hx => k x (by rw [h4]; exact List.mem_cons_of_mem _ (hg x hx))
  | n + 1, .obj C fs, v, fp, ⟨A, a, dx, vs, f, h1, hc, h2, h0, h3, h4⟩, k => by
    subst h1
    refine .obj hc ((k a (by rw [h4]; exact List.mem_cons_self)).trans h2) h0 fun i d v hd hv => ?_
    obtain ⟨g, hg, r⟩ := h3.items i d v hd hv
    exact r.freeze sz fun x hx => k x (by rw [h4]; exact List.mem_cons_of_mem _ (hg x hx))
  | _ + 1, .rol _, _, _, ⟨h, _⟩, _ => h.mono sz
  | _ + 1, .non, _, _, ⟨e, _⟩, _ => by rw [e]; exact .non
  | _ + 1, .bl _, _, _, ⟨e, _⟩, _ => by rw [e]; exact .bl
  | _ + 1, .int _, _, _, ⟨e, _⟩, _ => by rw [e]; exact .int
  | _ + 1, .str _, _, _, ⟨e, _⟩, _ => by rw [e]; exact .str

/-- nodes added to the frozen part -/
def zadd (Z H : Hp) (fp : List Addr) : Hp := fun a => if a ∈ fp then H a else Z a
theorem zadd_in {Z H : Hp} {fp : List Addr} {a : Addr} (h : a ∈ fp) : zadd Z H fp a = H a := if_pos h
theorem zadd_out {Z H : Hp} {fp : List Addr} {a : Addr} (h : a ∉ fp) : zadd Z H fp a = Z a := if_neg h
theorem zadd_sm {Z H : Hp} {fp : List Addr} (h : ∀ a ∈ fp, Z a = none) : Sm Z (zadd Z H fp) := fun a o e => by
  by_cases ha : a ∈ fp
  · rw [h a ha] at e; cases e
  · rw [zadd_out ha]; exact .inl e
theorem zadd_sub {Z H : Hp} {fp : List Addr} (s : Sub Z H) : Sub (zadd Z H fp) H := fun a o e => by
  by_cases ha : a ∈ fp
  · rw [zadd_in ha] at e; exact .inl e
  · rw [zadd_out ha] at e; exact s a o e
end Z

namespace Z
open PySem L2

theorem LR.get2 {α β : Type} {R : α → β → List Addr → Prop} : ∀ {as : List α} {bs : List β} {fp : List Addr} {i : Nat} {a : α}, LR R as bs fp → as[i]? = some a → ∃ b g1 f g2, bs[i]? = some b ∧ fp = g1 ++ f ++ g2 ∧ R a b f ∧
    ∀ (R' : α → β → List Addr → Prop) a' b' f', (∀ x y g, (∀ z ∈ g, z ∈ g1 ∨ z ∈ g2) → R x y g → R' x y g) → R' a' b' f' → LR R' (as.set i a') (bs.set i b') (g1 ++ f' ++ g2)
  | a :: as, b :: bs, _, 0, x, ⟨f, g, e, h1, h2⟩, hi => by
    cases hi
    exact ⟨b, [], f, g, rfl, e, h1, fun R' a' b' f' k h => ⟨f', g, rfl, h, LR.imp h2 fun x y g' hg _ r => k x y g' (fun z hz => .inr (hg z hz)) r⟩⟩
  | a :: as, b :: bs, _, i + 1, x, ⟨f, g, e, h1, h2⟩, hi => by
    obtain ⟨y, g1, f', g2, e1, e2, r, k⟩ := LR.get2 (i := i) h2 (by simpa using hi)
    refine ⟨y, f ++ g1, f', g2, by simpa using e1, by rw [e, e2]; simp [List.append_assoc], r, fun R' a' b' f'' kk h => ⟨f, _, by simp [List.append_assoc], kk _ _ _ (fun z hz => .inl (List.mem_append_left _ hz)) h1, k R' a' b' f'' (fun x y g hg r => kk x y g (fun z hz => (hg z hz).imp (List.mem_append_right _) id) r) h⟩⟩
  | [], _, _, i, _, _, hi => by simp at hi
  | _ :: _, [], _, _, _, h, _ => h.elim
theorem set_same {α : Type} : ∀ {l : List α} {i : Nat} {x : α}, l[i]? = some x → l.set i x = l
  | a :: l, 0, x, h => by cases h; rfl
  | a :: l, i + 1, x, h => by
    have := set_same (l := l) (i := i) (x := x) (by simpa using h)
    simp [this]
  | [], i, x, h => by simp at h

/-! ### the world -/
def CeR (c : Zc) (vc : Nat → Option V) (Z H : Hp) : Ce → Option V → List Addr → Prop
  | .un, _, fp => fp = []
  | .ow d n, ov, fp => ∃ v, ov = some v ∧ RT c Z H n d v fp
  | .pa j, ov, fp => fp = [] ∧ ∃ v, ov = some v ∧ vc j = some v

structure Wl (c : Zc) (L : Nat) (vc : Nat → Option V) (Z H : Hp) (σ : St) (vx : List (Option V)) (st tx : S) (fp : List Addr) : Prop where
  len : σ.length = L
  hst : L ≤ st.length
  hvc : ∀ j v, vc j = some v → L ≤ j ∧ vx[j - L]? = some (some v)
  sub : Sub Z H
  lr : LR (CeR c vc Z H) (st ++ tx) (σ ++ vx) fp
  nd : fp.Nodup
  dj : ∀ a ∈ fp, Z a = none

structure Stp (fp : List Addr) (Z H : Hp) (fp' : List Addr) (Z' H' : Hp) : Prop where
  zz : Sm Z Z'
  hh : ∀ a o, H a = some o → a ∉ fp → Z a = none → H' a = some o
  nn : ∀ a, H a ≠ none → H' a ≠ none
  ff : ∀ a ∈ fp', a ∈ fp ∨ H a = none
  zn : ∀ a, Z' a ≠ none → Z a ≠ none ∨ a ∈ fp ∨ H a = none
theorem Stp.refl {fp : List Addr} {Z H : Hp} : Stp fp Z H fp Z H := ⟨Sm.refl _, fun _ _ h _ _ => h, fun _ h => h, fun _ h => .inl h, fun _ h => .inl h⟩
theorem Stp.less {fp fp' : List Addr} {Z H : Hp} (h : ∀ a ∈ fp', a ∈ fp) : Stp fp Z H fp' Z H := ⟨Sm.refl _, fun _ _ h _ _ => h, fun _ h => h, fun _ k => .inl (h _ k), fun _ h => .inl h⟩
theorem Stp.trans {fp fp1 fp2 : List Addr} {Z H Z1 H1 Z2 H2 : Hp} (h : Stp fp Z H fp1 Z1 H1) (k : Stp fp1 Z1 H1 fp2 Z2 H2) : Stp fp Z H fp2 Z2 H2 := by
  have back : ∀ a, H1 a = none → H a = none := fun a e => by
    cases q : H a with
    | none => rfl
    | some o => exact absurd e (h.nn a (by rw [q]; exact fun z => nomatch z))
  refine ⟨h.zz.trans k.zz, fun a o e ha hz => k.hh a o (h.hh a o e ha hz) (fun z => ?_) ?_, fun a e => k.nn a (h.nn a e), fun a ha => ?_, fun a e => ?_⟩
  · rcases h.ff a z with z | z
    · exact ha z
    · rw [z] at e; cases e
  · cases q : Z1 a with
    | none => rfl
    | some u =>
      rcases h.zn a (by rw [q]; exact fun z => nomatch z) with z | z | z
      · exact absurd hz z
      · exact absurd z ha
      · rw [z] at e; cases e
  · rcases k.ff a ha with z | z
    · exact h.ff a z
    · exact .inr (back a z)
  · rcases k.zn a e with z | z | z
    · exact h.zn a z
    · exact .inr (h.ff a z)
    · exact .inr (.inr (back a z))

section
variable {c : Zc} {L : Nat} {vc : Nat → Option V} {Z H Z' H' : Hp} {σ : St} {vx : List (Option V)} {st tx : S} {fp : List Addr}

theorem CeR.stay (sz : Sm Z Z') {x : Ce} {ov : Option V} {f : List Addr} (h : CeR c vc Z H x ov f) (k : ∀ a ∈ f, H' a = H a) : CeR c vc Z' H' x ov f := by
  cases x with
  | un => exact h
  | ow d n =>
    obtain ⟨v, e, r⟩ := h
    exact ⟨v, e, r.stay sz k⟩
  | pa j => exact h
theorem CeR.there {x : Ce} {ov : Option V} {f : List Addr} (h : CeR c vc Z H x ov f) : ∀ a ∈ f, H a ≠ none := by
  cases x with
  | un => intro a ha; rw [show f = [] from h] at ha; cases ha
  | ow d n =>
    obtain ⟨v, e, r⟩ := h
    exact r.there
  | pa j => intro a ha; rw [h.1] at ha; cases ha
theorem Wl.there (w : Wl c L vc Z H σ vx st tx fp) : ∀ a ∈ fp, H a ≠ none := LR.mem w.lr fun _ _ _ h => CeR.there h

/-- an index changes what it holds; new things may be laid -/
theorem Wl.upd (w : Wl c L vc Z H σ vx st tx fp) {i : Nat} {x y : Ce} (hi : st[i]? = some x) :
    ∃ ov g1 f g2, (σ ++ vx)[i]? = some ov ∧ fp = g1 ++ f ++ g2 ∧ CeR c vc Z H x ov f ∧
      ∀ (Z' H' : Hp) (y : Ce) (f' : List Addr), Sm Z Z' → Sub Z' H' → (∀ a ∈ fp, a ∉ f → H' a = H a) → CeR c vc Z' H' y ov f' → (∀ a ∈ f', a ∈ f ∨ H a = none) → (∀ a, Z' a ≠ none → Z a ≠ none ∨ a ∈ f ∨ H a = none) →
        f'.Nodup → (∀ a ∈ f', Z' a = none) → Wl c L vc Z' H' σ vx (st.set i y) tx (g1 ++ f' ++ g2) := by
  have hil : i < st.length := (List.getElem?_eq_some_iff.mp hi).1
  have hi' : (st ++ tx)[i]? = some x := by rw [List.getElem?_append_left hil]; exact hi
  obtain ⟨ov, g1, f, g2, e1, e2, r, k⟩ := LR.get2 w.lr hi'
  refine ⟨ov, g1, f, g2, e1, e2, r, fun Z' H' y f' sz sb hs r' hf hz nd dj => ?_⟩
  have nd0 := w.nd
  rw [e2] at nd0
  have n1 := List.nodup_append.mp nd0
  have n2 := List.nodup_append.mp n1.1
  have d1 : ∀ a ∈ g1, a ∉ f := fun a ha hb => (n2.2.2 a ha a hb) rfl
  have d2 : ∀ a ∈ g2, a ∉ f := fun a ha hb => (n1.2.2 a (List.mem_append_right _ hb) a ha) rfl
  have m1 : ∀ a ∈ g1, a ∈ fp := fun a ha => by rw [e2]; exact List.mem_append_left _ (List.mem_append_left _ ha)
  have m2 : ∀ a ∈ g2, a ∈ fp := fun a ha => by rw [e2]; exact List.mem_append_right _ ha
  have mf : ∀ a ∈ f, a ∈ fp := fun a ha => by rw [e2]; exact List.mem_append_left _ (List.mem_append_right _ ha)
  have fo : ∀ a ∈ f', a ∈ fp → a ∈ f := fun a ha hb => by
    rcases hf a ha with z | z
    · exact z
    · exact absurd z (w.there a hb)
  refine ⟨w.len, by rw [List.length_set]; exact w.hst, w.hvc, sb, ?_, ?_, ?_⟩
  · have q := k (CeR c vc Z' H') y ov f' (fun x y g hg r0 => CeR.stay sz r0 fun z hz => (hg z hz).elim (fun q => hs z (m1 z q) (d1 z q)) fun q => hs z (m2 z q) (d2 z q)) r'
    rw [List.set_append_left _ _ hil, set_same e1] at q
    exact q
  · have x1 : ∀ a ∈ g1, a ∉ f' := fun a ha hb => d1 a ha (fo a hb (m1 a ha))
    have x2 : ∀ a ∈ g2, a ∉ f' := fun a ha hb => d2 a ha (fo a hb (m2 a ha))
    refine List.nodup_append.mpr ⟨List.nodup_append.mpr ⟨n2.1, nd, fun a ha b hb e => x1 a ha (e ▸ hb)⟩, n1.2.1, fun a ha b hb e => ?_⟩
    rcases List.mem_append.mp ha with ha | ha
    · exact n1.2.2 a (List.mem_append_left _ ha) b hb e
    · exact x2 b hb (e ▸ ha)
  · intro a ha
    have old : ∀ a, a ∈ fp → a ∉ f → Z' a = none := fun a h1 h2 => by
      cases q : Z' a with
      | none => rfl
      | some o =>
        rcases hz a (by rw [q]; exact fun z => nomatch z) with z | z | z
        · exact absurd (w.dj a h1) z
        · exact absurd z h2
        · exact absurd z (w.there a h1)
    rcases List.mem_append.mp ha with ha | ha
    · rcases List.mem_append.mp ha with ha | ha
      · exact old a (m1 a ha) (d1 a ha)
      · exact dj a ha
    · exact old a (m2 a ha) (d2 a ha)
end
end Z

namespace Z
open PySem L2
section
variable {c : Zc} {L : Nat} {vc : Nat → Option V} {Z H Z' H' : Hp} {σ : St} {vx : List (Option V)} {st tx : S} {fp : List Addr}

theorem Wl.push (w : Wl c L vc Z H σ vx st tx fp) {d : D} {n : Nat} {v : V} {f : List Addr} (sz : Sm Z Z') (sb : Sub Z' H') (hs : ∀ a ∈ fp, H' a = H a) (r : RT c Z' H' n d v f) (hf : ∀ a ∈ f, a ∉ fp) (hz : ∀ a ∈ fp, Z' a = none) (nd : f.Nodup) (dj : ∀ a ∈ f, Z' a = none) :
    Wl c L vc Z' H' σ (vx ++ [some v]) st (tx ++ [.ow d n]) (fp ++ f) := by
  refine ⟨w.len, w.hst, fun j u e => ?_, sb, ?_, List.nodup_append.mpr ⟨w.nd, nd, fun a ha b hb e => hf b hb (e ▸ ha)⟩, fun a ha => ?_⟩
  · obtain ⟨h1, h2⟩ := w.hvc j u e
    refine ⟨h1, ?_⟩
    rw [List.getElem?_append_left (List.getElem?_eq_some_iff.mp h2).1]
    exact h2
  · rw [← List.append_assoc, ← List.append_assoc]
    refine LR.append (LR.imp w.lr fun a b g hg _ q => CeR.stay sz q fun x hx => hs x (hg x hx)) (LR.one ⟨v, rfl, r⟩)
  · rcases List.mem_append.mp ha with ha | ha
    · exact hz a ha
    · exact dj a ha
/-- a frozen value more -/
theorem Wl.pushF (w : Wl c L vc Z H σ vx st tx fp) {d : D} {v : V} (r : RF c Z d v) : Wl c L vc Z H σ (vx ++ [some v]) st (tx ++ [.ow d 0]) fp := by
  have q := w.push (Sm.refl Z) w.sub (fun _ _ => rfl) (f := []) (n := 0) ⟨r, rfl⟩ (fun _ h => nomatch h) w.dj .nil (fun _ h => nomatch h)
  rwa [List.append_nil] at q
theorem Wl.pop {ov : Option V} {y : Ce} (w : Wl c L vc Z H σ (vx ++ [ov]) st (tx ++ [y]) fp) (hvc : ∀ j v, vc j = some v → L ≤ j ∧ vx[j - L]? = some (some v)) :
    ∃ g f, fp = g ++ f ∧ CeR c vc Z H y ov f ∧ Wl c L vc Z H σ vx st tx g := by
  have lr := w.lr
  rw [← List.append_assoc, ← List.append_assoc] at lr
  have hl : (st ++ tx).length = (σ ++ vx).length := by
    have := lr.len
    simp only [List.length_append, List.length_cons, List.length_nil] at this ⊢
    omega
  obtain ⟨g, f, e, h1, h2⟩ := LR.split hl lr
  obtain ⟨b, e1, r⟩ := LR.of_one h2
  cases e1
  have nd := w.nd
  rw [e] at nd
  exact ⟨g, f, e, r, w.len, w.hst, hvc, w.sub, h1, (List.nodup_append.mp nd).1, fun a ha => w.dj a (by rw [e]; exact List.mem_append_left _ ha)⟩
theorem Wl.pop' {ov : Option V} {y : Ce} (w : Wl c L vc Z H σ (vx ++ [ov]) st (tx ++ [y]) fp) (hvc : ∀ j v, vc j = some v → L ≤ j ∧ vx[j - L]? = some (some v)) :
    ∃ g, (∀ a ∈ g, a ∈ fp) ∧ Wl c L vc Z H σ vx st tx g := by
  obtain ⟨g, f, e, _, w'⟩ := w.pop hvc
  exact ⟨g, fun a ha => by rw [e]; exact List.mem_append_left _ ha, w'⟩
/-- many -/
theorem Wl.pops : ∀ {vy : List (Option V)} {ty : S} {fp : List Addr}, vy.length = ty.length → Wl c L vc Z H σ (vx ++ vy) st (tx ++ ty) fp → (∀ j v, vc j = some v → L ≤ j ∧ vx[j - L]? = some (some v)) →
    ∃ g, (∀ a ∈ g, a ∈ fp) ∧ Wl c L vc Z H σ vx st tx g := by
  intro vy ty fp hl w hvc
  have lr := w.lr
  rw [← List.append_assoc, ← List.append_assoc] at lr
  have hl' : (st ++ tx).length = (σ ++ vx).length := by
    have := lr.len
    simp only [List.length_append] at this ⊢
    omega
  obtain ⟨g, f, e, h1, h2⟩ := LR.split hl' lr
  have nd := w.nd
  rw [e] at nd
  exact ⟨g, fun a ha => by rw [e]; exact List.mem_append_left _ ha, w.len, w.hst, hvc, w.sub, h1, (List.nodup_append.mp nd).1, fun a ha => w.dj a (by rw [e]; exact List.mem_append_left _ ha)⟩
end

/-! ### the mirrors' monad -/
inductive R (α : Type) where
  | ok (a : α) (s : S) | ex (x : Ex) (s : S) | no
abbrev M (α : Type) := S → R α
@[inline] def M.pure {α : Type} (a : α) : M α := fun s => .ok a s
@[inline] def M.bind {α β : Type} (m : M α) (f : α → M β) : M β := fun s => match m s with
  | .ok a s' => f a s'
  | .ex x s' => .ex x s'
  | .no => .no
instance : Monad M where
  pure := M.pure
  bind := M.bind
def lft {α : Type} : Option α → M α
  | some a => fun s => .ok a s
  | none => fun _ => .no

/-- where slot i's tree stands -/
def loc (s : S) (i : Nat) : Nat := match s[i]? with
  | some (.pa j) => j
  | _ => i
def at' (s : S) (j : Nat) : Option T := match s[j]? with
  | some (.ow d n) => some (d, n)
  | _ => none
def tre (s : S) (i : Nat) : Option T := at' s (loc s i)

/-! ### what a mirror promises -/
def IsX (c : Zc) (Z H : Hp) (x : Ex) (cls : Value) (dd : Option Addr) : Prop :=
  (∃ A, c.cl x.C = some A ∧ cls = .ref A) ∧ (x.fs = [] ∨ ∃ d vs, dd = some d ∧ Z d = some (.xd vs) ∧ x.fs.map (·.1) = vs.map (·.1) ∧ ∀ (i : Nat) a v, (x.fs.map (·.2))[i]? = some a → (vs.map (·.2))[i]? = some v → RF c Z a v)

section
variable (c : Zc) (L : Nat) (W : WX)
/-- of an expression -/
def PoE (vc : Nat → Option V) (Z H : Hp) (σ : St) (vx : List (Option V)) (tx : S) (fp : List Addr) (r : R T) (Q : VK) : Prop := match r with
  | .ok t s => ∀ Z' H' v fp', Stp fp Z H fp' Z' H' → Wl c L vc Z' H' σ (vx ++ [some v]) s (tx ++ [.ow t.1 t.2]) fp' → Q v H'
  | .ex x s => ∀ Z' H' fp' cls dd, Stp fp Z H fp' Z' H' → Wl c L vc Z' H' σ vx s tx fp' → IsX c Z' H' x cls dd → W cls dd σ H'
  | .no => False
def rd (m : M T) : TE := fun σ H Q => ∃ Z vc vx st tx fp, Wl c L vc Z H σ vx st tx fp ∧ PoE c L W vc Z H σ vx tx fp (m st) Q
/-- of a test -/
def PoT (vc : Nat → Option V) (Z H : Hp) (σ : St) (vx : List (Option V)) (tx : S) (fp : List Addr) (r : R Bool) (Q : Bool → Hp → Prop) : Prop := match r with
  | .ok b s => ∀ Z' H' fp', Stp fp Z H fp' Z' H' → Wl c L vc Z' H' σ vx s tx fp' → Q b H'
  | .ex x s => ∀ Z' H' fp' cls dd, Stp fp Z H fp' Z' H' → Wl c L vc Z' H' σ vx s tx fp' → IsX c Z' H' x cls dd → W cls dd σ H'
  | .no => False
def rdT (m : M Bool) : TT := fun σ H Q => ∃ Z vc vx st tx fp, Wl c L vc Z H σ vx st tx fp ∧ PoT c L W vc Z H σ vx tx fp (m st) Q
end

inductive Opd where
  | nm (i : Nat) | tm (m : M T)
def Opd.ev : Opd → M (Option T)
  | .nm i => fun s => match tre s i with
    | some _ => .ok none s
    | none => .no
  | .tm m => fun s => match m s with
    | .ok t s' => .ok (some t) s'
    | .ex x s' => .ex x s'
    | .no => .no
def evs : List Opd → M (List (Option T))
  | [] => fun s => .ok [] s
  | o :: os => fun s => match o.ev s with
    | .ok h s' => match evs os s' with
      | .ok hs s'' => .ok (h :: hs) s''
      | .ex x s'' => .ex x s''
      | .no => .no
    | .ex x s' => .ex x s'
    | .no => .no
def gets : List Opd → List (Option T) → S → Option (List T)
  | .nm i :: os, none :: hs, s => match tre s i with
    | some t => (gets os hs s).map (t :: ·)
    | none => none
  | .tm _ :: os, some t :: hs, s => (gets os hs s).map (t :: ·)
  | [], [], _ => some []
  | _, _, _ => none
/-- an operation on values that makes at most new things -/
def mOp (f : List T → Option T) (os : List Opd) : M T := fun s => match evs os s with
  | .ok hs s' => match gets os hs s' with
    | some ts => match f ts with
      | some t => .ok t s'
      | none => .no
    | none => .no
  | .ex x s' => .ex x s'
  | .no => .no

section
variable {c : Zc} {L : Nat} {W : WX} {vc : Nat → Option V} {Z H Z' H' : Hp} {σ : St} {vx : List (Option V)} {st tx : S} {fp : List Addr}
def tO (c : Zc) (L : Nat) (W : WX) : Opd → TE
  | .nm i => fun σ H Q => i < L ∧ tVar i σ H Q
  | .tm m => rd c L W m
def tOs (c : Zc) (L : Nat) (W : WX) : List Opd → TA
  | [] => tNil
  | o :: os => tCons (tO c L W o) (tOs c L W os)

/-- the slot's value and its tree -/
theorem Wl.look (w : Wl c L vc Z H σ vx st tx fp) {i : Nat} {t : T} (hi : i < L) (h : tre st i = some t) : ∃ v f, σ[i]? = some (some v) ∧ (σ ++ vx)[loc st i]? = some (some v) ∧ RT c Z H t.2 t.1 v f ∧ (∀ a ∈ f, a ∈ fp) := by
  unfold tre at'  at h
  have e1 : ∀ {x : Ce} {j : Nat}, st[j]? = some x → ∃ ov f, (σ ++ vx)[j]? = some ov ∧ CeR c vc Z H x ov f ∧ ∀ a ∈ f, a ∈ fp := fun {x j} hj => by
    obtain ⟨ov, g1, f, g2, h1, h2, r, _⟩ := w.upd (y := .un) hj
    exact ⟨ov, f, h1, r, fun a ha => by rw [h2]; exact List.mem_append_left _ (List.mem_append_right _ ha)⟩
  have hσ : ∀ {ov : Option V}, (σ ++ vx)[i]? = some ov → σ[i]? = some ov := fun {ov} e => by
    rw [List.getElem?_append_left (by rw [w.len]; exact hi)] at e
    exact e
  cases q : st[i]? with
  | none =>
    have el : loc st i = i := by unfold loc; rw [q]
    rw [el, q] at h
    cases h
  | some x =>
    obtain ⟨ov, f, k1, k2, k3⟩ := e1 q
    cases x with
    | un =>
      have el : loc st i = i := by unfold loc; rw [q]
      rw [el, q] at h
      cases h
    | ow d n =>
      have el : loc st i = i := by unfold loc; rw [q]
      rw [el, q] at h
      cases h
      obtain ⟨v, rfl, r⟩ := k2
      exact ⟨v, f, hσ k1, by rw [el]; exact k1, r, k3⟩
    | pa j =>
      have el : loc st i = j := by unfold loc; rw [q]
      rw [el] at h
      obtain ⟨_, v, rfl, hv⟩ := k2
      obtain ⟨m1, m2⟩ := w.hvc j v hv
      have m3 : (σ ++ vx)[j]? = some (some v) := by rw [List.getElem?_append_right (by rw [w.len]; exact m1), w.len]; exact m2
      cases q2 : st[j]? with
      | none => rw [q2] at h; cases h
      | some y =>
        rw [q2] at h
        cases y with
        | un => cases h
        | pa _ => cases h
        | ow d n =>
          cases h
          obtain ⟨ov2, f2, l1, l2, l3⟩ := e1 q2
          rw [m3] at l1
          cases l1
          obtain ⟨v', e', r⟩ := l2
          cases e'
          exact ⟨v, f2, hσ k1, by rw [el]; exact m3, r, l3⟩

/-- what stands behind the operands -/
inductive HR (σ : St) : List Opd → List (Option T) → List V → List (Option V) → S → Prop where
  | nil : HR σ [] [] [] [] []
  | nm {i : Nat} {v : V} {os hs vs vy ty} (hi : σ[i]? = some (some v)) (h : HR σ os hs vs vy ty) : HR σ (.nm i :: os) (none :: hs) (v :: vs) vy ty
  | tm {m : M T} {t : T} {v : V} {os hs vs vy ty} (h : HR σ os hs vs vy ty) : HR σ (.tm m :: os) (some t :: hs) (v :: vs) (some v :: vy) (.ow t.1 t.2 :: ty)
theorem HR.len {os hs vs vy ty} (h : HR σ os hs vs vy ty) : vy.length = ty.length := by
  induction h with
  | nil => rfl
  | nm _ _ ih => exact ih
  | tm _ ih => simp [ih]

theorem tOs_run {os : List Opd} : ∀ {Z H : Hp} {vx : List (Option V)} {st tx : S} {fp : List Addr} {Q : List V → Hp → Prop}, Wl c L vc Z H σ vx st tx fp → (∀ i, Opd.nm i ∈ os → i < L) →
    (match evs os st with
      | .ok hs s => ∀ Z' H' vs vy ty fp', Stp fp Z H fp' Z' H' → Wl c L vc Z' H' σ (vx ++ vy) s (tx ++ ty) fp' → HR σ os hs vs vy ty → Q vs H'
      | .ex x s => ∀ Z' H' fp' cls dd, Stp fp Z H fp' Z' H' → Wl c L vc Z' H' σ vx s tx fp' → IsX c Z' H' x cls dd → W cls dd σ H'
      | .no => False) → tOs c L W os σ H Q := by
  induction os with
  | nil =>
    intro Z H vx st tx fp Q w _ h
    exact h Z H [] [] [] fp Stp.refl (by simpa using w) .nil
  | cons o os ih =>
    intro Z H vx st tx fp Q w hL h
    have hL' : ∀ i, Opd.nm i ∈ os → i < L := fun i hi => hL i (List.mem_cons_of_mem _ hi)
    cases o with
    | nm i =>
      have hi := hL i List.mem_cons_self
      cases q : tre st i with
      | none => simp only [evs, Opd.ev, q] at h
      | some t =>
        simp only [evs, Opd.ev, q] at h
        obtain ⟨v, f, e1, _, _, _⟩ := w.look hi q
        refine ⟨hi, v, e1, ih w hL' ?_⟩
        cases q2 : evs os st with
        | no => simp only [q2] at h
        | ex x s => simp only [q2] at h; exact h
        | ok hs s =>
          simp only [q2] at h
          intro Z' H' vs vy ty fp' k1 k2 k3
          exact h Z' H' (v :: vs) vy ty fp' k1 k2 (.nm e1 k3)
    | tm m =>
      refine ⟨Z, vc, vx, st, tx, fp, w, ?_⟩
      cases q : m st with
      | no => simp only [evs, Opd.ev, q] at h
      | ex x s =>
        simp only [evs, Opd.ev, q] at h
        exact h
      | ok t s =>
        simp only [evs, Opd.ev, q] at h
        intro Z1 H1 v fp1 s1 w1
        refine ih w1 hL' ?_
        cases q2 : evs os s with
        | no => simp only [q2] at h
        | ex x s' =>
          simp only [q2] at h
          intro Z2 H2 fp2 cls dd s2 w2 x2
          obtain ⟨g, hg, w3⟩ := w2.pop' w.hvc
          exact h Z2 H2 g cls dd ((s1.trans s2).trans (Stp.less hg)) w3 x2
        | ok hs s' =>
          simp only [q2] at h
          intro Z2 H2 vs vy ty fp2 s2 w2 r2
          refine h Z2 H2 (v :: vs) (some v :: vy) (.ow t.1 t.2 :: ty) fp2 (s1.trans s2) ?_ (.tm r2)
          simpa [List.append_assoc] using w2

/-- the operands' trees at the operation -/
def Tre (c : Zc) (Z H : Hp) (fp : List Addr) (v : V) (t : T) : Prop := ∃ f, (∀ a ∈ f, a ∈ fp) ∧ RT c Z H t.2 t.1 v f
theorem HR.trees {os : List Opd} {hs : List (Option T)} {vs : List V} {vy : List (Option V)} {ty : S} (h : HR σ os hs vs vy ty) : ∀ {vx : List (Option V)} {tx : S} {ts : List T}, Wl c L vc Z H σ (vx ++ vy) st (tx ++ ty) fp →
    (st ++ tx).length = (σ ++ vx).length → (∀ i, Opd.nm i ∈ os → i < L) → gets os hs st = some ts → Paired (Tre c Z H fp) vs ts := by
  induction h with
  | nil =>
    intro vx tx ts w hl hL e
    cases e
    exact .nil
  | @nm i v os hs vs vy ty hi h ih =>
    intro vx tx ts w hl hL e
    unfold gets at e
    cases q : tre st i with
    | none => rw [q] at e; cases e
    | some t =>
      rw [q] at e
      cases q2 : gets os hs st with
      | none => rw [q2] at e; cases e
      | some ts' =>
        rw [q2] at e
        cases e
        obtain ⟨v', f, e1, _, r, hf⟩ := w.look (hL i List.mem_cons_self) q
        rw [hi] at e1
        cases e1
        exact .cons ⟨f, hf, r⟩ (ih w hl (fun i hi => hL i (List.mem_cons_of_mem _ hi)) q2)
  | @tm m t v os hs vs vy ty h ih =>
    intro vx tx ts w hl hL e
    unfold gets at e
    cases q2 : gets os hs st with
    | none => rw [q2] at e; cases e
    | some ts' =>
      rw [q2] at e
      cases e
      have lr := w.lr
      rw [← List.append_assoc, ← List.append_assoc] at lr
      have i1 : ((st ++ tx) ++ Ce.ow t.1 t.2 :: ty)[(st ++ tx).length]? = some (Ce.ow t.1 t.2) := by simp
      have i2 : ((σ ++ vx) ++ some v :: vy)[(st ++ tx).length]? = some (some v) := by rw [hl]; simp
      obtain ⟨f, hf, v', e', r⟩ := LR.items lr _ _ _ i1 i2
      cases e'
      have w' : Wl c L vc Z H σ ((vx ++ [some v]) ++ vy) st ((tx ++ [Ce.ow t.1 t.2]) ++ ty) fp := by simpa [List.append_assoc] using w
      exact .cons ⟨f, hf, r⟩ (ih w' (by simp at hl ⊢; omega) (fun i hi => hL i (List.mem_cons_of_mem _ hi)) q2)

/-- new things alone -/
structure Al (Z H Z' H' : Hp) (g : List Addr) : Prop where
  sz : Sm Z Z'
  sb : Sub Z' H'
  hh : ∀ a o, H a = some o → Z a = none → H' a = some o
  gn : ∀ a ∈ g, H a = none
  zn : ∀ a, Z' a ≠ none → Z a ≠ none ∨ H a = none
  nd : g.Nodup
  dj : ∀ a ∈ g, Z' a = none
theorem Al.nn {g : List Addr} (al : Al Z H Z' H' g) {a : Addr} (h : H a ≠ none) : H' a ≠ none := by
  cases q : Z a with
  | some o =>
    cases q2 : Z' a with
    | some o' => exact al.sb.some q2
    | none => exact absurd q2 (al.sz.some q)
  | none =>
    cases e : H a with
    | none => exact absurd e h
    | some o => rw [al.hh a o e q]; exact fun z => nomatch z
theorem Al.refl (s : Sub Z H) : Al Z H Z H [] := ⟨Sm.refl _, s, fun _ _ h _ => h, fun _ h => (nomatch h), fun _ h => .inl h, .nil, fun _ h => (nomatch h)⟩
/-- an operation's rule by trees -/
def RuZ (c : Zc) (r : List V → Hp → VK → Prop) (f : List T → Option T) : Prop := ∀ (Z H : Hp) (fp : List Addr) (vs : List V) (ts : List T) (t : T) (Q : VK), f ts = some t → Sub Z H → Paired (Tre c Z H fp) vs ts →
  (∀ Z' H' v g, Al Z H Z' H' g → RT c Z' H' t.2 t.1 v g → Q v H') → r vs H Q

theorem run_op {r : List V → Hp → VK → Prop} {f : List T → Option T} (hr : RuZ c r f) {os : List Opd} (hL : ∀ i, Opd.nm i ∈ os → i < L) {Q : VK} (h : rd c L W (mOp f os) σ H Q) : tOs c L W os σ H (fun vs H1 => r vs H1 Q) := by
  obtain ⟨Z, vc, vx, st, tx, fp, w, h⟩ := h
  refine tOs_run w hL ?_
  unfold mOp at h
  cases q : evs os st with
  | no => simp only [q] at h; exact h.elim
  | ex x s => simp only [q] at h; exact h
  | ok hs s =>
    simp only [q] at h
    intro Z1 H1 vs vy ty fp1 s1 w1 r1
    cases q2 : gets os hs s with
    | none => simp only [q2] at h; exact h.elim
    | some ts =>
      simp only [q2] at h
      cases q3 : f ts with
      | none => simp only [q3] at h; exact h.elim
      | some t =>
        simp only [q3] at h
        have hl : (s ++ tx).length = (σ ++ vx).length := by
          have e := w1.lr.len
          have e2 := r1.len
          simp only [List.length_append] at e ⊢
          omega
        refine hr Z1 H1 fp1 vs ts t Q q3 w1.sub (r1.trees w1 hl hL q2) fun Z2 H2 v g al rt => ?_
        obtain ⟨g1, hg1, w2⟩ := Wl.pops r1.len w1 w.hvc
        have old : ∀ a ∈ g1, H1 a ≠ none := w2.there
        have keep : ∀ a ∈ g1, H2 a = H1 a := fun a ha => by
          cases e : H1 a with
          | none => exact absurd e (old a ha)
          | some o => exact al.hh a o e (w2.dj a ha)
        have w3 := w2.push al.sz al.sb keep rt (fun a ha hb => old a hb (al.gn a ha)) (fun a ha => by
          cases e : Z2 a with
          | none => rfl
          | some o =>
            rcases al.zn a (by rw [e]; exact fun z => nomatch z) with z | z
            · exact absurd (w2.dj a ha) z
            · exact absurd z (old a ha)) al.nd al.dj
        refine h Z2 H2 v (g1 ++ g) (s1.trans ⟨al.sz, fun a o e _ => al.hh a o e, fun a e => al.nn e, fun a ha => ?_, fun a e => ?_⟩) w3
        · rcases List.mem_append.mp ha with ha | ha
          · exact .inl (hg1 a ha)
          · exact .inr (al.gn a ha)
        · rcases al.zn a e with z | z
          · exact .inl z
          · exact .inr (.inr z)
end
end Z

namespace Z
open PySem L2
section
variable {c : Zc} {Z H : Hp} {fp : List Addr} {v : V} {n : Nat}
theorem tre_int {i : Int} (h : Tre c Z H fp v (.int i, n)) : v = .int i := by
  obtain ⟨f, _, r⟩ := h
  cases n with
  | zero => obtain ⟨r, _⟩ := r; cases r; rfl
  | succ n => exact r.1
theorem tre_bl {i : Bool} (h : Tre c Z H fp v (.bl i, n)) : v = .bl i := by
  obtain ⟨f, _, r⟩ := h
  cases n with
  | zero => obtain ⟨r, _⟩ := r; cases r; rfl
  | succ n => exact r.1
theorem tre_str {i : Str} (h : Tre c Z H fp v (.str i, n)) : v = .str i := by
  obtain ⟨f, _, r⟩ := h
  cases n with
  | zero => obtain ⟨r, _⟩ := r; cases r; rfl
  | succ n => exact r.1
theorem tre_non (h : Tre c Z H fp v (.non, n)) : v = .non := by
  obtain ⟨f, _, r⟩ := h
  cases n with
  | zero => obtain ⟨r, _⟩ := r; cases r; rfl
  | succ n => exact r.1
theorem tre_rf {d : D} (h : Tre c Z H fp v (d, 0)) : RF c Z d v := by
  obtain ⟨f, _, r, _⟩ := h
  exact r
theorem rf_tre {d : D} (h : RF c Z d v) : Tre c Z H fp v (d, 0) := ⟨[], fun _ h => (nomatch h), h, rfl⟩
theorem tre_lst {xs : List D} (s : Sub Z H) (h : Tre c Z H fp v (.lst xs, n)) : ∃ a vs, v = .ref a ∧ H a = some (.lst vs) ∧ xs.length = vs.length ∧ ∀ (i : Nat) d w, xs[i]? = some d → vs[i]? = some w → Tre c Z H fp w (d, n - 1) := by
  obtain ⟨f, hf, r⟩ := h
  cases n with
  | zero =>
    obtain ⟨r, _⟩ := r
    cases r with
    | lst h hl hx => exact ⟨_, _, rfl, s.get h (fun _ e => nomatch e), hl, fun i d w h1 h2 => rf_tre (hx i d w h1 h2)⟩
  | succ n =>
    obtain ⟨a, vs, g, e, h1, h2, h3⟩ := r
    refine ⟨a, vs, e, h1, h2.len, fun i d w k1 k2 => ?_⟩
    obtain ⟨g', hg, r⟩ := LR.items h2 i d w k1 k2
    exact ⟨g', fun x hx => hf x (by rw [h3]; exact List.mem_cons_of_mem _ (hg x hx)), r⟩
theorem tre_rol {xs : List D} (s : Sub Z H) (h : Tre c Z H fp v (.rol xs, n)) : ∃ a vs, v = .ref a ∧ SqL c.K H a vs ∧ xs.length = vs.length ∧ ∀ (i : Nat) d w, xs[i]? = some d → vs[i]? = some w → RF c Z d w := by
  obtain ⟨f, hf, r⟩ := h
  have r' : RF c Z (.rol xs) v := by
    cases n with
    | zero => exact r.1
    | succ n => exact r.1
  cases r' with
  | rol h hl hx => exact ⟨_, _, rfl, s.sqL h, hl, hx⟩
theorem tre_tup {xs : List D} (s : Sub Z H) (h : Tre c Z H fp v (.tup xs, n)) : ∃ a vs, v = .ref a ∧ SqT c.K H a vs ∧ xs.length = vs.length ∧ ∀ (i : Nat) d w, xs[i]? = some d → vs[i]? = some w → Tre c Z H fp w (d, n - 1) := by
  obtain ⟨f, hf, r⟩ := h
  cases n with
  | zero =>
    obtain ⟨r, _⟩ := r
    cases r with
    | tup h hl hx => exact ⟨_, _, rfl, s.sqT h, hl, fun i d w h1 h2 => rf_tre (hx i d w h1 h2)⟩
  | succ n =>
    obtain ⟨a, vs, g, e, h1, h2, h3⟩ := r
    refine ⟨a, vs, e, .inl (.inl h1), h2.len, fun i d w k1 k2 => ?_⟩
    obtain ⟨g', hg, r⟩ := LR.items h2 i d w k1 k2
    exact ⟨g', fun x hx => hf x (by rw [h3]; exact List.mem_cons_of_mem _ (hg x hx)), r⟩
theorem tre_dct {kvs : List (Key × D)} (s : Sub Z H) (h : Tre c Z H fp v (.dct kvs, n)) : ∃ a vs, v = .ref a ∧ Rd H a (.dK vs) ∧ kvs.map (·.1) = vs.map (·.1) ∧ ∀ (i : Nat) d w, (kvs.map (·.2))[i]? = some d → (vs.map (·.2))[i]? = some w → Tre c Z H fp w (d, n - 1) := by
  obtain ⟨f, hf, r⟩ := h
  cases n with
  | zero =>
    obtain ⟨r, _⟩ := r
    cases r with
    | dct h hl hx => exact ⟨_, _, rfl, s.rd h, hl, fun i d w h1 h2 => rf_tre (hx i d w h1 h2)⟩
  | succ n =>
    obtain ⟨a, vs, g, e, h1, h0, h2, h3⟩ := r
    refine ⟨a, vs, e, .inl h1, h0, fun i d w k1 k2 => ?_⟩
    obtain ⟨g', hg, r⟩ := LR.items h2 i d w k1 k2
    exact ⟨g', fun x hx => hf x (by rw [h3]; exact List.mem_cons_of_mem _ (hg x hx)), r⟩
/-- frozen items -/
theorem lr0 : ∀ {xs : List D} {vs : List V}, xs.length = vs.length → (∀ (i : Nat) d w, xs[i]? = some d → vs[i]? = some w → RF c Z d w) → LR (RT c Z H 0) xs vs []
  | [], [], _, _ => rfl
  | x :: xs, v :: vs, hl, h => ⟨[], [], rfl, ⟨h 0 x v rfl rfl, rfl⟩, lr0 (Nat.succ.inj hl) fun i d w h1 h2 => h (i + 1) d w (by simpa using h1) (by simpa using h2)⟩
  | [], _ :: _, hl, _ => by cases hl
  | _ :: _, [], hl, _ => by cases hl
theorem sub_upd (s : Sub Z H) {p : Addr} {o : HO} (hp : H p = none) : Sub Z (upd H p o) := fun a u e => by
  have ne : a ≠ p := fun z => by subst z; exact absurd hp (s.some e)
  rw [upd_ne ne]
  exact s a u e
theorem al_new (s : Sub Z H) {p : Addr} {o : HO} (hp : H p = none) : Al Z H Z (upd H p o) [p] :=
  ⟨Sm.refl _, sub_upd s hp, fun a u e _ => by rw [upd_ne (ne_of_none e hp)]; exact e, fun a ha => by rw [List.mem_singleton.mp ha]; exact hp, fun _ h => .inl h, List.nodup_cons.mpr ⟨fun h => (nomatch h), .nil⟩, fun a ha => by rw [List.mem_singleton.mp ha]; exact s.none hp⟩
/-- .. frozen at once -/
theorem al_newF (s : Sub Z H) {p : Addr} {o : HO} (hp : H p = none) : Al Z H (upd Z p o) (upd H p o) [] := by
  refine ⟨fun a u e => ?_, fun a u e => ?_, fun a u e _ => by rw [upd_ne (ne_of_none e hp)]; exact e, fun _ h => (nomatch h), fun a e => ?_, .nil, fun _ h => (nomatch h)⟩
  · rw [upd_ne (ne_of_none e (s.none hp))]; exact .inl e
  · by_cases q : a = p
    · subst q
      rw [upd_same] at e ⊢
      exact .inl e
    · rw [upd_ne q] at e ⊢
      exact s a u e
  · by_cases q : a = p
    · subst q; exact .inr hp
    · rw [upd_ne q] at e; exact .inl e
/-- a new list of frozen items -/
theorem rt_lst {vs : List V} {xs : List D} {H : Hp} {p : Addr} (hl : xs.length = vs.length) (hx : ∀ (i : Nat) d w, xs[i]? = some d → vs[i]? = some w → RF c Z d w) : RT c Z (upd H p (.lst vs)) 1 (.lst xs) (.ref p) [p] :=
  ⟨p, vs, [], rfl, upd_same, lr0 hl hx, rfl⟩
theorem rf_tup {vs : List V} {xs : List D} {p : Addr} (s : Z p = none) (hl : xs.length = vs.length) (hx : ∀ (i : Nat) d w, xs[i]? = some d → vs[i]? = some w → RF c Z d w) : RF c (upd Z p (.tup vs)) (.tup xs) (.ref p) :=
  .tup (.inl (.inl upd_same)) hl fun i d w h1 h2 => (hx i d w h1 h2).mono fun a u e => by rw [upd_ne (ne_of_none e s)]; exact .inl e
/-- what is handed to the rest: a frozen value, nothing made -/
theorem kF {Q : VK} {d : D} (s : Sub Z H) (k : ∀ Z' H' v g, Al Z H Z' H' g → RT c Z' H' 0 d v g → Q v H') (r : RF c Z d v) : Q v H := k Z H v [] (Al.refl s) ⟨r, rfl⟩
theorem kL {Q : VK} {xs : List D} {vs : List V} (s : Sub Z H) (k : ∀ Z' H' v g, Al Z H Z' H' g → RT c Z' H' 1 (.lst xs) v g → Q v H') (hl : xs.length = vs.length) (hx : ∀ (i : Nat) d w, xs[i]? = some d → vs[i]? = some w → RF c Z d w) (p : Addr) (hp : H p = none) : Q (.ref p) (upd H p (.lst vs)) :=
  k Z _ _ [p] (al_new s hp) (rt_lst hl hx)
theorem kT {Q : VK} {xs : List D} {vs : List V} (s : Sub Z H) (k : ∀ Z' H' v g, Al Z H Z' H' g → RT c Z' H' 0 (.tup xs) v g → Q v H') (hl : xs.length = vs.length) (hx : ∀ (i : Nat) d w, xs[i]? = some d → vs[i]? = some w → RF c Z d w) (p : Addr) (hp : H p = none) : Q (.ref p) (upd H p (.tup vs)) :=
  k _ _ _ [] (al_newF s hp) ⟨rf_tup (s.none hp) hl hx, rfl⟩
end

/-! ### operations by trees -/
abbrev F := List T → Option T
def r1 (r : V → Hp → VK → Prop) : List V → Hp → VK → Prop := fun vs H Q => match vs with
  | [x] => r x H Q
  | _ => False
def r2 (r : V → V → Hp → VK → Prop) : List V → Hp → VK → Prop := fun vs H Q => match vs with
  | [x, y] => r x y H Q
  | _ => False
theorem tre2 {c : Zc} {Z H : Hp} {fp : List Addr} {vs : List V} {s t : T} (h : Paired (Tre c Z H fp) vs [s, t]) : ∃ x y, vs = [x, y] ∧ Tre c Z H fp x s ∧ Tre c Z H fp y t := by
  cases h with
  | cons h1 h2 =>
    cases h2 with
    | cons h3 h4 =>
      cases h4
      exact ⟨_, _, rfl, h1, h3⟩
theorem tre1 {c : Zc} {Z H : Hp} {fp : List Addr} {vs : List V} {s : T} (h : Paired (Tre c Z H fp) vs [s]) : ∃ x, vs = [x] ∧ Tre c Z H fp x s := by
  cases h with
  | cons h1 h2 =>
    cases h2
    exact ⟨_, rfl, h1⟩

section
variable {c : Zc}
/-- two ints -/
def fI (C : Int → Int → Prop) [∀ i j, Decidable (C i j)] (g : Int → Int → D) : F
  | [(.int i, _), (.int j, _)] => if C i j then some (g i j, 0) else none
  | _ => none
theorem ruI {C : Int → Int → Prop} [∀ i j, Decidable (C i j)] {g : Int → Int → D} {g' : Int → Int → V} (hg : ∀ Z i j, RF c Z (g i j) (g' i j)) : RuZ c (r2 (rI C g')) (fI C g) := by
  intro Z H fp vs ts t Q e s h k
  match ts, e with
  | [(.int i, _), (.int j, _)], e =>
    simp only [fI] at e
    obtain ⟨x, y, rfl, hx, hy⟩ := tre2 h
    by_cases q : C i j
    · rw [if_pos q] at e
      cases e
      exact ⟨i, j, tre_int hx, tre_int hy, q, kF s k (hg Z i j)⟩
    · rw [if_neg q] at e
      cases e
def fI0 (g : Int → Int → D) : F
  | [(.int i, _), (.int j, _)] => some (g i j, 0)
  | _ => none
theorem ruI0 {g : Int → Int → D} {g' : Int → Int → V} (hg : ∀ Z i j, RF c Z (g i j) (g' i j)) : RuZ c (r2 (rI0 g')) (fI0 g) := by
  intro Z H fp vs ts t Q e s h k
  match ts, e with
  | [(.int i, _), (.int j, _)], e =>
    cases e
    obtain ⟨x, y, rfl, hx, hy⟩ := tre2 h
    exact ⟨i, j, tre_int hx, tre_int hy, kF s k (hg Z i j)⟩
/-- either rule -/
def fOr (f g : F) : F := fun ts => match f ts with
  | some t => some t
  | none => g ts
theorem ruOr2 {r r' : V → V → Hp → VK → Prop} {f g : F} (h : RuZ c (r2 r) f) (h' : RuZ c (r2 r') g) : RuZ c (r2 fun x y H Q => r x y H Q ∨ r' x y H Q) (fOr f g) := by
  intro Z H fp vs ts t Q e s hp k
  have two : ∀ {r : V → V → Hp → VK → Prop} {vs : List V}, r2 r vs H Q → ∃ x y, vs = [x, y] ∧ r x y H Q := fun {r vs} q => by
    match vs, q with
    | [x, y], q => exact ⟨x, y, rfl, q⟩
  unfold fOr at e
  cases q : f ts with
  | some u =>
    rw [q] at e
    cases e
    obtain ⟨x, y, rfl, z⟩ := two (h Z H fp vs ts t Q q s hp k)
    exact .inl z
  | none =>
    rw [q] at e
    obtain ⟨x, y, rfl, z⟩ := two (h' Z H fp vs ts t Q e s hp k)
    exact .inr z
theorem ruOr {r r' : List V → Hp → VK → Prop} {f g : F} (h : RuZ c r f) (h' : RuZ c r' g) : RuZ c (fun vs H Q => r vs H Q ∨ r' vs H Q) (fOr f g) := by
  intro Z H fp vs ts t Q e s hp k
  unfold fOr at e
  cases q : f ts with
  | some u =>
    rw [q] at e
    cases e
    exact .inl (h Z H fp vs ts t Q q s hp k)
  | none =>
    rw [q] at e
    exact .inr (h' Z H fp vs ts t Q e s hp k)

/-! the length of a list or text that the mirrors let by -/
def big : Nat := 16000000
theorem big_le : big ≤ sizeLine := by decide
/-- x + y of texts -/
def fAddS : F
  | [(.str a, _), (.str b, _)] => if a.length + b.length ≤ big then some (.str (a ++ b), 0) else none
  | _ => none
theorem ruAddS : RuZ c (r2 fun x y H Q => ∃ i j, x = .str i ∧ y = .str j ∧ i.length + j.length ≤ sizeLine ∧ Q (.str (i ++ j)) H) fAddS := by
  intro Z H fp vs ts t Q e s h k
  match ts, e with
  | [(.str a, _), (.str b, _)], e =>
    obtain ⟨x, y, rfl, hx, hy⟩ := tre2 h
    simp only [fAddS] at e
    by_cases q : a.length + b.length ≤ big
    · rw [if_pos q] at e
      cases e
      exact ⟨a, b, tre_str hx, tre_str hy, Nat.le_trans q big_le, kF s k .str⟩
    · rw [if_neg q] at e
      cases e
theorem items_app {Z : Hp} {xs ys : List D} {vs ws : List V} (hl : xs.length = vs.length) (h1 : ∀ (i : Nat) d w, xs[i]? = some d → vs[i]? = some w → RF c Z d w) (h2 : ∀ (i : Nat) d w, ys[i]? = some d → ws[i]? = some w → RF c Z d w) :
    ∀ (i : Nat) d w, (xs ++ ys)[i]? = some d → (vs ++ ws)[i]? = some w → RF c Z d w := fun i d w hd hw => by
  by_cases q : i < xs.length
  · rw [List.getElem?_append_left q] at hd
    rw [List.getElem?_append_left (by omega)] at hw
    exact h1 i d w hd hw
  · rw [List.getElem?_append_right (by omega)] at hd
    rw [List.getElem?_append_right (by omega), ← hl] at hw
    exact h2 _ d w hd hw
end
end Z

namespace Z
open PySem L2
section
variable {c : Zc} {L : Nat} {W : WX} {vc : Nat → Option V} {Z H Z' H' : Hp} {σ : St} {vx : List (Option V)} {st tx : S} {fp : List Addr}

/-- the last values are frozen and taken off -/
theorem Wl.frz {ts : List T} {vs : List V} (w : Wl c L vc Z H σ (vx ++ vs.map some) st (tx ++ ts.map fun t => .ow t.1 t.2) fp) (hvc : ∀ j v, vc j = some v → L ≤ j ∧ vx[j - L]? = some (some v)) (hl : vs.length = ts.length) :
    ∃ Z' g, Wl c L vc Z' H σ vx st tx g ∧ Stp fp Z H g Z' H ∧ ∀ (i : Nat) d v, (ts.map (·.1))[i]? = some d → vs[i]? = some v → RF c Z' d v := by
  have lr := w.lr
  rw [← List.append_assoc, ← List.append_assoc] at lr
  have hl' : (st ++ tx).length = (σ ++ vx).length := by
    have := lr.len
    simp only [List.length_append, List.length_map] at this ⊢
    omega
  obtain ⟨g, f, e, h1, h2⟩ := LR.split hl' lr
  have nd := w.nd
  rw [e] at nd
  have n1 := List.nodup_append.mp nd
  have df : ∀ a ∈ f, Z a = none := fun a ha => w.dj a (by rw [e]; exact List.mem_append_right _ ha)
  have ng : ∀ a ∈ g, a ∉ f := fun a ha hb => n1.2.2 a ha a hb rfl
  have sz : Sm Z (zadd Z H f) := zadd_sm df
  refine ⟨zadd Z H f, g, ⟨w.len, w.hst, hvc, zadd_sub w.sub, LR.imp h1 fun a b q _ _ r => CeR.stay sz r fun _ _ => rfl, n1.1, fun a ha => ?_⟩, ⟨sz, fun _ _ h _ _ => h, fun _ h => h, fun a ha => .inl (by rw [e]; exact List.mem_append_left _ ha), fun a ha => ?_⟩, fun i d v hd hv => ?_⟩
  · rw [zadd_out (ng a ha)]
    exact w.dj a (by rw [e]; exact List.mem_append_left _ ha)
  · by_cases q : a ∈ f
    · exact .inr (.inl (by rw [e]; exact List.mem_append_right _ q))
    · rw [zadd_out q] at ha; exact .inl ha
  · rw [List.getElem?_map] at hd
    cases q : ts[i]? with
    | none => rw [q] at hd; cases hd
    | some t =>
      rw [q] at hd
      cases hd
      obtain ⟨f', hf, r⟩ := LR.items h2 i (.ow t.1 t.2) (some v) (by rw [List.getElem?_map, q]; rfl) (by rw [List.getElem?_map, hv]; rfl)
      obtain ⟨v', e', r⟩ := r
      cases e'
      exact r.freeze sz fun a ha => zadd_in (hf a ha)

/-- mirrors one after another -/
def evm : List (M T) → M (List T)
  | [] => fun s => .ok [] s
  | m :: ms => fun s => match m s with
    | .ok t s' => match evm ms s' with
      | .ok ts s'' => .ok (t :: ts) s''
      | .ex x s'' => .ex x s''
      | .no => .no
    | .ex x s' => .ex x s'
    | .no => .no
def tMs (c : Zc) (L : Nat) (W : WX) : List (M T) → TA
  | [] => tNil
  | m :: ms => tCons (rd c L W m) (tMs c L W ms)
theorem tMs_run {ms : List (M T)} : ∀ {Z H : Hp} {vx : List (Option V)} {st tx : S} {fp : List Addr} {Q : List V → Hp → Prop}, Wl c L vc Z H σ vx st tx fp →
    (match evm ms st with
      | .ok ts s => ∀ Z' H' vs fp', Stp fp Z H fp' Z' H' → vs.length = ts.length → Wl c L vc Z' H' σ (vx ++ vs.map some) s (tx ++ ts.map fun t => .ow t.1 t.2) fp' → Q vs H'
      | .ex x s => ∀ Z' H' fp' cls dd, Stp fp Z H fp' Z' H' → Wl c L vc Z' H' σ vx s tx fp' → IsX c Z' H' x cls dd → W cls dd σ H'
      | .no => False) → tMs c L W ms σ H Q := by
  induction ms with
  | nil =>
    intro Z H vx st tx fp Q w h
    exact h Z H [] fp Stp.refl rfl (by simpa using w)
  | cons m ms ih =>
    intro Z H vx st tx fp Q w h
    refine ⟨Z, vc, vx, st, tx, fp, w, ?_⟩
    cases q : m st with
    | no => simp only [evm, q] at h
    | ex x s =>
      simp only [evm, q] at h
      exact h
    | ok t s =>
      simp only [evm, q] at h
      intro Z1 H1 v fp1 s1 w1
      refine ih w1 ?_
      cases q2 : evm ms s with
      | no => simp only [q2] at h
      | ex x s' =>
        simp only [q2] at h
        intro Z2 H2 fp2 cls dd s2 w2 x2
        obtain ⟨g, hg, w3⟩ := w2.pop' w.hvc
        exact h Z2 H2 g cls dd ((s1.trans s2).trans (Stp.less hg)) w3 x2
      | ok ts s' =>
        simp only [q2] at h
        intro Z2 H2 vs fp2 s2 hl w2
        refine h Z2 H2 (v :: vs) fp2 (s1.trans s2) (by simp [hl]) ?_
        simpa [List.append_assoc] using w2

/-- a name as a value: its tree is frozen -/
def mNm (i : Nat) : M T := fun s => match tre s i with
  | some (d, 0) => .ok (d, 0) s
  | some (d, _ + 1) => .ok (d, 0) (s.set (loc s i) (.ow d 0))
  | none => .no
def mC (d : D) : M T := fun s => .ok (d, 0) s

theorem Stp.of_al {g : List Addr} (al : Al Z H Z' H' g) : Stp fp Z H (fp ++ g) Z' H' := by
  refine ⟨al.sz, fun a o e _ => al.hh a o e, fun a e => al.nn e, fun a ha => ?_, fun a e => ?_⟩
  · rcases List.mem_append.mp ha with ha | ha
    · exact .inl ha
    · exact .inr (al.gn a ha)
  · rcases al.zn a e with z | z
    · exact .inl z
    · exact .inr (.inr z)
/-- something new on top -/
theorem Wl.al (w : Wl c L vc Z H σ vx st tx fp) {g : List Addr} {d : D} {n : Nat} {v : V} (al : Al Z H Z' H' g) (rt : RT c Z' H' n d v g) : Wl c L vc Z' H' σ (vx ++ [some v]) st (tx ++ [.ow d n]) (fp ++ g) := by
  have old : ∀ a ∈ fp, H a ≠ none := w.there
  have keep : ∀ a ∈ fp, H' a = H a := fun a ha => by
    cases e : H a with
    | none => exact absurd e (old a ha)
    | some o => exact al.hh a o e (w.dj a ha)
  exact w.push al.sz al.sb keep rt (fun a ha hb => old a hb (al.gn a ha)) (fun a ha => by
    cases e : Z' a with
    | none => rfl
    | some o =>
      rcases al.zn a (by rw [e]; exact fun z => nomatch z) with z | z
      · exact absurd (w.dj a ha) z
      · exact absurd z (old a ha)) al.nd al.dj

theorem nm_rd {i : Nat} {Q : VK} (hi : i < L) (h : rd c L W (mNm i) σ H Q) : tVar i σ H Q := by
  obtain ⟨Z, vc, vx, st, tx, fp, w, h⟩ := h
  unfold mNm at h
  cases q : tre st i with
  | none => simp only [q] at h; exact h.elim
  | some t =>
    obtain ⟨d, n⟩ := t
    obtain ⟨v, f, e1, e2, r, hf⟩ := w.look hi q
    refine ⟨v, e1, ?_⟩
    cases n with
    | zero =>
      simp only [q] at h
      exact h Z H v fp Stp.refl (w.pushF r.1)
    | succ n =>
      simp only [q] at h
      have hx : st[loc st i]? = some (.ow d (n + 1)) := by
        unfold tre at' at q
        cases q2 : st[loc st i]? with
        | none => rw [q2] at q; cases q
        | some y =>
          rw [q2] at q
          cases y with
          | ow d' n' => cases q; rfl
          | un => cases q
          | pa j => cases q
      obtain ⟨ov, g1, f', g2, k1, k2, k3, k4⟩ := w.upd (y := .un) hx
      rw [e2] at k1
      cases k1
      obtain ⟨v', e', r'⟩ := k3
      cases e'
      have mf : ∀ a ∈ f', a ∈ fp := fun a ha => by rw [k2]; exact List.mem_append_left _ (List.mem_append_right _ ha)
      have df : ∀ a ∈ f', Z a = none := fun a ha => w.dj a (mf a ha)
      have sz : Sm Z (zadd Z H f') := zadd_sm df
      have rf : RF c (zadd Z H f') d v := r'.freeze sz fun a ha => zadd_in ha
      have zz : ∀ a, zadd Z H f' a ≠ none → Z a ≠ none ∨ a ∈ f' ∨ H a = none := fun a ha => by
        by_cases q : a ∈ f'
        · exact .inr (.inl q)
        · rw [zadd_out q] at ha; exact .inl ha
      have w2 := k4 (zadd Z H f') H (.ow d 0) [] sz (zadd_sub w.sub) (fun _ _ _ => rfl) ⟨v, rfl, rf, rfl⟩ (fun _ h => nomatch h) zz .nil (fun _ h => nomatch h)
      refine h _ H v _ ⟨sz, fun _ _ h _ _ => h, fun _ h => h, fun a ha => .inl ?_, fun a ha => (zz a ha).imp id (Or.imp (mf a) id)⟩ (w2.pushF rf)
      rw [List.append_nil] at ha
      rw [k2]
      rcases List.mem_append.mp ha with ha | ha
      · exact List.mem_append_left _ (List.mem_append_left _ ha)
      · exact List.mem_append_right _ ha
theorem mC_rd {d : D} {v : V} {Q : VK} (r : ∀ Z, RF c Z d v) (h : rd c L W (mC d) σ H Q) : Q v H := by
  obtain ⟨Z, vc, vx, st, tx, fp, w, h⟩ := h
  exact h Z H v fp Stp.refl (w.pushF (r Z))

/-- (a, b, ..), [a, b, ..] of values that are frozen -/
def mTup (ms : List (M T)) : M T := fun s => match evm ms s with
  | .ok ts s' => .ok (.tup (ts.map (·.1)), 0) s'
  | .ex x s' => .ex x s'
  | .no => .no
def mLst (ms : List (M T)) : M T := fun s => match evm ms s with
  | .ok ts s' => .ok (.lst (ts.map (·.1)), 1) s'
  | .ex x s' => .ex x s'
  | .no => .no
theorem evm_len : ∀ {ms : List (M T)} {s s' : S} {ts : List T}, evm ms s = .ok ts s' → ts.length = ms.length
  | [], s, s', ts, h => by cases h; rfl
  | m :: ms, s, s', ts, h => by
    cases q : m s with
    | no => simp only [evm, q] at h; cases h
    | ex x s1 => simp only [evm, q] at h; cases h
    | ok t s1 =>
      cases q2 : evm ms s1 with
      | no => simp only [evm, q, q2] at h; cases h
      | ex x s1 => simp only [evm, q, q2] at h; cases h
      | ok ts' s2 =>
        simp only [evm, q, q2] at h
        cases h
        simp [evm_len q2]
theorem disp_rd {ms : List (M T)} {mk : List D → D} {n : Nat} {o : List V → HO} {Q : VK} (hl : ms.length ≤ big)
    (h : rd c L W (fun s => match evm ms s with
      | .ok ts s' => .ok (mk (ts.map (·.1)), n) s'
      | .ex x s' => .ex x s'
      | .no => .no) σ H Q)
    (hk : ∀ {Z H : Hp} {xs : List D} {vs : List V} {p : Addr}, Sub Z H → H p = none → xs.length = vs.length → (∀ (i : Nat) d w, xs[i]? = some d → vs[i]? = some w → RF c Z d w) → ∃ Z' g, Al Z H Z' (upd H p (o vs)) g ∧ RT c Z' (upd H p (o vs)) n (mk xs) (.ref p) g) :
    tMs c L W ms σ H fun xs H1 => xs.length ≤ sizeLine ∧ ∀ p, H1 p = none → Q (.ref p) (upd H1 p (o xs)) := by
  obtain ⟨Z, vc, vx, st, tx, fp, w, h⟩ := h
  refine tMs_run w ?_
  cases q : evm ms st with
  | no => simp only [q] at h; exact h.elim
  | ex x s => simp only [q] at h; exact h
  | ok ts s =>
    simp only [q] at h
    intro Z1 H1 vs fp1 s1 hl1 w1
    obtain ⟨Z2, g, w2, s2, rf⟩ := w1.frz w.hvc hl1
    refine ⟨Nat.le_trans (by rw [hl1, evm_len q]; exact hl) big_le, fun p hp => ?_⟩
    obtain ⟨Z3, g3, al, rt⟩ := hk w2.sub hp (xs := ts.map (·.1)) (vs := vs) (by simp [hl1]) rf
    exact h Z3 _ (.ref p) _ ((s1.trans s2).trans (Stp.of_al al)) (w2.al al rt)
theorem tup_rd {ms : List (M T)} {Q : VK} (hl : ms.length ≤ big) (h : rd c L W (mTup ms) σ H Q) : tTup (tMs c L W ms) σ H Q :=
  disp_rd (o := .tup) (mk := .tup) (n := 0) hl h fun {Z H xs vs p} s hp hl hx => ⟨_, [], al_newF s hp, rf_tup (s.none hp) hl hx, rfl⟩
theorem lst_rd {ms : List (M T)} {Q : VK} (hl : ms.length ≤ big) (h : rd c L W (mLst ms) σ H Q) : tLst (tMs c L W ms) σ H Q :=
  disp_rd (o := .lst) (mk := .lst) (n := 1) hl h fun {Z H xs vs p} s hp hl hx => ⟨Z, [p], al_new s hp, rt_lst hl hx⟩
end

/-! ### the rules over the text -/
section
variable {X : Cx} {c : Zc} {L : Nat} {W : WX} {pos : Pos}
abbrev ZE (X : Cx) (c : Zc) (L : Nat) (W : WX) (e : Expr) (m : M T) : Prop := PE X e (rd c L W m)
abbrev ZO (X : Cx) (c : Zc) (L : Nat) (W : WX) (e : Expr) (o : Opd) : Prop := PE X e (tO c L W o)
theorem PE.imp {e : Expr} {t t' : TE} (h : PE X e t) (k : ∀ σ H Q, t' σ H Q → t σ H Q) : PE X e t' := ⟨fun pins s σ H Q I q => h.run pins s σ H Q I (k _ _ _ q)⟩
theorem PT.imp {e : Expr} {t t' : TT} (h : PT X e t) (k : ∀ σ H Q, t' σ H Q → t σ H Q) : PT X e t' := ⟨fun pins s σ H Q I q => h.run pins s σ H Q I (k _ _ _ q)⟩
theorem PA.imp {e : List Expr} {t t' : TA} (h : PA X e t) (k : ∀ σ H Q, t' σ H Q → t σ H Q) : PA X e t' := ⟨fun pos pins s σ H Q I q => h.run pos pins s σ H Q I (k _ _ _ q)⟩
theorem PS.imp {e : Stmt} {t t' : TS} (h : PS X e t) (k : ∀ D σ H, t' D σ H → t D σ H) : PS X e t' := ⟨fun pins s σ H D I q => h.run pins s σ H D I (k _ _ _ q)⟩
theorem PSs.imp {e : List Stmt} {t t' : TS} (h : PSs X e t) (k : ∀ D σ H, t' D σ H → t D σ H) : PSs X e t' := ⟨fun pins s σ H D I q => h.run pins s σ H D I (k _ _ _ q)⟩

theorem ze_nm {x : Str} {i : Nat} (hN : X.N[i]? = some x) (hv : Vis X.env.scope x) (hi : i < L) (hd : (x == ("__debug__" : Str)) = false := by decide) (hcd : (x == ("__classdict__" : Str)) = false := by decide) : ZE X c L W (.Name x pos) (mNm i) :=
  PE.imp (pe_var hN hv hd hcd) fun _ _ _ => nm_rd hi
theorem zo_nm {x : Str} {i : Nat} (hN : X.N[i]? = some x) (hv : Vis X.env.scope x) (hd : (x == ("__debug__" : Str)) = false := by decide) (hcd : (x == ("__classdict__" : Str)) = false := by decide) : ZO X c L W (.Name x pos) (.nm i) :=
  PE.imp (pe_var hN hv hd hcd) fun _ _ _ h => h.2
theorem ze_c {e : Expr} {d : D} {v : V} (h : PE X e (tC v)) (r : ∀ Z, RF c Z d v) : ZE X c L W e (mC d) := PE.imp h fun _ _ _ h => mC_rd r h
theorem ze_int {i j} : ZE X c L W (.Constant (.int i) j pos) (mC (.int i)) := ze_c pe_int fun _ => .int
theorem ze_bl {i j} : ZE X c L W (.Constant (.bool i) j pos) (mC (.bl i)) := ze_c pe_bl fun _ => .bl
theorem ze_str {i j} : ZE X c L W (.Constant (.str i) j pos) (mC (.str i)) := ze_c pe_str fun _ => .str
theorem ze_non {j} : ZE X c L W (.Constant .none j pos) (mC .non) := ze_c pe_non fun _ => .non

/-- argument lists -/
abbrev ZA (X : Cx) (c : Zc) (L : Nat) (W : WX) (es : List Expr) (ms : List (M T)) : Prop := PA X es (tMs c L W ms)
abbrev ZOs (X : Cx) (c : Zc) (L : Nat) (W : WX) (es : List Expr) (os : List Opd) : Prop := PA X es (tOs c L W os)
theorem za_nil : ZA X c L W [] [] := pa_nil
theorem za_cons {e : Expr} {es : List Expr} {m : M T} {ms : List (M T)} (ha : ZE X c L W e m) (hr : ZA X c L W es ms) (hs : starEach (e :: es) X.env = (false, eval e X.env) :: starEach es X.env := by rfl) : ZA X c L W (e :: es) (m :: ms) := pa_cons ha hr hs
theorem zos_nil : ZOs X c L W [] [] := pa_nil
theorem zos_cons {e : Expr} {es : List Expr} {m : Opd} {ms : List Opd} (ha : ZO X c L W e m) (hr : ZOs X c L W es ms) (hs : starEach (e :: es) X.env = (false, eval e X.env) :: starEach es X.env := by rfl) : ZOs X c L W (e :: es) (m :: ms) := pa_cons ha hr hs
theorem ze_tup {es : List Expr} {ms : List (M T)} {k} (h : ZA X c L W es ms) (hl : ms.length ≤ big := by decide) : ZE X c L W (.Tuple es k pos) (mTup ms) := PE.imp (pe_tup h) fun _ _ _ => tup_rd hl
theorem ze_lst {es : List Expr} {ms : List (M T)} (h : ZA X c L W es ms) (hl : ms.length ≤ big := by decide) : ZE X c L W (.List es pos) (mLst ms) := PE.imp (pe_lst h) fun _ _ _ => lst_rd hl

/-- operations -/
def okL (L : Nat) : List Opd → Bool
  | [] => true
  | .nm i :: os => decide (i < L) && okL L os
  | .tm _ :: os => okL L os
theorem okL_mem {L : Nat} : ∀ {os : List Opd}, okL L os = true → ∀ i, Opd.nm i ∈ os → i < L
  | [], _, i, h => nomatch h
  | .nm j :: os, e, i, h => by
    unfold okL at e
    rw [Bool.and_eq_true] at e
    rcases List.mem_cons.mp h with h | h
    · cases h; exact of_decide_eq_true e.1
    · exact okL_mem e.2 i h
  | .tm _ :: os, e, i, h => by
    rcases List.mem_cons.mp h with h | h
    · cases h
    · exact okL_mem (os := os) e i h
theorem ze_bin {a b : Expr} {oa ob : Opd} {op : Operator} {r : R2} {f : F} (ho : OpR X (binaryOp op) r) (hr : RuZ c (r2 r) f) (ha : ZO X c L W a oa) (hb : ZO X c L W b ob) (hL : okL L [oa, ob] = true := by rfl) : ZE X c L W (.BinOp a op b pos) (mOp f [oa, ob]) :=
  PE.imp (pe_op ho ha hb) fun σ H Q h => run_op hr (okL_mem hL) h
theorem ze_un {a : Expr} {oa : Opd} {op : UnaryOp} {r : V → Hp → VK → Prop} {f : F} (ho : UnR X (unaryOp op) r) (hr : RuZ c (r1 r) f) (ha : ZO X c L W a oa) (hL : okL L [oa] = true := by rfl) : ZE X c L W (.UnaryOp op a pos) (mOp f [oa]) :=
  PE.imp (pe_un ho ha) fun σ H Q h => run_op hr (okL_mem hL) h
theorem ze_cmp {a b : Expr} {oa ob : Opd} {op : CmpOp} {r : R2} {f : F} (ho : OpR X (compareOp op) r) (hr : RuZ c (r2 r) f) (ha : ZO X c L W a oa) (hb : ZO X c L W b ob) (hm : behindInMarks op b = false) (hL : okL L [oa, ob] = true := by rfl) : ZE X c L W (.Compare a [op] [b] pos) (mOp f [oa, ob]) :=
  PE.imp (pe_cmpR ho ha hb hm) fun σ H Q h => run_op hr (okL_mem hL) h
theorem ze_ix {a b : Expr} {oa ob : Opd} {r : R2} {f : F} (ho : IxR X r) (hr : RuZ c (r2 r) f) (ha : ZO X c L W a oa) (hb : ZO X c L W b ob) (hs : PlainIx b) (hL : okL L [oa, ob] = true := by rfl) : ZE X c L W (.Subscript a b pos) (mOp f [oa, ob]) :=
  PE.imp (pe_ix ho ha hb hs) fun σ H Q h => run_op hr (okL_mem hL) h
/-- a built-in called -/
theorem ze_blt {x : Str} {id : String} {e : Expr} {es : List Expr} {os : List Opd} {p : Pos} {r : List V → Hp → VK → Prop} {f : F} (hc : CallR X (.builtin id) r) (hr : RuZ c r f) (hg : Gl X x) (hm : X.mg x = none) (hv : bootBuiltins x = some (.builtin id)) (ha : ZOs X c L W (e :: es) os)
    (h : PE X (.Call (.Name x p) (e :: es) [] pos) (tCB r (tOs c L W os)) := by exact pe_callB (by assumption) (by assumption) (by assumption) (by assumption) (by assumption)) (hL : okL L os = true := by rfl) : ZE X c L W (.Call (.Name x p) (e :: es) [] pos) (mOp f os) :=
  PE.imp h fun σ H Q h => run_op hr (okL_mem hL) h
end
end Z

namespace Z
open PySem L2
/-! ### tests -/
def mB (m : M T) : M Bool := fun s => match m s with
  | .ok (.bl b, _) s' => .ok b s'
  | .ok _ _ => .no
  | .ex x s' => .ex x s'
  | .no => .no
def truT : T → Option Bool
  | (.non, _) => some false
  | (.bl b, _) => some b
  | (.int i, _) => some (i != 0)
  | (.str a, _) => if a.length ≤ big then some ((a.length : Int) != 0) else none
  | (.lst xs, _) => some (!xs.isEmpty)
  | (.tup xs, _) => some (!xs.isEmpty)
  | (.rol xs, _) => some (!xs.isEmpty)
  | _ => none
/-- the truth of an operand -/
def mTru (o : Opd) : M Bool := fun s => match evs [o] s with
  | .ok hs s' => match gets [o] hs s' with
    | some [t] => match truT t with
      | some b => .ok b s'
      | none => .no
    | _ => .no
  | .ex x s' => .ex x s'
  | .no => .no
def mAndT (a b : M Bool) : M Bool := fun s => match a s with
  | .ok true s' => b s'
  | r => r
def mOrT (a b : M Bool) : M Bool := fun s => match a s with
  | .ok false s' => b s'
  | r => r
def mNotT (a : M Bool) : M Bool := fun s => match a s with
  | .ok b s' => .ok (!b) s'
  | r => r
def mAnd (a b : M T) : M T := fun s => match a s with
  | .ok (.bl true, _) s' => b s'
  | .ok (.bl false, _) s' => .ok (.bl false, 0) s'
  | .ok _ _ => .no
  | r => r
def mOr (a b : M T) : M T := fun s => match a s with
  | .ok (.bl false, _) s' => b s'
  | .ok (.bl true, _) s' => .ok (.bl true, 0) s'
  | .ok _ _ => .no
  | r => r
def mNot (a : M T) : M T := fun s => match a s with
  | .ok (.bl b, _) s' => .ok (.bl (!b), 0) s'
  | .ok _ _ => .no
  | r => r
def mIf (t : M Bool) (a b : M T) : M T := fun s => match t s with
  | .ok true s' => a s'
  | .ok false s' => b s'
  | .ex x s' => .ex x s'
  | .no => .no
section
variable {c : Zc} {L : Nat} {W : WX} {vc : Nat → Option V} {Z H Z' H' : Hp} {σ : St} {vx : List (Option V)} {st tx : S} {fp : List Addr}
theorem tre_of_push {d : D} {n : Nat} {v : V} (w : Wl c L vc Z H σ (vx ++ [some v]) st (tx ++ [.ow d n]) fp) : Tre c Z H fp v (d, n) := by
  have lr := w.lr
  rw [← List.append_assoc, ← List.append_assoc] at lr
  have hl' : (st ++ tx).length = (σ ++ vx).length := by
    have := lr.len
    simp only [List.length_append, List.length_cons, List.length_nil] at this ⊢
    omega
  have i1 : ((st ++ tx) ++ [Ce.ow d n])[(st ++ tx).length]? = some (Ce.ow d n) := by simp
  have i2 : ((σ ++ vx) ++ [some v])[(st ++ tx).length]? = some (some v) := by rw [hl']; simp
  obtain ⟨f, hf, v', e', r⟩ := LR.items lr _ _ _ i1 i2
  cases e'
  exact ⟨f, hf, r⟩
/-- a value whose kind is known is taken off -/
theorem rd_off {m : M T} {Q : VK} {P : VK} (h : ∃ Z vc vx st tx fp, Wl c L vc Z H σ vx st tx fp ∧ (match m st with
    | .ok t s => ∀ Z' H' fp', Stp fp Z H fp' Z' H' → Wl c L vc Z' H' σ vx s tx fp' → ∀ v fp1, Tre c Z' H' fp1 v t → Sub Z' H' → P v H'
    | .ex x s => ∀ Z' H' fp' cls dd, Stp fp Z H fp' Z' H' → Wl c L vc Z' H' σ vx s tx fp' → IsX c Z' H' x cls dd → W cls dd σ H'
    | .no => False)) : rd c L W m σ H P := by
  obtain ⟨Z, vc, vx, st, tx, fp, w, h⟩ := h
  refine ⟨Z, vc, vx, st, tx, fp, w, ?_⟩
  cases q : m st with
  | no => simp only [q] at h
  | ex x s => simp only [q] at h; exact h
  | ok t s =>
    simp only [q] at h
    intro Z1 H1 v fp1 s1 w1
    have tr := tre_of_push w1
    obtain ⟨g, hg, w2⟩ := w1.pop' w.hvc
    exact h Z1 H1 g (s1.trans (Stp.less hg)) w2 v fp1 tr w1.sub
theorem mB_rd {m : M T} {Q : Bool → Hp → Prop} (h : rdT c L W (mB m) σ H Q) : rd c L W m σ H (fun x H' => ∃ k, x = .bl k ∧ Q k H') := by
  obtain ⟨Z, vc, vx, st, tx, fp, w, h⟩ := h
  refine rd_off (Q := fun _ _ => True) ⟨Z, vc, vx, st, tx, fp, w, ?_⟩
  cases q : m st with
  | no => simp only [mB, q] at h; exact h.elim
  | ex x s => simp only [mB, q] at h; exact h
  | ok t s =>
    obtain ⟨d, n⟩ := t
    intro Z1 H1 fp1 s1 w1 v fp2 tr _
    cases d with
    | bl b =>
      simp only [mB, q] at h
      exact ⟨b, tre_bl tr, h Z1 H1 fp1 s1 w1⟩
    | _ => simp only [mB, q] at h; exact h.elim
theorem mNotT_rd {a : M Bool} {Q : Bool → Hp → Prop} (h : rdT c L W (mNotT a) σ H Q) : tNot (rdT c L W a) σ H Q := by
  obtain ⟨Z, vc, vx, st, tx, fp, w, h⟩ := h
  refine ⟨Z, vc, vx, st, tx, fp, w, ?_⟩
  cases q : a st with
  | no => simp only [mNotT, q] at h; exact h
  | ex x s => simp only [mNotT, q] at h; exact h
  | ok t s => simp only [mNotT, q] at h; exact h
theorem mAndT_rd {a b : M Bool} {Q : Bool → Hp → Prop} (h : rdT c L W (mAndT a b) σ H Q) : tAnd (rdT c L W a) (rdT c L W b) σ H Q := by
  obtain ⟨Z, vc, vx, st, tx, fp, w, h⟩ := h
  refine ⟨Z, vc, vx, st, tx, fp, w, ?_⟩
  cases q : a st with
  | no => simp only [mAndT, q] at h; exact h
  | ex x s => simp only [mAndT, q] at h; exact h
  | ok t s =>
    cases t with
    | false =>
      simp only [mAndT, q] at h
      intro Z1 H1 fp1 s1 w1
      rw [if_neg Bool.false_ne_true]
      exact h Z1 H1 fp1 s1 w1
    | true =>
      simp only [mAndT, q] at h
      intro Z1 H1 fp1 s1 w1
      rw [if_pos rfl]
      refine ⟨Z1, vc, vx, s, tx, fp1, w1, ?_⟩
      cases q2 : b s with
      | no => simp only [q2] at h; exact h
      | ex x s' =>
        simp only [q2] at h
        exact fun Z2 H2 fp2 cls dd s2 => h Z2 H2 fp2 cls dd (s1.trans s2)
      | ok t s' =>
        simp only [q2] at h
        exact fun Z2 H2 fp2 s2 => h Z2 H2 fp2 (s1.trans s2)
theorem mOrT_rd {a b : M Bool} {Q : Bool → Hp → Prop} (h : rdT c L W (mOrT a b) σ H Q) : tOr (rdT c L W a) (rdT c L W b) σ H Q := by
  obtain ⟨Z, vc, vx, st, tx, fp, w, h⟩ := h
  refine ⟨Z, vc, vx, st, tx, fp, w, ?_⟩
  cases q : a st with
  | no => simp only [mOrT, q] at h; exact h
  | ex x s => simp only [mOrT, q] at h; exact h
  | ok t s =>
    cases t with
    | true =>
      simp only [mOrT, q] at h
      intro Z1 H1 fp1 s1 w1
      rw [if_pos rfl]
      exact h Z1 H1 fp1 s1 w1
    | false =>
      simp only [mOrT, q] at h
      intro Z1 H1 fp1 s1 w1
      rw [if_neg Bool.false_ne_true]
      refine ⟨Z1, vc, vx, s, tx, fp1, w1, ?_⟩
      cases q2 : b s with
      | no => simp only [q2] at h; exact h
      | ex x s' =>
        simp only [q2] at h
        exact fun Z2 H2 fp2 cls dd s2 => h Z2 H2 fp2 cls dd (s1.trans s2)
      | ok t s' =>
        simp only [q2] at h
        exact fun Z2 H2 fp2 s2 => h Z2 H2 fp2 (s1.trans s2)
/-- behind a step, an expression -/
theorem PoE.behind {Z1 H1 : Hp} {fp1 : List Addr} {r : R T} {Q : VK} (s1 : Stp fp Z H fp1 Z1 H1) (h : PoE c L W vc Z H σ vx tx fp r Q) : PoE c L W vc Z1 H1 σ vx tx fp1 r Q := by
  cases r with
  | no => exact h
  | ex x s' => exact fun Z2 H2 fp2 cls dd s2 => h Z2 H2 fp2 cls dd (s1.trans s2)
  | ok t s' => exact fun Z2 H2 v fp2 s2 => h Z2 H2 v fp2 (s1.trans s2)
theorem mIf_rd {t : M Bool} {a b : M T} {Q : VK} (h : rd c L W (mIf t a b) σ H Q) : tIf (rdT c L W t) (rd c L W a) (rd c L W b) σ H Q := by
  obtain ⟨Z, vc, vx, st, tx, fp, w, h⟩ := h
  refine ⟨Z, vc, vx, st, tx, fp, w, ?_⟩
  cases q : t st with
  | no => simp only [mIf, q] at h; exact h
  | ex x s => simp only [mIf, q] at h; exact h
  | ok k s =>
    intro Z1 H1 fp1 s1 w1
    cases k with
    | true =>
      simp only [mIf, q] at h
      rw [if_pos rfl]
      exact ⟨Z1, vc, vx, s, tx, fp1, w1, h.behind s1⟩
    | false =>
      simp only [mIf, q] at h
      rw [if_neg Bool.false_ne_true]
      exact ⟨Z1, vc, vx, s, tx, fp1, w1, h.behind s1⟩
theorem mAnd_rd {a b : M T} {Q : VK} (h : rd c L W (mAnd a b) σ H Q) : tAndV (rd c L W a) (rd c L W b) σ H Q := by
  obtain ⟨Z, vc, vx, st, tx, fp, w, h⟩ := h
  refine rd_off (Q := fun _ _ => True) ⟨Z, vc, vx, st, tx, fp, w, ?_⟩
  cases q : a st with
  | no => simp only [mAnd, q] at h; exact h
  | ex x s => simp only [mAnd, q] at h; exact h
  | ok t s =>
    obtain ⟨d, n⟩ := t
    intro Z1 H1 fp1 s1 w1 v fp2 tr sb
    cases d with
    | bl k =>
      cases k with
      | true =>
        simp only [mAnd, q] at h
        refine ⟨true, tre_bl tr, ?_⟩
        rw [if_pos rfl]
        exact ⟨Z1, vc, vx, s, tx, fp1, w1, h.behind s1⟩
      | false =>
        simp only [mAnd, q] at h
        refine ⟨false, tre_bl tr, ?_⟩
        rw [if_neg Bool.false_ne_true]
        exact h Z1 H1 (.bl false) fp1 s1 (w1.pushF .bl)
    | _ => simp only [mAnd, q] at h; exact h.elim
theorem mOr_rd {a b : M T} {Q : VK} (h : rd c L W (mOr a b) σ H Q) : tOrV (rd c L W a) (rd c L W b) σ H Q := by
  obtain ⟨Z, vc, vx, st, tx, fp, w, h⟩ := h
  refine rd_off (Q := fun _ _ => True) ⟨Z, vc, vx, st, tx, fp, w, ?_⟩
  cases q : a st with
  | no => simp only [mOr, q] at h; exact h
  | ex x s => simp only [mOr, q] at h; exact h
  | ok t s =>
    obtain ⟨d, n⟩ := t
    intro Z1 H1 fp1 s1 w1 v fp2 tr sb
    cases d with
    | bl k =>
      cases k with
      | false =>
        simp only [mOr, q] at h
        refine ⟨false, tre_bl tr, ?_⟩
        rw [if_neg Bool.false_ne_true]
        exact ⟨Z1, vc, vx, s, tx, fp1, w1, h.behind s1⟩
      | true =>
        simp only [mOr, q] at h
        refine ⟨true, tre_bl tr, ?_⟩
        rw [if_pos rfl]
        exact h Z1 H1 (.bl true) fp1 s1 (w1.pushF .bl)
    | _ => simp only [mOr, q] at h; exact h.elim
theorem mNot_rd {a : M T} {Q : VK} (h : rd c L W (mNot a) σ H Q) : tNotV (rd c L W a) σ H Q := by
  obtain ⟨Z, vc, vx, st, tx, fp, w, h⟩ := h
  refine rd_off (Q := fun _ _ => True) ⟨Z, vc, vx, st, tx, fp, w, ?_⟩
  cases q : a st with
  | no => simp only [mNot, q] at h; exact h
  | ex x s => simp only [mNot, q] at h; exact h
  | ok t s =>
    obtain ⟨d, n⟩ := t
    intro Z1 H1 fp1 s1 w1 v fp2 tr sb
    cases d with
    | bl k =>
      simp only [mNot, q] at h
      exact ⟨k, tre_bl tr, h Z1 H1 (.bl (!k)) fp1 s1 (w1.pushF .bl)⟩
    | _ => simp only [mNot, q] at h; exact h.elim
theorem truT_ok {t : T} {b : Bool} {v : V} (s : Sub Z H) (h : Tre c Z H fp v t) (e : truT t = some b) : TruV c.K v H b := by
  obtain ⟨d, n⟩ := t
  cases d with
  | non => cases e; rw [tre_non h]; exact rfl
  | bl k => cases e; rw [tre_bl h]; exact rfl
  | int k => cases e; rw [tre_int h]; exact rfl
  | str a =>
    rw [tre_str h]
    by_cases q : a.length ≤ big
    · simp only [truT, if_pos q, Option.some.injEq] at e
      exact ⟨Nat.le_trans q big_le, e.symm⟩
    · simp only [truT, if_neg q] at e
      cases e
  | lst xs =>
    cases e
    obtain ⟨a, vs, rfl, h1, h2, _⟩ := tre_lst s h
    refine .inl ⟨vs, .inl (.inl h1), ?_⟩
    cases xs <;> cases vs <;> first | rfl | cases h2
  | rol xs =>
    cases e
    obtain ⟨a, vs, rfl, h1, h2, _⟩ := tre_rol s h
    refine .inl ⟨vs, h1, ?_⟩
    cases xs <;> cases vs <;> first | rfl | cases h2
  | tup xs =>
    cases e
    obtain ⟨a, vs, rfl, h1, h2, _⟩ := tre_tup s h
    refine .inr (.inl ⟨vs, h1, ?_⟩)
    cases xs <;> cases vs <;> first | rfl | cases h2
  | dct kvs => cases e
  | obj C fs => cases e
theorem mTru_rd {o : Opd} {Q : Bool → Hp → Prop} (hL : okL L [o] = true) (h : rdT c L W (mTru o) σ H Q) : tO c L W o σ H fun x H' => ∃ k, TruV c.K x H' k ∧ Q k H' := by
  obtain ⟨Z, vc, vx, st, tx, fp, w, h⟩ := h
  have z : tOs c L W [o] σ H (fun vs H1 => ∃ x, vs = [x] ∧ ∃ k, TruV c.K x H1 k ∧ Q k H1) := by
    refine tOs_run w (okL_mem hL) ?_
    unfold mTru at h
    cases q : evs [o] st with
    | no => simp only [q] at h; exact h.elim
    | ex x s => simp only [q] at h; exact h
    | ok hs s =>
      simp only [q] at h
      intro Z1 H1 vs vy ty fp1 s1 w1 r1
      have hl : (s ++ tx).length = (σ ++ vx).length := by
        have e := w1.lr.len
        have e2 := r1.len
        simp only [List.length_append] at e ⊢
        omega
      cases q2 : gets [o] hs s with
      | none => simp only [q2] at h; exact h.elim
      | some ts =>
        have tr := r1.trees w1 hl (okL_mem hL) q2
        match ts, tr, q2 with
        | [], _, q2 => simp only [q2] at h; exact h.elim
        | _ :: _ :: _, _, q2 => simp only [q2] at h; exact h.elim
        | [t], tr, q2 =>
          simp only [q2] at h
          obtain ⟨x, rfl, tx1⟩ := tre1 tr
          cases q3 : truT t with
          | none => simp only [q3] at h; exact h.elim
          | some b =>
            simp only [q3] at h
            obtain ⟨g, hg, w2⟩ := Wl.pops r1.len w1 w.hvc
            exact ⟨x, rfl, b, truT_ok w1.sub tx1 q3, h Z1 H1 g (s1.trans (Stp.less hg)) w2⟩
  cases o with
  | nm i =>
    obtain ⟨hi, v, e, x, ex, q⟩ := z
    cases ex
    exact ⟨hi, v, e, q⟩
  | tm m =>
    obtain ⟨Z, vc, vx, st, tx, fp, w, h⟩ := z
    refine ⟨Z, vc, vx, st, tx, fp, w, ?_⟩
    cases q : m st with
    | no => rw [q] at h; exact h
    | ex x s => rw [q] at h; exact h
    | ok t s =>
      rw [q] at h
      intro Z1 H1 v fp1 s1 w1
      obtain ⟨x, ex, q⟩ := h Z1 H1 v fp1 s1 w1
      cases ex
      exact q
end
section
variable {X : Cx} {c : Zc} {L : Nat} {W : WX} {pos : Pos}
abbrev ZT (X : Cx) (c : Zc) (L : Nat) (W : WX) (e : Expr) (m : M Bool) : Prop := PT X e (rdT c L W m)
abbrev ZW (X : Cx) (c : Zc) (L : Nat) (W : WX) (e : Expr) (m : M Bool) : Prop := PW X e (rdT c L W m)
theorem zt_val {e : Expr} {m : M T} (h : ZE X c L W e m) (he : ∀ whole, isTrue e X.env whole = (do let v ← whole; standAt e.pos; holding [v] (truthy v)) := by intro _; rfl) : ZT X c L W e (mB m) :=
  PT.imp (pt_val h he) fun _ _ _ h => mB_rd h
theorem zt_cmp {a b : Expr} {oa ob : Opd} {op : CmpOp} {r : R2} {f : F} (ho : OpR X (compareOp op) r) (hr : RuZ c (r2 r) f) (ha : ZO X c L W a oa) (hb : ZO X c L W b ob) (hm : behindInMarks op b = false) (hL : okL L [oa, ob] = true := by rfl) : ZT X c L W (.Compare a [op] [b] pos) (mB (mOp f [oa, ob])) :=
  PT.imp (pt_cmpR ho ha hb hm) fun σ H Q h => run_op hr (okL_mem hL) (mB_rd h)
theorem zt_tru {a : Expr} {o : Opd} (hK : c.K = X.K) (ha : ZO X c L W a o) (he : ∀ whole, isTrue a X.env whole = (do let v ← whole; standAt a.pos; holding [v] (truthy v)) := by intro _; rfl) (hL : okL L [o] = true := by rfl) : ZT X c L W a (mTru o) :=
  PT.imp (pt_truth ha he) fun σ H Q h => hK ▸ mTru_rd hL h
theorem zt_not {a : Expr} {m : M Bool} (h : ZT X c L W a m) : ZT X c L W (.UnaryOp .Not a pos) (mNotT m) := PT.imp (pt_not h) fun _ _ _ h => mNotT_rd h
theorem zw_and1 {a : Expr} {m : M Bool} (h : ZT X c L W a m) : ZW X c L W (.BoolOp .And [a] pos) m := pw_and1 h
theorem zw_or1 {a : Expr} {m : M Bool} (h : ZT X c L W a m) : ZW X c L W (.BoolOp .Or [a] pos) m := pw_or1 h
theorem PW.imp {e : Expr} {t t' : TT} (h : PW X e t) (k : ∀ σ H Q, t' σ H Q → t σ H Q) : PW X e t' := ⟨fun wh pins s σ H Q I q => h.run wh pins s σ H Q I (k _ _ _ q)⟩
theorem zw_and {a b : Expr} {rest : List Expr} {m n : M Bool} (h : ZT X c L W a m) (k : ZW X c L W (.BoolOp .And (b :: rest) pos) n) : ZW X c L W (.BoolOp .And (a :: b :: rest) pos) (mAndT m n) := PW.imp (pw_and h k) fun _ _ _ h => mAndT_rd h
theorem zw_or {a b : Expr} {rest : List Expr} {m n : M Bool} (h : ZT X c L W a m) (k : ZW X c L W (.BoolOp .Or (b :: rest) pos) n) : ZW X c L W (.BoolOp .Or (a :: b :: rest) pos) (mOrT m n) := PW.imp (pw_or h k) fun _ _ _ h => mOrT_rd h
theorem zt_w {e : Expr} {m : M Bool} (h : ZW X c L W e m) : ZT X c L W e m := h.pt
theorem ze_one {a : Expr} {op} {m : M T} (h : ZE X c L W a m) : ZE X c L W (.BoolOp op [a] pos) m := pe_one h
theorem ze_and {a b : Expr} {rest : List Expr} {m n : M T} (h : ZE X c L W a m) (k : ZE X c L W (.BoolOp .And (b :: rest) pos) n) : ZE X c L W (.BoolOp .And (a :: b :: rest) pos) (mAnd m n) := PE.imp (pe_and h k) fun _ _ _ h => mAnd_rd h
theorem ze_or {a b : Expr} {rest : List Expr} {m n : M T} (h : ZE X c L W a m) (k : ZE X c L W (.BoolOp .Or (b :: rest) pos) n) : ZE X c L W (.BoolOp .Or (a :: b :: rest) pos) (mOr m n) := PE.imp (pe_or h k) fun _ _ _ h => mOr_rd h
theorem ze_not {a : Expr} {m : M T} (h : ZE X c L W a m) : ZE X c L W (.UnaryOp .Not a pos) (mNot m) := PE.imp (pe_not h) fun _ _ _ h => mNot_rd h
theorem ze_if {t a b : Expr} {m : M Bool} {n k : M T} (h : ZT X c L W t m) (ha : ZE X c L W a n) (hb : ZE X c L W b k) : ZE X c L W (.IfExp t a b pos) (mIf m n k) := PE.imp (pe_ifExp h ha hb) fun _ _ _ h => mIf_rd h
end
end Z

namespace Z
open PySem L2
/-! ### statements -/
inductive Fl where
  | nx | rt (t : T) | bk | ct
section
variable (c : Zc) (L : Nat) (W : WX)
def PoS (vc : Nat → Option V) (Z H : Hp) (vx : List (Option V)) (tx : S) (fp : List Addr) (r : R Fl) (D : Ends) : Prop := match r with
  | .ok .nx s => ∀ Z' H' σ' fp', Stp fp Z H fp' Z' H' → Wl c L vc Z' H' σ' vx s tx fp' → D.nx σ' H'
  | .ok (.rt t) s => ∀ Z' H' σ' v fp', Stp fp Z H fp' Z' H' → Wl c L vc Z' H' σ' (vx ++ [some v]) s (tx ++ [.ow t.1 t.2]) fp' → D.rt v H'
  | .ok .bk s => ∀ Z' H' σ' fp', Stp fp Z H fp' Z' H' → Wl c L vc Z' H' σ' vx s tx fp' → D.bk σ' H'
  | .ok .ct s => ∀ Z' H' σ' fp', Stp fp Z H fp' Z' H' → Wl c L vc Z' H' σ' vx s tx fp' → D.ct σ' H'
  | .ex x s => ∀ Z' H' σ' fp' cls dd, Stp fp Z H fp' Z' H' → Wl c L vc Z' H' σ' vx s tx fp' → IsX c Z' H' x cls dd → W cls dd σ' H'
  | .no => False
def rdS (m : M Fl) : TS := fun D σ H => ∃ Z vc vx st tx fp, Wl c L vc Z H σ vx st tx fp ∧ PoS c L W vc Z H vx tx fp (m st) D
end

/-- where values go -/
inductive Tg where
  | nm (i : Nat) | tp (is : List Nat)
def setsF : List Nat → List D → S → Option S
  | [], [], s => some s
  | i :: is, d :: ds, s => if i < s.length then setsF is ds (s.set i (.ow d 0)) else none
  | _, _, _ => none
def Tg.set : Tg → D → S → Option S
  | .nm i, d, s => if i < s.length then some (s.set i (.ow d 0)) else none
  | .tp is, .tup ds, s => setsF is ds s
  | .tp _, _, _ => none

section
variable {c : Zc} {L : Nat} {W : WX} {vc : Nat → Option V} {Z H Z' H' Z1 H1 : Hp} {σ : St} {vx : List (Option V)} {st tx : S} {fp fp1 : List Addr}
theorem PoS.behind {r : R Fl} {D : Ends} (s1 : Stp fp Z H fp1 Z1 H1) (h : PoS c L W vc Z H vx tx fp r D) : PoS c L W vc Z1 H1 vx tx fp1 r D := by
  cases r with
  | no => exact h
  | ex x s' => exact fun Z2 H2 σ2 fp2 cls dd s2 => h Z2 H2 σ2 fp2 cls dd (s1.trans s2)
  | ok t s' =>
    cases t with
    | nx => exact fun Z2 H2 σ2 fp2 s2 => h Z2 H2 σ2 fp2 (s1.trans s2)
    | rt t => exact fun Z2 H2 σ2 v fp2 s2 => h Z2 H2 σ2 v fp2 (s1.trans s2)
    | bk => exact fun Z2 H2 σ2 fp2 s2 => h Z2 H2 σ2 fp2 (s1.trans s2)
    | ct => exact fun Z2 H2 σ2 fp2 s2 => h Z2 H2 σ2 fp2 (s1.trans s2)

theorem set_app {α : Type} {l k : List α} {i : Nat} {x : α} (h : i < l.length) : (l ++ k).set i x = l.set i x ++ k := List.set_append_left _ _ h
/-- a slot takes a value; its footprint comes from elsewhere -/
theorem Wl.put {g f : List Addr} {i : Nat} {d : D} {n : Nat} {v : V} (w : Wl c L vc Z H σ vx st tx g) (nd : (g ++ f).Nodup) (dj : ∀ a ∈ f, Z a = none) (r : RT c Z H n d v f) (hi : i < L) (his : i < st.length) :
    ∃ fp', (∀ a ∈ fp', a ∈ g ++ f) ∧ Wl c L vc Z H (σ.set i (some v)) vx (st.set i (.ow d n)) tx fp' := by
  have hi2 : (st ++ tx)[i]? = some st[i] := by rw [List.getElem?_append_left his, List.getElem?_eq_getElem his]
  obtain ⟨ov, g1, f0, g2, e1, e2, r0, k⟩ := LR.get2 w.lr hi2
  have lr := k (CeR c vc Z H) (.ow d n) (some v) f (fun _ _ _ _ h => h) ⟨v, rfl, r⟩
  rw [set_app his, set_app (by rw [w.len]; exact hi)] at lr
  have n0 := List.nodup_append.mp nd
  rw [e2] at n0
  have n1 := List.nodup_append.mp n0.1
  have n2 := List.nodup_append.mp n1.1
  have m1 : ∀ a ∈ g1, a ∈ g1 ++ f0 ++ g2 := fun a h => List.mem_append_left _ (List.mem_append_left _ h)
  have m2 : ∀ a ∈ g2, a ∈ g1 ++ f0 ++ g2 := fun a h => List.mem_append_right _ h
  refine ⟨g1 ++ f ++ g2, fun a ha => ?_, by rw [List.length_set]; exact w.len, by rw [List.length_set]; exact w.hst, w.hvc, w.sub, lr, ?_, fun a ha => ?_⟩
  · rw [e2]
    rcases List.mem_append.mp ha with ha | ha
    · rcases List.mem_append.mp ha with ha | ha
      · exact List.mem_append_left _ (m1 a ha)
      · exact List.mem_append_right _ ha
    · exact List.mem_append_left _ (m2 a ha)
  · refine List.nodup_append.mpr ⟨List.nodup_append.mpr ⟨n2.1, n0.2.1, fun a ha b hb => n0.2.2 a (m1 a ha) b hb⟩, n1.2.1, fun a ha b hb e => ?_⟩
    rcases List.mem_append.mp ha with ha | ha
    · exact n1.2.2 a (List.mem_append_left _ ha) b hb e
    · exact n0.2.2 b (m2 b hb) a ha e.symm
  · rcases List.mem_append.mp ha with ha | ha
    · rcases List.mem_append.mp ha with ha | ha
      · exact w.dj a (by rw [e2]; exact m1 a ha)
      · exact dj a ha
    · exact w.dj a (by rw [e2]; exact m2 a ha)
theorem Wl.putF {i : Nat} {d : D} {v : V} (w : Wl c L vc Z H σ vx st tx fp) (r : RF c Z d v) (hi : i < L) (his : i < st.length) : ∃ fp', (∀ a ∈ fp', a ∈ fp) ∧ Wl c L vc Z H (σ.set i (some v)) vx (st.set i (.ow d 0)) tx fp' := by
  obtain ⟨fp', h1, h2⟩ := w.put (f := []) (n := 0) (by rw [List.append_nil]; exact w.nd) (fun _ h => nomatch h) ⟨r, rfl⟩ hi his
  exact ⟨fp', fun a ha => by have := h1 a ha; rwa [List.append_nil] at this, h2⟩
theorem Wl.putTop {i : Nat} {d : D} {n : Nat} {v : V} (w : Wl c L vc Z H σ (vx ++ [some v]) st (tx ++ [.ow d n]) fp) (hvc : ∀ j v, vc j = some v → L ≤ j ∧ vx[j - L]? = some (some v)) (hi : i < L) (his : i < st.length) :
    ∃ fp', (∀ a ∈ fp', a ∈ fp) ∧ Wl c L vc Z H (σ.set i (some v)) vx (st.set i (.ow d n)) tx fp' := by
  obtain ⟨g, f, e, ⟨v', e', r⟩, w2⟩ := w.pop hvc
  cases e'
  obtain ⟨fp', h1, h2⟩ := w2.put (f := f) (by rw [← e]; exact w.nd) (fun a ha => w.dj a (by rw [e]; exact List.mem_append_right _ ha)) r hi his
  exact ⟨fp', fun a ha => by rw [e]; exact h1 a ha, h2⟩

/-- a target's reading -/
theorem wipe_set {σ : St} {i : Nat} {x : Option V} : ∀ {vs : List Nat}, i ∈ vs → wipe (σ.set i x) vs = wipe σ vs
  | v :: vs, h => by
    have com : ∀ (vs : List Nat), i ∉ vs → wipe (σ.set i x) vs = (wipe σ vs).set i x := by
      intro vs
      induction vs with
      | nil => intro _; rfl
      | cons u us ih =>
        intro hn
        have h1 : i ≠ u := fun e => hn (by rw [e]; exact List.mem_cons_self)
        have h2 : i ∉ us := fun e => hn (List.mem_cons_of_mem _ e)
        show (wipe (σ.set i x) us).set u none = ((wipe σ us).set u none).set i x
        rw [ih h2, List.set_comm _ _ h1]
    show (wipe (σ.set i x) vs).set v none = (wipe σ vs).set v none
    by_cases q : i ∈ vs
    · rw [wipe_set q]
    · rw [com vs q]
      rcases List.mem_cons.mp h with e | e
      · rw [e, List.set_set]
      · exact absurd e q
  | [], h => nomatch h
def Tg.slots : Tg → List Nat
  | .nm i => [i]
  | .tp is => is
def TgR (c : Zc) (L : Nat) (g : TG) (tg : Tg) : Prop := ∀ {vc : Nat → Option V} {Z H : Hp} {σ : St} {vx : List (Option V)} {st tx st' : S} {fp : List Addr} {d : D} {v : V} {Q : St → Hp → Prop}, Wl c L vc Z H σ vx st tx fp → RF c Z d v → tg.set d st = some st' →
  (∀ σ' fp', (∀ a ∈ fp', a ∈ fp) → Wl c L vc Z H σ' vx st' tx fp' → (∀ vs : List Nat, (∀ i ∈ tg.slots, i ∈ vs) → wipe σ' vs = wipe σ vs) → Q σ' H) → g v σ H Q
theorem tgr_nm {i : Nat} (hi : i < L) : TgR c L (gName i) (.nm i) := by
  intro vc Z H σ vx st tx st' fp d v Q w r e k
  simp only [Tg.set] at e
  by_cases q : i < st.length
  · rw [if_pos q] at e
    cases e
    obtain ⟨fp', h1, h2⟩ := w.putF r hi q
    exact k _ fp' h1 h2 fun vs hv => wipe_set (hv i List.mem_cons_self)
  · rw [if_neg q] at e; cases e
def gNames : List Nat → TGs
  | [] => gNil
  | i :: is => gCons (gName i) (gNames is)
theorem sets_ok : ∀ {is : List Nat} {ds : List D} {vs : List V} {σ : St} {st st' : S} {fp : List Addr} {Q : St → Hp → Prop}, (∀ i ∈ is, i < L) → ds.length = vs.length → Wl c L vc Z H σ vx st tx fp → (∀ (i : Nat) d w, ds[i]? = some d → vs[i]? = some w → RF c Z d w) → setsF is ds st = some st' →
    (∀ σ' fp', (∀ a ∈ fp', a ∈ fp) → Wl c L vc Z H σ' vx st' tx fp' → (∀ us : List Nat, (∀ i ∈ is, i ∈ us) → wipe σ' us = wipe σ us) → Q σ' H) → gNames is vs σ H Q
  | [], [], vs, σ, st, st', fp, Q, _, hl, w, _, e, k => by
    cases e
    cases vs with
    | nil => exact ⟨rfl, k σ fp (fun _ h => h) w fun _ _ => rfl⟩
    | cons => cases hl
  | i :: is, d :: ds, [], _, _, _, _, _, _, hl, _, _, _, _ => by cases hl
  | i :: is, d :: ds, v :: vs, σ, st, st', fp, Q, hL, hl, w, hx, e, k => by
    simp only [setsF] at e
    by_cases q : i < st.length
    · rw [if_pos q] at e
      obtain ⟨fp1, h1, w1⟩ := w.putF (hx 0 d v rfl rfl) (hL i List.mem_cons_self) q
      exact ⟨v, vs, rfl, sets_ok (fun j hj => hL j (List.mem_cons_of_mem _ hj)) (Nat.succ.inj hl) w1 (fun j d w h1 h2 => hx (j + 1) d w (by simpa using h1) (by simpa using h2)) e fun σ' fp' h2 w2 hw => k σ' fp' (fun a ha => h1 a (h2 a ha)) w2 fun us hu => (hw us fun j hj => hu j (List.mem_cons_of_mem _ hj)).trans (wipe_set (hu i List.mem_cons_self))⟩
    · rw [if_neg q] at e; cases e
  | [], _ :: _, _, _, _, _, _, _, _, _, _, _, e, _ => by cases e
  | _ :: _, [], _, _, _, _, _, _, _, _, _, _, e, _ => by cases e
theorem setsF_len : ∀ {is : List Nat} {ds : List D} {s s' : S}, setsF is ds s = some s' → is.length = ds.length
  | [], [], _, _, _ => rfl
  | i :: is, d :: ds, s, s', e => by
    simp only [setsF] at e
    by_cases q : i < s.length
    · rw [if_pos q] at e; simp [setsF_len e]
    · rw [if_neg q] at e; cases e
  | [], _ :: _, _, _, e => by cases e
  | _ :: _, [], _, _, e => by cases e
theorem tgr_tp {is : List Nat} (hL : ∀ i ∈ is, i < L) : TgR c L (gTup c.K is.length (gNames is)) (.tp is) := by
  intro vc Z H σ vx st tx st' fp d v Q w r e k
  cases r with
  | tup h hl hx =>
    rename_i a vs xs
    have e' : setsF is xs st = some st' := e
    exact ⟨a, vs, rfl, w.sub.sqT h, by rw [← hl]; exact (setsF_len e').symm, sets_ok hL hl w hx e' k⟩
  | _ => cases e

/-! ### the mirrors of statements -/
def mAsg (i : Nat) (m : M T) : M Fl := fun s => match m s with
  | .ok t s' => if i < s'.length then .ok .nx (s'.set i (.ow t.1 t.2)) else .no
  | .ex x s' => .ex x s'
  | .no => .no
/-- the value is frozen, then goes to the target -/
def mAsgF (tg : Tg) (m : M T) : M Fl := fun s => match m s with
  | .ok t s' => match tg.set t.1 s' with
    | some s'' => .ok .nx s''
    | none => .no
  | .ex x s' => .ex x s'
  | .no => .no
def mExpr (m : M T) : M Fl := fun s => match m s with
  | .ok _ s' => .ok .nx s'
  | .ex x s' => .ex x s'
  | .no => .no
def mRet (m : M T) : M Fl := fun s => match m s with
  | .ok t s' => .ok (.rt t) s'
  | .ex x s' => .ex x s'
  | .no => .no
def mRetN : M Fl := fun s => .ok (.rt (.non, 0)) s
def mNx : M Fl := fun s => .ok .nx s
def mBk : M Fl := fun s => .ok .bk s
def mCt : M Fl := fun s => .ok .ct s
def mSeq (a b : M Fl) : M Fl := fun s => match a s with
  | .ok .nx s' => b s'
  | r => r
def mIfS (t : M Bool) (a b : M Fl) : M Fl := fun s => match t s with
  | .ok true s' => a s'
  | .ok false s' => b s'
  | .ex x s' => .ex x s'
  | .no => .no
theorem mAsg_rd {i : Nat} {m : M T} {D : Ends} (hi : i < L) (h : rdS c L W (mAsg i m) D σ H) : tAsg (rd c L W m) (gName i) D σ H := by
  obtain ⟨Z, vc, vx, st, tx, fp, w, h⟩ := h
  refine ⟨Z, vc, vx, st, tx, fp, w, ?_⟩
  cases q : m st with
  | no => simp only [mAsg, q] at h; exact h
  | ex x s => simp only [mAsg, q] at h; exact fun Z2 H2 => h Z2 H2 σ
  | ok t s =>
    simp only [mAsg, q] at h
    intro Z1 H1 v fp1 s1 w1
    by_cases k : i < s.length
    · rw [if_pos k] at h
      obtain ⟨fp2, h1, w2⟩ := w1.putTop w.hvc hi k
      exact h Z1 H1 _ fp2 (s1.trans (Stp.less h1)) w2
    · rw [if_neg k] at h; exact h.elim
theorem mAsgF_rd {tg : Tg} {g : TG} {m : M T} {D : Ends} (hg : TgR c L g tg) (h : rdS c L W (mAsgF tg m) D σ H) : tAsg (rd c L W m) g D σ H := by
  obtain ⟨Z, vc, vx, st, tx, fp, w, h⟩ := h
  refine ⟨Z, vc, vx, st, tx, fp, w, ?_⟩
  cases q : m st with
  | no => simp only [mAsgF, q] at h; exact h
  | ex x s => simp only [mAsgF, q] at h; exact fun Z2 H2 => h Z2 H2 σ
  | ok t s =>
    simp only [mAsgF, q] at h
    intro Z1 H1 v fp1 s1 w1
    cases q2 : tg.set t.1 s with
    | none => simp only [q2] at h; exact h.elim
    | some s' =>
      simp only [q2] at h
      obtain ⟨Z2, g2, w2, s2, rf⟩ := Wl.frz (ts := [t]) (vs := [v]) w1 w.hvc rfl
      exact hg w2 (rf 0 t.1 v rfl rfl) q2 fun σ' fp' h1 w3 _ => h Z2 H1 σ' fp' ((s1.trans s2).trans (Stp.less h1)) w3
theorem mExpr_rd {m : M T} {D : Ends} (h : rdS c L W (mExpr m) D σ H) : tDrop (rd c L W m) D σ H := by
  obtain ⟨Z, vc, vx, st, tx, fp, w, h⟩ := h
  refine ⟨Z, vc, vx, st, tx, fp, w, ?_⟩
  cases q : m st with
  | no => simp only [mExpr, q] at h; exact h
  | ex x s => simp only [mExpr, q] at h; exact fun Z2 H2 => h Z2 H2 σ
  | ok t s =>
    simp only [mExpr, q] at h
    intro Z1 H1 v fp1 s1 w1
    obtain ⟨g, hg, w2⟩ := w1.pop' w.hvc
    exact h Z1 H1 σ g (s1.trans (Stp.less hg)) w2
theorem mRet_rd {m : M T} {D : Ends} (h : rdS c L W (mRet m) D σ H) : tRet (rd c L W m) D σ H := by
  obtain ⟨Z, vc, vx, st, tx, fp, w, h⟩ := h
  refine ⟨Z, vc, vx, st, tx, fp, w, ?_⟩
  cases q : m st with
  | no => simp only [mRet, q] at h; exact h
  | ex x s => simp only [mRet, q] at h; exact fun Z2 H2 => h Z2 H2 σ
  | ok t s =>
    simp only [mRet, q] at h
    exact fun Z1 H1 => h Z1 H1 σ
theorem mRetN_rd {D : Ends} (h : rdS c L W mRetN D σ H) : tRetN D σ H := by
  obtain ⟨Z, vc, vx, st, tx, fp, w, h⟩ := h
  exact h Z H σ .non fp Stp.refl (w.pushF .non)
theorem mNx_rd {D : Ends} (h : rdS c L W mNx D σ H) : tNext D σ H := by
  obtain ⟨Z, vc, vx, st, tx, fp, w, h⟩ := h
  exact h Z H σ fp Stp.refl w
theorem mBk_rd {D : Ends} (h : rdS c L W mBk D σ H) : tBreak D σ H := by
  obtain ⟨Z, vc, vx, st, tx, fp, w, h⟩ := h
  exact h Z H σ fp Stp.refl w
theorem mCt_rd {D : Ends} (h : rdS c L W mCt D σ H) : tCont D σ H := by
  obtain ⟨Z, vc, vx, st, tx, fp, w, h⟩ := h
  exact h Z H σ fp Stp.refl w
theorem mSeq_rd {a b : M Fl} {D : Ends} (h : rdS c L W (mSeq a b) D σ H) : tSeq (rdS c L W a) (rdS c L W b) D σ H := by
  obtain ⟨Z, vc, vx, st, tx, fp, w, h⟩ := h
  refine ⟨Z, vc, vx, st, tx, fp, w, ?_⟩
  cases q : a st with
  | no => simp only [mSeq, q] at h; exact h
  | ex x s => simp only [mSeq, q] at h; exact h
  | ok t s =>
    cases t with
    | nx =>
      simp only [mSeq, q] at h
      exact fun Z1 H1 σ1 fp1 s1 w1 => ⟨Z1, vc, vx, s, tx, fp1, w1, h.behind s1⟩
    | rt t => simp only [mSeq, q] at h; exact h
    | bk => simp only [mSeq, q] at h; exact h
    | ct => simp only [mSeq, q] at h; exact h
theorem mIfS_rd {t : M Bool} {a b : M Fl} {D : Ends} (h : rdS c L W (mIfS t a b) D σ H) : tIfS (rdT c L W t) (rdS c L W a) (rdS c L W b) D σ H := by
  obtain ⟨Z, vc, vx, st, tx, fp, w, h⟩ := h
  refine ⟨Z, vc, vx, st, tx, fp, w, ?_⟩
  cases q : t st with
  | no => simp only [mIfS, q] at h; exact h
  | ex x s => simp only [mIfS, q] at h; exact fun Z2 H2 => h Z2 H2 σ
  | ok k s =>
    intro Z1 H1 fp1 s1 w1
    cases k with
    | true =>
      simp only [mIfS, q] at h
      rw [if_pos rfl]
      exact ⟨Z1, vc, vx, s, tx, fp1, w1, h.behind s1⟩
    | false =>
      simp only [mIfS, q] at h
      rw [if_neg Bool.false_ne_true]
      exact ⟨Z1, vc, vx, s, tx, fp1, w1, h.behind s1⟩

/-! ### loops -/
structure ItR (c : Zc) (Z0 : Hp) (J : It) (items : List D) : Prop where
  go : ∀ i Z H, Sm Z0 Z → Sub Z H → i < items.length → J.go i H
  yld : ∀ i Z H x H' d, Sm Z0 Z → Sub Z H → items[i]? = some d → J.yld i H x H' → ∃ Z', Al Z H Z' H' [] ∧ RF c Z' d x
  stop : ∀ i Z H, Sm Z0 Z → Sub Z H → items.length ≤ i → J.stop i H
def rdI (c : Zc) (L : Nat) (W : WX) (m : M (List D)) : TI := fun σ H R => ∃ Z vc vx st tx fp, Wl c L vc Z H σ vx st tx fp ∧ match m st with
  | .ok items s => ∀ Z' H' fp' J, Stp fp Z H fp' Z' H' → Wl c L vc Z' H' σ vx s tx fp' → ItR c Z' J items → R J H'
  | .ex x s => ∀ Z' H' fp' cls dd, Stp fp Z H fp' Z' H' → Wl c L vc Z' H' σ vx s tx fp' → IsX c Z' H' x cls dd → W cls dd σ H'
  | .no => False
def forL (tg : Tg) (body : M Fl) : List D → M Fl
  | [] => fun s => .ok .nx s
  | d :: ds => fun s => match tg.set d s with
    | none => .no
    | some s1 => match body s1 with
      | .ok .nx s2 => forL tg body ds s2
      | .ok .ct s2 => forL tg body ds s2
      | .ok .bk s2 => .ok .nx s2
      | r => r
def mFor (tg : Tg) (mi : M (List D)) (body : M Fl) : M Fl := fun s => match mi s with
  | .ok items s' => forL tg body items s'
  | .ex x s' => .ex x s'
  | .no => .no
theorem mFor_rd {tg : Tg} {g : TG} {mi : M (List D)} {body : M Fl} {D : Ends} (hg : TgR c L g tg) (h : rdS c L W (mFor tg mi body) D σ H) : tFor (rdI c L W mi) g (rdS c L W body) D σ H := by
  obtain ⟨Z, vc, vx, st, tx, fp, w, h⟩ := h
  refine ⟨Z, vc, vx, st, tx, fp, w, ?_⟩
  cases q : mi st with
  | no => simp only [mFor, q] at h; exact h
  | ex x s => simp only [mFor, q] at h; exact fun Z2 H2 => h Z2 H2 σ
  | ok items s =>
    simp only [mFor, q] at h
    intro Z1 H1 fp1 J s1 w1 it
    refine ⟨fun i m σ' H' => m = items.length - i ∧ i ≤ items.length ∧ ∃ Z' st' fp', Sm Z1 Z' ∧ Wl c L vc Z' H' σ' vx st' tx fp' ∧ PoS c L W vc Z' H' vx tx fp' (forL tg body (items.drop i) st') D,
      ⟨items.length, by simp, Nat.zero_le _, Z1, s, fp1, Sm.refl _, w1, by rw [List.drop_zero]; exact h.behind s1⟩, ?_⟩
    rintro i m σ' H' ⟨rfl, hi, Z', st', fp', sz, w', h'⟩
    by_cases hlt : i < items.length
    · refine .inr ⟨it.go i Z' H' sz w'.sub hlt, fun σ2 H2 => ∃ Z2 st2 fp2, Sm Z1 Z2 ∧ Wl c L vc Z2 H2 σ2 vx st2 tx fp2 ∧ PoS c L W vc Z2 H2 vx tx fp2 (forL tg body (items.drop (i + 1)) st2) D, fun σ2 H2 hn => ⟨items.length - (i + 1), by omega, rfl, hlt, hn⟩, fun x H2 hy => ?_⟩
      have hd : items[i]? = some items[i] := List.getElem?_eq_getElem hlt
      obtain ⟨Z2, al, rf⟩ := it.yld i Z' H' x H2 items[i] sz w'.sub hd hy
      rw [List.drop_eq_getElem_cons hlt] at h'
      cases q2 : tg.set items[i] st' with
      | none => simp only [forL, q2] at h'; exact h'.elim
      | some s2 =>
        simp only [forL, q2] at h'
        -- the state with what the iterator has made
        have wal := (w'.al (d := .non) (n := 0) (v := .non) al ⟨.non, rfl⟩)
        obtain ⟨g0, f0, e0, _, w2⟩ := wal.pop w'.hvc
        have sg : Stp fp' Z' H' g0 Z2 H2 := (Stp.of_al al).trans (Stp.less fun a ha => by rw [e0]; exact List.mem_append_left _ ha)
        refine hg w2 rf q2 fun σ3 fp3 h3 w3 _ => ⟨Z2, vc, vx, s2, tx, fp3, w3, ?_⟩
        have s3 : Stp fp' Z' H' fp3 Z2 H2 := sg.trans (Stp.less h3)
        have sz3 : Sm Z1 Z2 := sz.trans al.sz
        cases q3 : body s2 with
        | no => simp only [q3] at h'; exact h'
        | ex x s4 => simp only [q3] at h'; exact h'.behind s3
        | ok t s4 =>
          cases t with
          | nx =>
            simp only [q3] at h'
            exact fun Z5 H5 σ5 fp5 s5 w5 => ⟨Z5, s4, fp5, sz3.trans s5.zz, w5, h'.behind (s3.trans s5)⟩
          | ct =>
            simp only [q3] at h'
            exact fun Z5 H5 σ5 fp5 s5 w5 => ⟨Z5, s4, fp5, sz3.trans s5.zz, w5, h'.behind (s3.trans s5)⟩
          | bk =>
            simp only [q3] at h'
            exact fun Z5 H5 σ5 fp5 s5 w5 => h' Z5 H5 σ5 fp5 (s3.trans s5) w5
          | rt t =>
            simp only [q3] at h'
            exact fun Z5 H5 σ5 v fp5 s5 w5 => h' Z5 H5 σ5 v fp5 (s3.trans s5) w5
    · have e : items.drop i = [] := List.drop_eq_nil_of_le (by omega)
      rw [e] at h'
      exact .inl ⟨it.stop i Z' H' sz w'.sub (by omega), h' Z' H' σ' fp' Stp.refl w'⟩
end

/-! ### while -/
def whL (t : M Bool) (body : M Fl) : Nat → M Fl
  | 0 => fun _ => .no
  | n + 1 => fun s => match t s with
    | .ok false s1 => .ok .nx s1
    | .ok true s1 => match body s1 with
      | .ok .nx s2 => whL t body n s2
      | .ok .ct s2 => whL t body n s2
      | .ok .bk s2 => .ok .nx s2
      | r => r
    | .ex x s1 => .ex x s1
    | .no => .no
open Classical in
noncomputable def mWhile (t : M Bool) (body : M Fl) : M Fl := fun s => if h : ∃ n, whL t body n s ≠ .no then whL t body (Classical.choose h) s else .no
theorem whL_mono {t : M Bool} {body : M Fl} : ∀ {n : Nat} {s : S}, whL t body n s ≠ .no → whL t body (n + 1) s = whL t body n s
  | 0, s, h => absurd rfl h
  | n + 1, s, h => by
    unfold whL at h ⊢
    cases q : t s with
    | no => rfl
    | ex x s1 => rfl
    | ok b s1 =>
      cases b with
      | false => rfl
      | true =>
        simp only [q] at h ⊢
        cases q2 : body s1 with
        | no => rfl
        | ex x s2 => rfl
        | ok f s2 =>
          cases f with
          | nx => simp only [q2] at h ⊢; exact whL_mono h
          | ct => simp only [q2] at h ⊢; exact whL_mono h
          | bk => rfl
          | rt t => rfl
theorem whL_le {t : M Bool} {body : M Fl} {n : Nat} {s : S} (h : whL t body n s ≠ .no) : ∀ k, whL t body (n + k) s = whL t body n s
  | 0 => rfl
  | k + 1 => by
    have ih := whL_le h k
    rw [← Nat.add_assoc, whL_mono (by rw [ih]; exact h), ih]
theorem mWhile_eq {t : M Bool} {body : M Fl} {n : Nat} {s : S} {r : R Fl} (h : whL t body n s = r) (hr : r ≠ .no) : mWhile t body s = r := by
  have e : ∃ n, whL t body n s ≠ .no := ⟨n, by rw [h]; exact hr⟩
  unfold mWhile
  rw [dif_pos e]
  have hc := Classical.choose_spec e
  have h1 := whL_le hc n
  have h2 := whL_le (n := n) (by rw [h]; exact hr) (Classical.choose e)
  rw [Nat.add_comm, h2] at h1
  rw [← h1, h]
section
variable {c : Zc} {L : Nat} {W : WX} {vc : Nat → Option V} {Z H Z' H' Z1 H1 : Hp} {σ : St} {vx : List (Option V)} {st tx : S} {fp fp1 : List Addr}
theorem mWhile_rd {t : M Bool} {body : M Fl} {D : Ends} (h : rdS c L W (mWhile t body) D σ H) : tWhile (rdT c L W t) (rdS c L W body) D σ H := by
  obtain ⟨Z, vc, vx, st, tx, fp, w, h⟩ := h
  have e : ∃ n, PoS c L W vc Z H vx tx fp (whL t body n st) D := by
    unfold mWhile at h
    by_cases q : ∃ n, whL t body n st ≠ .no
    · rw [dif_pos q] at h; exact ⟨_, h⟩
    · rw [dif_neg q] at h; exact h.elim
  obtain ⟨n, h⟩ := e
  refine ⟨fun m σ' H' => ∃ Z' st' fp', Wl c L vc Z' H' σ' vx st' tx fp' ∧ PoS c L W vc Z' H' vx tx fp' (whL t body m st') D, ⟨n, Z, st, fp, w, h⟩, ?_⟩
  rintro m σ' H' ⟨Z', st', fp', w', h'⟩
  cases m with
  | zero => exact h'.elim
  | succ m =>
    refine ⟨Z', vc, vx, st', tx, fp', w', ?_⟩
    cases q : t st' with
    | no => simp only [whL, q] at h'; exact h'
    | ex x s1 => simp only [whL, q] at h'; exact fun Z2 H2 => h' Z2 H2 σ'
    | ok b s1 =>
      intro Z1 H1 fp1 e1 w1
      cases b with
      | false =>
        simp only [whL, q] at h'
        rw [if_neg Bool.false_ne_true]
        exact h' Z1 H1 σ' fp1 e1 w1
      | true =>
        simp only [whL, q] at h'
        rw [if_pos rfl]
        refine ⟨fun σ2 H2 => ∃ Z2 st2 fp2, Wl c L vc Z2 H2 σ2 vx st2 tx fp2 ∧ PoS c L W vc Z2 H2 vx tx fp2 (whL t body m st2) D, fun σ2 H2 hn => ⟨m, Nat.lt_succ_self _, hn⟩, Z1, vc, vx, s1, tx, fp1, w1, ?_⟩
        cases q3 : body s1 with
        | no => simp only [q3] at h'; exact h'
        | ex x s4 => simp only [q3] at h'; exact h'.behind e1
        | ok f s4 =>
          cases f with
          | nx =>
            simp only [q3] at h'
            exact fun Z5 H5 σ5 fp5 s5 w5 => ⟨Z5, s4, fp5, w5, h'.behind (e1.trans s5)⟩
          | ct =>
            simp only [q3] at h'
            exact fun Z5 H5 σ5 fp5 s5 w5 => ⟨Z5, s4, fp5, w5, h'.behind (e1.trans s5)⟩
          | bk =>
            simp only [q3] at h'
            exact fun Z5 H5 σ5 fp5 s5 w5 => h' Z5 H5 σ5 fp5 (e1.trans s5) w5
          | rt t =>
            simp only [q3] at h'
            exact fun Z5 H5 σ5 v fp5 s5 w5 => h' Z5 H5 σ5 v fp5 (e1.trans s5) w5
end

/-! ### the rules over the text -/
section
variable {X : Cx} {c : Zc} {L : Nat} {W : WX} {pos : Pos}
abbrev ZS (X : Cx) (c : Zc) (L : Nat) (W : WX) (s : Stmt) (m : M Fl) : Prop := PS X s (rdS c L W m)
abbrev ZSs (X : Cx) (c : Zc) (L : Nat) (W : WX) (s : List Stmt) (m : M Fl) : Prop := PSs X s (rdS c L W m)
theorem zss_nil : ZSs X c L W [] mNx := PSs.imp pss_nil fun _ _ _ h => mNx_rd h
theorem zss_cons {s : Stmt} {r : List Stmt} {m n : M Fl} (h : ZS X c L W s m) (k : ZSs X c L W r n) : ZSs X c L W (s :: r) (mSeq m n) := PSs.imp (pss_cons h k) fun _ _ _ h => mSeq_rd h
theorem zss_one {s : Stmt} {m : M Fl} (h : ZS X c L W s m) : ZSs X c L W [s] m := pss_one h
theorem zs_asg {i : Nat} {x : Str} {e : Expr} {m : M T} {pos' : Pos} (hN : X.N.Nodup) (hi : X.N[i]? = some x) (hx : Loc X.env.scope x) (he : ZE X c L W e m) (hL : i < L) (hs : swapsWith e (some (.Name x pos')) pos.line X.env = pure false := by rfl)
    (hf : X.fn x = true ∨ X.env.scope.names.lookup x = some .local := by first | exact .inl rfl | exact .inr rfl | assumption) : ZS X c L W (.Assign [.Name x pos'] e pos) (mAsg i m) := PS.imp (ps_set hN hi hx he hs hf) fun _ _ _ h => mAsg_rd hL h
theorem zs_asgF {tg e : Expr} {g : TG} {t : Tg} {m : M T} (he : ZE X c L W e m) (hg : PG X tg g) (ht : TgR c L g t) (hs : swapsWithSole [tg] e pos.line X.env = pure false := by rfl) (hw : swappedStores [tg] e X.env = pure none := by rfl)
    (h1 : (assignEach [tg] X.env).map (·.2) = [assign tg X.env] := by rfl) : ZS X c L W (.Assign [tg] e pos) (mAsgF t m) := PS.imp (ps_asg he hg hs hw h1) fun _ _ _ h => mAsgF_rd ht h
theorem zs_expr {e : Expr} {m : M T} (he : ZE X c L W e m) (hs : swapsWith e none pos.line X.env = pure false := by rfl) : ZS X c L W (.Expr e pos) (mExpr m) := PS.imp (ps_expr he hs) fun _ _ _ h => mExpr_rd h
theorem zs_ret {e : Expr} {m : M T} (he : ZE X c L W e m) : ZS X c L W (.Return (some e) pos) (mRet m) := PS.imp (ps_ret he) fun _ _ _ h => mRet_rd h
theorem zs_retN : ZS X c L W (.Return none pos) mRetN := PS.imp ps_retN fun _ _ _ h => mRetN_rd h
theorem zs_pass : ZS X c L W (.Pass pos) mNx := PS.imp ps_pass fun _ _ _ h => mNx_rd h
theorem zs_bk : ZS X c L W (.Break pos) mBk := PS.imp ps_break fun _ _ _ h => mBk_rd h
theorem zs_ct : ZS X c L W (.Continue pos) mCt := PS.imp ps_continue fun _ _ _ h => mCt_rd h
theorem zs_if {t : Expr} {a b : List Stmt} {m : M Bool} {n k : M Fl} (h : ZT X c L W t m) (ha : ZSs X c L W a n) (hb : ZSs X c L W b k) : ZS X c L W (.If t a b pos) (mIfS m n k) := PS.imp (ps_if h ha hb) fun _ _ _ h => mIfS_rd h
theorem zs_for {tg iter : Expr} {g : TG} {t : Tg} {body : List Stmt} {mi : M (List D)} {m : M Fl} (hp : PassesOwn (model X.prog X.w) X.A X.env X.xe) (hc : X.calm = true) (hi : PI X tg iter (rdI c L W mi)) (hg : PG X tg g) (ht : TgR c L g t) (hb : ZSs X c L W body m)
    (hs : ∀ x, foldedSetIterable iter X.env x = pure x := by intro _; rfl) : ZS X c L W (.For tg iter body [] pos) (mFor t mi m) := PS.imp (ps_for hp hc hi hg hb hs) fun _ _ _ h => mFor_rd ht h
theorem zs_while {t : Expr} {body : List Stmt} {mt : M Bool} {m : M Fl} (hp : PassesOwn (model X.prog X.w) X.A X.env X.xe) (hc : ZT X c L W t mt) (hb : ZSs X c L W body m) : ZS X c L W (.While t body [] pos) (mWhile mt m) := PS.imp (ps_while hp hc hb) fun _ _ _ h => mWhile_rd h
end
end Z

namespace Z
open PySem L2
open PyProof.Rows (envOfC)
end Z
namespace Z
open PySem L2
open PySem.Spec PyProof.Rows
/-! ### contracts where no guard stands -/
structure Rg (k : Nat) (A : Around) : Prop where
  rm : Room k A
  gd : A.guards = some []
theorem Rg.mono {j k : Nat} {A : Around} (r : Rg k A) (h : j ≤ k) : Rg j A := ⟨r.rm.mono h, r.gd⟩
theorem Rg.deeper {k : Nat} {A : Around} (r : Rg (k + 1) A) (env : Env) : Rg k (A.deeper env) := ⟨r.rm.deeper env, r.gd⟩
theorem Rg.units {k : Nat} {A : Around} (r : Rg k A) : A.units + 64 < cLine := r.rm.units
theorem Rg.hu {k : Nat} {A : Around} (r : Rg k A) : A.units + 1 < cLine := hu_of r.rm
structure FnG (P : Program) (w : World) (K : PySem.W.Frag) (mg : Str → Option Value) (base : Heap) (k : Nat) (f : Addr) (fd : FuncData) (ps : List Str) (sp : Sp) : Prop where
  len : ∀ vs H Q E, sp vs H Q E → vs.length = ps.length
  run : ∀ (A : Around) (outer : List Env) (s : Shared) (H : Hp) (args : Args) (us : List Value) (vs : List V) (Q : VK) (E : XK), Rg k A → Env0 P w K mg base A outer s H → BindsTo s fd args (ps.zip us) → Vals vs us → sp vs H Q E → codeAny (model P w) A (.call (.ref f) args) (CR (L2.CX P w) outer P w H s Q E) s
/-- a def as it stands behind the top, whatever its defaults are -/
structure FunX (K : PySem.W.Frag) (x qual : Str) (st : Stmt) (f : Addr) (fd : FuncData) : Prop where
  ex : ∃ (oc : Value) (od : Option Addr) (dV kV doc pm : Value) (an : Option Addr) (cdv ct : Value) (osl : Array (Option Value)),
    fd = PySem.W.fnOf x qual (defArgs st) (defBody st) (defScope st) dV kV doc pm an cdv ct ∧ K.lookup f = some ⟨oc, od, .func fd, osl⟩ ∧ PySem.W.codeIn K cdv qual = true
  kp : PySem.W.keepIn K (.ref f) = true
theorem fx {K : PySem.W.Frag} {x qual : Str} {st : Stmt} {f : Addr} {fd : FuncData} (F : Fun K x qual st f fd) : FunX K x qual st f fd := by
  obtain ⟨oc, od, kV, doc, pm, an, cdv, ct, osl, h1, h2, h3⟩ := F.ex
  exact ⟨⟨oc, od, _, kV, doc, pm, an, cdv, ct, osl, h1, h2, h3⟩, F.kp⟩
theorem funx_mk {K : PySem.W.Frag} {x qual : Str} {st : Stmt} {f : Addr} {oc : Value} {od an : Option Addr} {osl : Array (Option Value)} {dV kV doc pm cdv ct : Value} (l : K.lookup f = some ⟨oc, od, .func (PySem.W.fnOf x qual (defArgs st) (defBody st) (defScope st) dV kV doc pm an cdv ct), osl⟩)
    (c : PySem.W.codeIn K cdv qual = true) (k : PySem.W.keepIn K (.ref f) = true) : FunX K x qual st f (PySem.W.fnOf x qual (defArgs st) (defBody st) (defScope st) dV kV doc pm an cdv ct) := ⟨⟨oc, od, dV, kV, doc, pm, an, cdv, ct, osl, rfl, l, c⟩, k⟩
theorem fng_of {P : Program} {w : World} {K : PySem.W.Frag} {mg : Str → Option Value} {base : Heap} {k : Nat} {f : Addr} {x qual : Str} {st : Stmt} {fd : FuncData} {N ps : List Str} {sp : Sp} (F0 : FunX K x qual st f fd) (S0 : FnScope N ps (defScope st)) (len : ∀ vs H Q E, sp vs H Q E → vs.length = ps.length)
    (hb : ∀ (cdv : Value) (A : Around) (outer : List Env) (s : Shared) (H : Hp) (vs : List V) (Q : VK) (E : XK), Rg k (A.deeper (envOfC qual (defScope st) s.heap.objs.size f cdv)) → sp vs H Q E →
      ∃ t, PSs (cxOf (L2.CX P w) P w K mg base N qual (defScope st) f cdv A outer s H E) (defBody st) t ∧ t { nx := fun _ H' => Q .non H', rt := Q } (start N vs) H) : FnG P w K mg base (k + 1) f fd ps sp := by
  obtain ⟨oc, od, dV, kV, doc, pm, an, cdv, ct, osl, rfl, lk, hcd⟩ := F0.ex
  refine ⟨len, fun A outer s H args us vs Q E hr e0 hbd rv hsp => ?_⟩
  have up : ∀ b o, base.get? b = some o → s.heap.get? b = some o := fun b o e => (e0.bs b o e).1
  have inK : K.In s.heap := e0.mod.kin.keeps up
  have kinds : ∀ y ∈ ps.zip us, (defScope st).names.lookup y.1 = some .local ∨ ((defScope st).names.lookup y.1 = some .cell ∧ ((cellsFrom (s.heap.objs.size + 1) (defScope st).names []).lookup y.1).isSome = true) := by
    rintro ⟨n, v⟩ hy
    exact (S0.par n (List.of_mem_zip hy).1).imp id fun z => ⟨z, PySem.W.cellsFrom_some _ _ _ (.inl z)⟩
  refine codeAny_call_function hr.rm.depth (inK _ _ lk) rfl S0.co S0.gen rfl (PySem.W.codeRec_of inK hcd) (hbd _ _ _ _ ?_)
  refine wpAny_newFunctionEnv_cells S0.kind kinds fun env he s1 x => ?_
  subst he
  refine ⟨(e0.mod.nolimit.keeps up).keeps x.toInCall.keep, codeAny_func ?_⟩
  obtain ⟨t, ht, hq⟩ := hb cdv A outer s H vs Q E (hr.deeper _) hsp
  have I1 := inv_start (CX := L2.CX P w) (E := E) S0 hr.rm.hd e0 (len _ _ _ _ hsp) rv x
  have out : ∀ {σ' : L2.St} {H' : Hp} {v : V} {u : Value} {s' : Shared}, Inv (cxOf (L2.CX P w) P w K mg base N qual (defScope st) f cdv A outer s H E) [] σ' H' s' → RelV v u → Q v H' → CE outer P w H s Q u s' :=
    fun J r q => ⟨_, _, J.os, J.bare, J.base, J.hok, r, q⟩
  refine wpAny_mono (ht.run [] s1 (start N vs) H _ I1 hq) (fun fl s' hs => ?_) fun _ _ z => z
  match fl, hs with
  | .ret u, ⟨v, σ', H', J, r, q⟩ => exact out J r q
  | .next, ⟨σ', H', J, q⟩ => exact out (v := V.non) (u := Value.none) J rfl q
  | .brk, ⟨_, _, _, q⟩ => exact q.elim
  | .cont, ⟨_, _, _, q⟩ => exact q.elim
theorem run_g {X : Cx} {W : WX} {k : Nat} {f : Addr} {fd : FuncData} {ps : List Str} {ds : List Value} {dvs : List V} {sp : Sp} {pins : List (Addr × Obj)} {σ : L2.St} {H : Hp} {s : Shared} {Q : VK} {us : List Value} {vs : List V} (tk : Takes X W) (F0 : FnG X.prog X.w X.K X.mg X.base k f fd ps sp) (hr : Rg k X.A) (hb : Binds X.K fd ps ds) (hd : Vals dvs ds)
    (I : Inv X pins σ H s) (r : Vals vs us) (h : sp (vs ++ dvs) H Q (fun cls d H' => W cls d σ H')) : wpAny (model X.prog X.w) X.A (call (.ref f) us) (EP X pins σ Q) X.xe s := by
  have r2 : Vals (vs ++ dvs) (us ++ ds) := r.append hd
  have hl : (us ++ ds).length = ps.length := by rw [← r2.length]; exact F0.len _ _ _ _ h
  refine wpAny_call (codeAny_mono (F0.run X.A X.stack s H ⟨us, []⟩ (us ++ ds) (vs ++ dvs) Q (fun cls d H' => W cls d σ H') hr I.env0 (hb s us I.kIn hl) r2 h) fun r s' hq => ?_)
  match r, hq with
  | .error e, hq => exact passAt tk σ pins H s e s' I hq
  | .ok (.ret u), hq => exact I.after hq
theorem run_gk {X : Cx} {W : WX} {k : Nat} {f : Addr} {fd : FuncData} {ps ks : List Str} {g : List Value → List Value → List Value} {gV : List V → List V → List V} {sp : Sp} {pins : List (Addr × Obj)} {σ : L2.St} {H : Hp} {s : Shared} {Q : VK} {us ws : List Value} {vs zs : List V} (tk : Takes X W) (F0 : FnG X.prog X.w X.K X.mg X.base k f fd ps sp) (hr : Rg k X.A) (hb : KBinds X.K fd ps ks g gV)
    (I : Inv X pins σ H s) (r : Vals vs us) (rz : Vals zs ws) (h : sp (gV vs zs) H Q (fun cls d H' => W cls d σ H')) : wpAny (model X.prog X.w) X.A (call (.ref f) us (ks.zip ws)) (EP X pins σ Q) X.xe s := by
  have r2 := hb.rel r rz
  have hl : (g us ws).length = ps.length := by rw [← r2.length]; exact F0.len _ _ _ _ h
  refine wpAny_call (codeAny_mono (F0.run X.A X.stack s H ⟨us, ks.zip ws⟩ (g us ws) (gV vs zs) Q (fun cls d H' => W cls d σ H') hr I.env0 (hb.to s us ws I.kIn hl) r2 h) fun r s' hq => ?_)
  match r, hq with
  | .error e, hq => exact passAt tk σ pins H s e s' I hq
  | .ok (.ret u), hq => exact I.after hq
/-- the script's call -/
theorem law_g {P : Program} {w : World} {K : PySem.W.Frag} {mg mb : Str → Option Value} {k : Nat} {fa a : Addr} {fd : FuncData} {x : Str} {sp : Sp} {s1 : Shared} {vs : List Value} {ns : List Int} (KX : K.In s1.heap) (hns : s1.heap.Ns mainGlobals mg) (hb : s1.heap.Ns builtinsNs mb) (hbb : ∀ y : Str, y ≠ "__name__" → mb y = bootBuiltins y) (hlim : s1.heap.NoLimit) (hg : s1.gens = #[])
    (ha : s1.heap.get? a = some { cls := .type "list", data := .seq vs.toArray }) (hi : IntsAre vs ns) (hl : ns.length ≤ sizeLine) (hr : Rg k callerA) (F0 : ∀ b : Heap, K.In b → b.Ns mainGlobals mg → FnG P w K mg b k fa fd [x] sp) (hbind : ∀ (s : Shared) (u : Value), BindsTo s fd ⟨[u], []⟩ [(x, u)])
    (hsp : ∀ H : Hp, Only H → SqL K H a (ns.map V.int) → sp [.ref a] H (fun v _ => v = .bl true) fun _ _ _ => False) :
    codeAny (model P w) callerA (.call (.ref fa) ⟨[.ref a], []⟩) (fun r s' => r = .ok (.ret (.bool true)) ∧ OldK s1.heap s'.heap ∧ s'.os = s1.os ∧ AllBare s'.gens) s1 := by
  have rv := vals_ints hi
  have go : ∀ H : Hp, Only H → SqL K H a (ns.map V.int) → HOk P w H s1.heap → (∀ b, H b ≠ none → b = a) → (H a ≠ none → K.lookup a = none) → codeAny (model P w) callerA (.call (.ref fa) ⟨[.ref a], []⟩) (fun r s' => r = .ok (.ret (.bool true)) ∧ OldK s1.heap s'.heap ∧ s'.os = s1.os ∧ AllBare s'.gens) s1 := by
    intro H hO hS hok hA hK
    have non : ∀ {b : Addr} {o : Obj}, s1.heap.get? b = some o → (∀ es ep, o.data = .dict es ep → True) → b ≠ a → H b = none := fun {b o} _ _ n => Classical.byContradiction fun z => n (hA b z)
    have isL : ∀ {o : Obj} {es : Array DictEntry} {ep : Nat}, s1.heap.get? a = some o → o.data = .dict es ep → False := fun {o es ep} e d => by
      rw [ha] at e
      cases e
      cases (show Data.seq vs.toArray _ = Data.dict es ep from d)
    have nsb : ∀ {b : Addr} {m : Str → Option Value}, s1.heap.Ns b m → (hidT s1.heap H).Ns b m := fun {b m} ⟨o, es, ep, e, d, r⟩ =>
      ⟨o, es, ep, hidT_get e (Classical.byContradiction fun z => by have q := hA b z; subst q; exact isL e d), d, r⟩
    have kb : K.In (hidT s1.heap H) := fun b o e => hidT_get (KX b o e) (Classical.byContradiction fun z => by
      have q := hA b z
      subst q
      rw [hK z] at e
      cases e)
    obtain ⟨mc, l1, l2⟩ := hlim
    have e0 : Env0 P w K mg (hidT s1.heap H) callerA [] s1 H := ⟨rfl, ⟨kb, nsb hns, ⟨mb, nsb hb, hbb⟩, mc, nsb l1, l2⟩, fun b o e => of_hidT e, Nat.le_of_eq (hidT_size _ _), trivial, fun b z => (nomatch (show b ∈ ([] : List Addr) from z)), hok, .of_eq hg⟩
    refine codeAny_mono ((F0 _ kb (nsb hns)).run callerA [] s1 H ⟨[.ref a], []⟩ [.ref a] [.ref a] _ _ hr e0 (hbind s1 (.ref a)) (.cons rfl .nil) (hsp H hO hS)) fun r s' h => ?_
    match r, h with
    | .error e, ⟨_, _, _, _, _, _, _, _, _, _, _, _, z⟩ => exact z.elim
    | .ok (.ret u), ⟨v, H', os, bare, un, hok', r', q⟩ =>
      have q' : v = .bl true := q
      subst q'
      have r'' : u = Value.bool true := r'
      subst r''
      refine ⟨rfl, OldK.of_keep fun b o e => ?_, os, bare⟩
      rcases hO b with z | ⟨ob, xs, z⟩
      · exact un.keep b o e z (fun z => nomatch (show b ∈ ([] : List Addr) from z)) (fun z => nomatch z)
      · obtain ⟨g1, _⟩ := hok b _ z
        obtain ⟨g2, _⟩ := hok' b _ (un.frzs b ob _ z)
        rw [e] at g1
        cases g1
        exact g2
  cases hk : K.lookup a with
  | some o =>
    have e := KX a o hk
    rw [ha] at e
    cases e
    exact go (fun _ => none) (fun _ => .inl rfl) (.inr ⟨_, vs.toArray, _, hk, rfl, rfl, rfl, by rw [List.size_toArray, hi.length]; exact hl, by simpa using rv⟩) (fun b u z => nomatch (show (none : Option HO) = some u from z)) (fun b z => absurd rfl z) fun z => absurd rfl z
  | none =>
    have at_ : ∀ {b : Addr} {u : HO}, (if b = a then some (HO.frz { cls := .type "list", data := .seq vs.toArray } (.lst (ns.map V.int))) else none) = some u → b = a ∧ u = HO.frz { cls := .type "list", data := .seq vs.toArray } (.lst (ns.map V.int)) := fun {b u} z => by
      by_cases q : b = a
      · rw [if_pos q] at z; cases z; exact ⟨q, rfl⟩
      · rw [if_neg q] at z; cases z
    refine go (fun b => if b = a then some (.frz { cls := .type "list", data := .seq vs.toArray } (.lst (ns.map V.int))) else none) (fun b => ?_) (.inl (.inr ⟨_, if_pos rfl⟩)) (fun b u z => ?_) (fun b z => ?_) fun _ => hk
    · by_cases q : b = a
      · exact .inr ⟨_, _, if_pos q⟩
      · exact .inl (if_neg q)
    · obtain ⟨q, rfl⟩ := at_ z
      subst q
      exact ⟨ha, by rw [List.length_map]; exact hl, vs, _, rv, ha⟩
    · exact Classical.byContradiction fun q => z (if_neg q)
end Z
namespace Z
open PySem L2
open PyProof.Rows (envOfC)
/-! ### defs and their calls -/
inductive Fr where
  | ok (t : T) (ts : List T) | ex (x : Ex) (ts : List T) | no
abbrev Fn := List T → Fr
def parS (L : Nat) : Nat → List T → S
  | _, [] => []
  | k, (d, 0) :: ts => .ow d 0 :: parS L (k + 1) ts
  | k, (_, _ + 1) :: ts => .pa (L + k) :: parS L (k + 1) ts
def st0 (L : Nat) (ts : List T) : S := parS L 0 ts ++ List.replicate (L - ts.length) .un ++ ts.map fun t => .ow t.1 t.2
def cells : S → Option (List T)
  | [] => some []
  | .ow d n :: r => (cells r).map ((d, n) :: ·)
  | _ => none
def fnOf (L : Nat) (body : M Fl) : Fn := fun ts => match body (st0 L ts) with
  | .ok .nx s => match cells (s.drop L) with
    | some ts' => .ok (.non, 0) ts'
    | none => .no
  | .ok (.rt t) s => match cells (s.drop L) with
    | some ts' => .ok t ts'
    | none => .no
  | .ex x s => match cells (s.drop L) with
    | some ts' => .ex x ts'
    | none => .no
  | _ => .no

structure Ar (c : Zc) (Z H : Hp) (ts : List T) (vs : List V) (fp : List Addr) : Prop where
  sub : Sub Z H
  lr : LR (fun (t : T) v f => RT c Z H t.2 t.1 v f) ts vs fp
  nd : fp.Nodup
  dj : ∀ a ∈ fp, Z a = none
def spZ (c : Zc) (np : Nat) (fn : Fn) : Sp := fun vs H Q E => ∃ Z ts fp, ts.length = np ∧ Ar c Z H ts vs fp ∧ match fn ts with
  | .ok t ts' => ∀ Z' H' v fp', Stp fp Z H fp' Z' H' → Ar c Z' H' (ts' ++ [t]) (vs ++ [v]) fp' → Q v H'
  | .ex x ts' => ∀ Z' H' fp' cls dd, Stp fp Z H fp' Z' H' → Ar c Z' H' ts' vs fp' → IsX c Z' H' x cls dd → E cls dd H'
  | .no => False

section
variable {c : Zc} {Z H Z' H' : Hp} {fp : List Addr}
theorem parS_lr {L : Nat} {vc : Nat → Option V} : ∀ {ts : List T} {vs : List V} {k : Nat} {fp : List Addr}, LR (fun (t : T) v f => RT c Z H t.2 t.1 v f) ts vs fp → (∀ (j : Nat) v, vs[j]? = some v → vc (L + (k + j)) = some v) →
    LR (CeR c vc Z H) (parS L k ts) (vs.map some) []
  | [], [], _, _, _, _ => rfl
  | (d, 0) :: ts, v :: vs, k, fp, ⟨f, g, e, h1, h2⟩, hv => ⟨[], [], rfl, ⟨v, rfl, h1.1, rfl⟩, parS_lr h2 fun j w hj => by
      have := hv (j + 1) w (by simpa using hj)
      rwa [show k + 1 + j = k + (j + 1) by omega]⟩
  | (d, n + 1) :: ts, v :: vs, k, fp, ⟨f, g, e, h1, h2⟩, hv => ⟨[], [], rfl, ⟨rfl, v, rfl, hv 0 v rfl⟩, parS_lr h2 fun j w hj => by
      have := hv (j + 1) w (by simpa using hj)
      rwa [show k + 1 + j = k + (j + 1) by omega]⟩
  | [], _ :: _, _, _, h, _ => h.elim
  | _ :: _, [], _, _, h, _ => h.elim
theorem un_lr {vc : Nat → Option V} : ∀ (n : Nat), LR (CeR c vc Z H) (List.replicate n .un) (List.replicate n none) []
  | 0 => rfl
  | n + 1 => ⟨[], [], rfl, rfl, un_lr n⟩
theorem ow_lr {vc : Nat → Option V} : ∀ {ts : List T} {vs : List V} {fp : List Addr}, LR (fun (t : T) v f => RT c Z H t.2 t.1 v f) ts vs fp → LR (CeR c vc Z H) (ts.map fun t => .ow t.1 t.2) (vs.map some) fp
  | [], [], _, h => h
  | t :: ts, v :: vs, _, ⟨f, g, e, h1, h2⟩ => ⟨f, g, e, ⟨v, rfl, h1⟩, ow_lr h2⟩
  | [], _ :: _, _, h => h.elim
  | _ :: _, [], _, h => h.elim
theorem lr_ow {vc : Nat → Option V} : ∀ {ts : List T} {vs : List V} {fp : List Addr}, LR (CeR c vc Z H) (ts.map fun t => .ow t.1 t.2) (vs.map some) fp → LR (fun (t : T) v f => RT c Z H t.2 t.1 v f) ts vs fp
  | [], [], _, h => h
  | t :: ts, v :: vs, _, ⟨f, g, e, ⟨v', e', h1⟩, h2⟩ => by
    cases e'
    exact ⟨f, g, e, h1, lr_ow h2⟩
  | [], _ :: _, _, h => h.elim
  | _ :: _, [], _, h => h.elim
theorem cells_eq : ∀ {s : S} {ts : List T}, cells s = some ts → s = ts.map fun t => .ow t.1 t.2
  | [], ts, h => by cases h; rfl
  | .ow d n :: r, ts, h => by
    cases q : cells r with
    | none => simp only [cells, q] at h; cases h
    | some ts' =>
      simp only [cells, q, Option.map_some, Option.some.injEq] at h
      subst h
      rw [cells_eq q]
      rfl
  | .un :: _, _, h => by cases h
  | .pa _ :: _, _, h => by cases h
theorem parS_len {L : Nat} : ∀ {ts : List T} {k : Nat}, (parS L k ts).length = ts.length
  | [], _ => rfl
  | (d, 0) :: ts, k => by simp [parS, parS_len (ts := ts)]
  | (d, n + 1) :: ts, k => by simp [parS, parS_len (ts := ts)]
theorem st0_len {L : Nat} {ts : List T} (hl : ts.length ≤ L) : L ≤ (st0 L ts).length := by
  simp only [st0, List.length_append, parS_len, List.length_replicate, List.length_map]
  omega
theorem st0_wl {L : Nat} {ts : List T} {vs : List V} (a : Ar c Z H ts vs fp) (hl : ts.length ≤ L) :
    Wl c L (fun j => if L ≤ j then vs[j - L]? else none) Z H (vs.map some ++ List.replicate (L - vs.length) none) (vs.map some) (st0 L ts) [] fp := by
  have e := a.lr.len
  refine ⟨by simp; omega, st0_len hl, fun j v h => ?_, a.sub, ?_, a.nd, a.dj⟩
  · by_cases q : L ≤ j
    · rw [if_pos q] at h
      exact ⟨q, by rw [List.getElem?_map, h]; rfl⟩
    · rw [if_neg q] at h; cases h
  · rw [List.append_nil]
    unfold st0
    have h1 := parS_lr (c := c) (L := L) (vc := fun j => if L ≤ j then vs[j - L]? else none) (k := 0) a.lr fun j v hj => by
      rw [if_pos (by omega), show L + (0 + j) - L = j by omega]; exact hj
    have h2 := LR.append (LR.append h1 (un_lr (c := c) (Z := Z) (H := H) (vc := fun j => if L ≤ j then vs[j - L]? else none) (L - ts.length))) (ow_lr (vc := fun j => if L ≤ j then vs[j - L]? else none) a.lr)
    rw [e] at h2
    rw [e]
    simpa using h2
/-- what the callers see behind the body -/
theorem wl_end {L : Nat} {vc : Nat → Option V} {σ : St} {vs : List V} {s : S} {ts : List T} (w : Wl c L vc Z H σ (vs.map some) s [] fp) (hc : cells (s.drop L) = some ts) : ∃ g, (∀ a ∈ g, a ∈ fp) ∧ Ar c Z H ts vs g := by
  have lr := w.lr
  rw [List.append_nil] at lr
  have hl := lr.len
  rw [List.length_append, List.length_map, w.len] at hl
  have e : s = s.take L ++ s.drop L := (List.take_append_drop L s).symm
  rw [e] at lr
  obtain ⟨f, g, e2, h1, h2⟩ := LR.split (by rw [List.length_take, w.len]; omega) lr
  rw [cells_eq hc] at h2
  have nd := w.nd
  rw [e2] at nd
  exact ⟨g, fun a ha => by rw [e2]; exact List.mem_append_right _ ha, w.sub, lr_ow h2, (List.nodup_append.mp nd).2.1, fun a ha => w.dj a (by rw [e2]; exact List.mem_append_right _ ha)⟩
theorem wl_endT {L : Nat} {vc : Nat → Option V} {σ : St} {vs : List V} {v : V} {t : T} {s : S} {ts : List T} (w : Wl c L vc Z H σ (vs.map some ++ [some v]) s [.ow t.1 t.2] fp) (hvc : ∀ j v, vc j = some v → L ≤ j ∧ (vs.map some)[j - L]? = some (some v)) (hc : cells (s.drop L) = some ts) :
    ∃ g, (∀ a ∈ g, a ∈ fp) ∧ Ar c Z H (ts ++ [t]) (vs ++ [v]) g := by
  have w' : Wl c L vc Z H σ (vs.map some ++ [some v]) s ([] ++ [.ow t.1 t.2]) fp := w
  obtain ⟨g, f, e, ⟨v', e', r⟩, w2⟩ := w'.pop hvc
  cases e'
  obtain ⟨g2, h1, a⟩ := wl_end w2 hc
  have nd := w.nd
  rw [e] at nd
  have n1 := List.nodup_append.mp nd
  refine ⟨g2 ++ f, fun x hx => ?_, w.sub, LR.append a.lr (LR.one r), List.nodup_append.mpr ⟨a.nd, n1.2.1, fun x hx y hy => n1.2.2 x (h1 x hx) y hy⟩, fun x hx => ?_⟩
  · rw [e]
    rcases List.mem_append.mp hx with hx | hx
    · exact List.mem_append_left _ (h1 x hx)
    · exact List.mem_append_right _ hx
  · rcases List.mem_append.mp hx with hx | hx
    · exact a.dj x hx
    · exact w.dj x (by rw [e]; exact List.mem_append_right _ hx)
/-- THE RULE of a def: its body's mirror -/
theorem body_rd {L : Nat} {body : M Fl} {vs : List V} {Q : VK} {E : XK} {np : Nat} (hn : np ≤ L) (h : spZ c np (fnOf L body) vs H Q E) :
    rdS c L (fun cls dd _ H' => E cls dd H') body { nx := fun _ H' => Q .non H', rt := Q } (vs.map some ++ List.replicate (L - vs.length) none) H := by
  obtain ⟨Z, ts, fp, hl, a, h⟩ := h
  have w := st0_wl a (L := L) (by omega)
  refine ⟨Z, _, _, _, _, fp, w, ?_⟩
  unfold fnOf at h
  cases q : body (st0 L ts) with
  | no => simp only [q] at h
  | ex x s =>
    simp only [q] at h
    cases q2 : cells (s.drop L) with
    | none => simp only [q2] at h
    | some ts' =>
      simp only [q2] at h
      intro Z1 H1 σ1 fp1 cls dd s1 w1 hx
      obtain ⟨g, hg, a1⟩ := wl_end w1 q2
      exact h Z1 H1 g cls dd (s1.trans (Stp.less hg)) a1 hx
  | ok t s =>
    cases t with
    | nx =>
      simp only [q] at h
      cases q2 : cells (s.drop L) with
      | none => simp only [q2] at h
      | some ts' =>
        simp only [q2] at h
        intro Z1 H1 σ1 fp1 s1 w1
        have w2 : Wl c L _ Z1 H1 σ1 (vs.map some ++ [some .non]) s [.ow .non 0] fp1 := w1.pushF .non
        obtain ⟨g, hg, a1⟩ := wl_endT (t := (.non, 0)) w2 w.hvc q2
        exact h Z1 H1 .non g (s1.trans (Stp.less hg)) a1
    | rt t =>
      simp only [q] at h
      cases q2 : cells (s.drop L) with
      | none => simp only [q2] at h
      | some ts' =>
        simp only [q2] at h
        intro Z1 H1 σ1 v fp1 s1 w1
        obtain ⟨g, hg, a1⟩ := wl_endT w1 w.hvc q2
        exact h Z1 H1 v g (s1.trans (Stp.less hg)) a1
    | bk => simp only [q] at h
    | ct => simp only [q] at h
end

section
variable {P : Program} {w : World} {K : PySem.W.Frag} {mg : Str → Option Value} {base : Heap}
theorem ok_fn {c : Zc} {x qual : Str} {st : Stmt} {f : Addr} {fd : FuncData} {N ps : List Str} {k : Nat} {body : M Fl} (F0 : FunX K x qual st f fd) (S0 : FnScope N ps (defScope st)) (hn : ps.length ≤ N.length)
    (hb : ∀ (cdv : Value) (A : Around) (outer : List Env) (s : Shared) (H : Hp) (E : XK) (W : WX), Rg k (A.deeper (envOfC qual (defScope st) s.heap.objs.size f cdv)) → Takes (cxOf (L2.CX P w) P w K mg base N qual (defScope st) f cdv A outer s H E) W →
      ZSs (cxOf (L2.CX P w) P w K mg base N qual (defScope st) f cdv A outer s H E) c N.length W (defBody st) body) : FnG P w K mg base (k + 1) f fd ps (spZ c ps.length (fnOf N.length body)) := by
  refine fng_of F0 S0 (fun vs H Q E h => ?_) fun cdv A outer s H vs Q E hr h => ⟨_, hb cdv A outer s H E (fun cls dd _ H' => E cls dd H') hr (takes_of rfl rfl rfl rfl), ?_⟩
  · obtain ⟨Z, ts, fp, hl, a, _⟩ := h
    rw [← a.lr.len, hl]
  · exact body_rd hn h
end

/-! ### arguments -/
inductive Ag where
  | bo (i : Nat) | tm (m : M T)
abbrev Tk := T × Option Nat
def Ag.ev : Ag → M Tk
  | .tm m => fun s => match m s with
    | .ok t s' => .ok (t, none) s'
    | .ex x s' => .ex x s'
    | .no => .no
  | .bo i => fun s => match tre s i with
    | some (d, 0) => .ok ((d, 0), none) s
    | some (d, n + 1) => .ok ((d, n + 1), some (loc s i)) (s.set (loc s i) .un)
    | none => .no
def Ag.op : Ag → Opd
  | .tm m => .tm m
  | .bo i => .nm i
/-- what is borrowed is taken off behind all arguments -/
def takes : List Ag → List (Option T) → S → Option (List Tk × S)
  | [], [], s => some ([], s)
  | .bo i :: as, none :: hs, s => match tre s i with
    | some (d, 0) => match takes as hs s with
      | some (tks, s2) => some (((d, 0), none) :: tks, s2)
      | none => none
    | some (d, n + 1) => match takes as hs (s.set (loc s i) .un) with
      | some (tks, s2) => some (((d, n + 1), some (loc s i)) :: tks, s2)
      | none => none
    | none => none
  | .tm _ :: as, some t :: hs, s => match takes as hs s with
    | some (tks, s2) => some ((t, none) :: tks, s2)
    | none => none
  | _, _, _ => none
def eva (as : List Ag) : M (List Tk) := fun s => match evs (as.map Ag.op) s with
  | .ok hs s1 => match takes as hs s1 with
    | some (tks, s2) => .ok tks s2
    | none => .no
  | .ex x s1 => .ex x s1
  | .no => .no
/-- what was borrowed comes back -/
def putb : List Tk → List T → S → Option S
  | [], _, s => some s
  | (_, none) :: r, _ :: ts, s => putb r ts s
  | (_, some j) :: r, t :: ts, s => match s[j]? with
    | some .un => putb r ts (s.set j (.ow t.1 t.2))
    | _ => none
  | _ :: _, [], _ => none
def mCall (fn : Fn) (as : List Ag) (ds : List D) : M T := fun s => match eva as s with
  | .ok tks s1 => match fn (tks.map (·.1) ++ ds.map fun d => (d, 0)) with
    | .ok t ts' => match putb tks ts' s1 with
      | some s2 => .ok t s2
      | none => .no
    | .ex x ts' => match putb tks ts' s1 with
      | some s2 => .ex x s2
      | none => .no
    | .no => .no
  | .ex x s1 => .ex x s1
  | .no => .no
section
variable {c : Zc} {L : Nat} {W : WX} {vc : Nat → Option V} {Z H Z' H' Z1 H1 : Hp} {σ : St} {vx : List (Option V)} {st tx : S} {fp fp1 : List Addr}
def tAg (c : Zc) (L : Nat) (W : WX) : Ag → TE
  | .tm m => rd c L W m
  | .bo i => fun σ H Q => i < L ∧ tVar i σ H Q
def tAs (c : Zc) (L : Nat) (W : WX) : List Ag → TA
  | [] => tNil
  | a :: as => tCons (tAg c L W a) (tAs c L W as)
/-- a slot's tree is taken off and stands on top -/
theorem Wl.take {i : Nat} {d : D} {n : Nat} (w : Wl c L vc Z H σ vx st tx fp) (hi : i < L) (e : tre st i = some (d, n)) : ∃ v fp', σ[i]? = some (some v) ∧ (σ ++ vx)[loc st i]? = some (some v) ∧ (∀ a ∈ fp', a ∈ fp) ∧ Wl c L vc Z H σ (vx ++ [some v]) (st.set (loc st i) .un) (tx ++ [.ow d n]) fp' := by
  obtain ⟨v, _, e1, e2, _, _⟩ := w.look hi e
  have hx : st[loc st i]? = some (.ow d n) := by
    unfold tre at' at e
    cases q2 : st[loc st i]? with
    | none => rw [q2] at e; cases e
    | some y =>
      rw [q2] at e
      cases y with
      | ow d' n' => cases e; rfl
      | un => cases e
      | pa j => cases e
  obtain ⟨ov, g1, f, g2, k1, k2, k3, k4⟩ := w.upd (y := .un) hx
  rw [e2] at k1
  cases k1
  obtain ⟨v', e', r⟩ := k3
  cases e'
  have nd := w.nd
  rw [k2] at nd
  have n1 := List.nodup_append.mp nd
  have n2 := List.nodup_append.mp n1.1
  have w2 := k4 Z H .un [] (Sm.refl Z) w.sub (fun _ _ _ => rfl) rfl (fun _ h => nomatch h) (fun _ h => .inl h) .nil (fun _ h => nomatch h)
  have mf : ∀ a ∈ f, a ∈ fp := fun a ha => by rw [k2]; exact List.mem_append_left _ (List.mem_append_right _ ha)
  have w3 := w2.push (d := d) (n := n) (v := v) (f := f) (Sm.refl Z) w.sub (fun _ _ => rfl) r (fun a ha hb => ?_) w2.dj n2.2.1 fun a ha => w.dj a (mf a ha)
  · refine ⟨v, _, e1, e2, fun a ha => ?_, w3⟩
    rcases List.mem_append.mp ha with ha | ha
    · rw [List.append_nil] at ha
      rw [k2]
      rcases List.mem_append.mp ha with ha | ha
      · exact List.mem_append_left _ (List.mem_append_left _ ha)
      · exact List.mem_append_right _ ha
    · exact mf a ha
  · rw [List.append_nil] at hb
    rcases List.mem_append.mp hb with hb | hb
    · exact n2.2.2 a hb a ha rfl
    · exact n1.2.2 a (List.mem_append_right _ ha) a hb rfl
theorem lowp {i : Nat} {t : T} (w : Wl c L vc Z H σ vx st tx fp) (e : tre st i = some t) : loc st i < (σ ++ vx).length - tx.length := by
  have hl := w.lr.len
  have hx : loc st i < st.length := by
    unfold tre at' at e
    cases q2 : st[loc st i]? with
    | none => rw [q2] at e; cases e
    | some y => exact (List.getElem?_eq_some_iff.mp q2).1
  simp only [List.length_append] at hl ⊢
  omega
/-- where what was taken came from -/
def TkR (vs : List (Option V)) (n0 : Nat) (tk : Tk) (v : V) : Prop := ∀ j, tk.2 = some j → j < n0 ∧ vs[j]? = some (some v)
theorem tAs_ops : ∀ as : List Ag, tAs c L W as = tOs c L W (as.map Ag.op)
  | [] => rfl
  | .bo i :: as => by
    show tCons _ (tAs c L W as) = tCons _ (tOs c L W (as.map Ag.op))
    rw [tAs_ops as]
    rfl
  | .tm m :: as => by
    show tCons _ (tAs c L W as) = tCons _ (tOs c L W (as.map Ag.op))
    rw [tAs_ops as]
    rfl
/-- the top is taken off the stack -/
theorem Wl.off {v : V} {d : D} {n : Nat} (w : Wl c L vc Z H σ (vx ++ [some v]) st (tx ++ [.ow d n]) fp) (hvc : ∀ j v, vc j = some v → L ≤ j ∧ vx[j - L]? = some (some v)) : ∃ g f, fp = g ++ f ∧ Wl c L vc Z H σ vx st tx g ∧ RT c Z H n d v f := by
  have lr := w.lr
  rw [← List.append_assoc, ← List.append_assoc] at lr
  have hl : (st ++ tx).length = (σ ++ vx).length := by
    have := lr.len
    simp only [List.length_append, List.length_cons, List.length_nil] at this ⊢
    omega
  obtain ⟨g, f, e, h1, h2⟩ := LR.split hl lr
  obtain ⟨ov, e2, r⟩ := LR.of_one h2
  cases e2
  obtain ⟨v', e3, r⟩ := r
  cases e3
  have nd := w.nd
  rw [e] at nd
  exact ⟨g, f, e, ⟨w.len, w.hst, hvc, w.sub, h1, (List.nodup_append.mp nd).1, fun a ha => w.dj a (by rw [e]; exact List.mem_append_left _ ha)⟩, r⟩
theorem takes_ok {as : List Ag} : ∀ {hs : List (Option T)} {vs : List V} {vy : List (Option V)} {ty st s : S} {g f : List Addr} {tks : List Tk}, HR σ (as.map Ag.op) hs vs vy ty → (∀ i, Ag.bo i ∈ as → i < L) → Wl c L vc Z H σ vx st tx g → LR (CeR c vc Z H) ty vy f → (g ++ f).Nodup → (∀ a ∈ f, Z a = none) → takes as hs st = some (tks, s) →
    ∃ g' f', Wl c L vc Z H σ vx s tx g' ∧ LR (CeR c vc Z H) ((tks.map (·.1)).map fun t => .ow t.1 t.2) (vs.map some) f' ∧ (g' ++ f').Nodup ∧ (∀ a ∈ f', Z a = none) ∧ (∀ a ∈ g' ++ f', a ∈ g ++ f) ∧ Paired (fun tk v => TkR (σ ++ vx) ((σ ++ vx).length - tx.length) tk v) tks vs ∧ vs.length = tks.length := by
  induction as with
  | nil =>
    intro hs vs vy ty st s g f tks h _ w l nd dj e
    cases h
    cases e
    obtain ⟨_, rfl⟩ := LR.nil l
    exact ⟨g, [], w, rfl, nd, (fun _ h => nomatch h), fun a h => h, .nil, rfl⟩
  | cons m ms ih =>
    intro hs vs vy ty st s g f tks h hL w l nd dj e
    have hL' : ∀ i, Ag.bo i ∈ ms → i < L := fun i hi => hL i (List.mem_cons_of_mem _ hi)
    have n0 := List.nodup_append.mp nd
    cases m with
    | tm m =>
      cases h with
      | @tm _ t v _ hs' vs' vy' ty' h =>
        obtain ⟨f1, f2, rfl, r1, l2⟩ := l
        have n1 := List.nodup_append.mp n0.2.1
        cases q : takes ms hs' st with
        | none => simp only [takes, q] at e; cases e
        | some z =>
          obtain ⟨tks', s'⟩ := z
          simp only [takes, q] at e
          cases e
          obtain ⟨g', f', k1, k2, k3, k4, k5, k6, k7⟩ := ih h hL' w l2 (List.nodup_append.mpr ⟨n0.1, n1.2.1, fun a ha b hb => n0.2.2 a ha b (List.mem_append_right _ hb)⟩) (fun a ha => dj a (List.mem_append_right _ ha)) q
          have n2 := List.nodup_append.mp k3
          have apart : ∀ a ∈ f1, ∀ b ∈ g' ++ f', a ≠ b := fun a ha b hb e => by
            rcases List.mem_append.mp (k5 b hb) with z | z
            · exact n0.2.2 b z a (List.mem_append_left _ ha) e.symm
            · exact n1.2.2 a ha b z e
          refine ⟨g', f1 ++ f', k1, ⟨f1, f', rfl, r1, k2⟩, List.nodup_append.mpr ⟨n2.1, List.nodup_append.mpr ⟨n1.1, n2.2.1, fun a ha b hb => apart a ha b (List.mem_append_right _ hb)⟩, fun a ha b hb e => ?_⟩, fun a ha => ?_, fun a ha => ?_, .cons (fun _ h => nomatch h) k6, by simp [k7]⟩
          · rcases List.mem_append.mp hb with hb | hb
            · exact apart b hb a (List.mem_append_left _ ha) e.symm
            · exact n2.2.2 a ha b hb e
          · rcases List.mem_append.mp ha with ha | ha
            · exact dj a (List.mem_append_left _ ha)
            · exact k4 a ha
          · have up : ∀ a ∈ g' ++ f', a ∈ g ++ (f1 ++ f2) := fun a ha => by
              rcases List.mem_append.mp (k5 a ha) with z | z
              · exact List.mem_append_left _ z
              · exact List.mem_append_right _ (List.mem_append_right _ z)
            rcases List.mem_append.mp ha with ha | ha
            · exact up a (List.mem_append_left _ ha)
            · rcases List.mem_append.mp ha with ha | ha
              · exact List.mem_append_right _ (List.mem_append_left _ ha)
              · exact up a (List.mem_append_right _ ha)
    | bo i =>
      have hi := hL i List.mem_cons_self
      cases h with
      | @nm _ v _ hs' vs' _ _ hσ h =>
        cases q0 : tre st i with
        | none => simp only [takes, q0] at e; cases e
        | some t =>
          obtain ⟨d, n⟩ := t
          cases n with
          | zero =>
            cases q : takes ms hs' st with
            | none => simp only [takes, q0, q] at e; cases e
            | some z =>
              obtain ⟨tks', s'⟩ := z
              simp only [takes, q0, q] at e
              cases e
              obtain ⟨g', f', k1, k2, k3, k4, k5, k6, k7⟩ := ih h hL' w l nd dj q
              obtain ⟨v', fv, e3, _, r, _⟩ := w.look hi q0
              rw [hσ] at e3
              cases e3
              exact ⟨g', f', k1, ⟨[], f', rfl, ⟨v, rfl, ⟨r.1, rfl⟩⟩, k2⟩, k3, k4, k5, .cons (fun _ h => nomatch h) k6, by simp [k7]⟩
          | succ n =>
            cases q : takes ms hs' (st.set (loc st i) .un) with
            | none => simp only [takes, q0, q] at e; cases e
            | some z =>
              obtain ⟨tks', s'⟩ := z
              simp only [takes, q0, q] at e
              cases e
              obtain ⟨v', fp', e1, e2, hf, w2⟩ := w.take hi q0
              rw [hσ] at e1
              cases e1
              have nd2 := w2.nd
              have dj2 := w2.dj
              obtain ⟨g1, f1, rfl, w3, r⟩ := w2.off w.hvc
              have n1 := List.nodup_append.mp nd2
              obtain ⟨g', f', k1, k2, k3, k4, k5, k6, k7⟩ := ih h hL' w3 l (List.nodup_append.mpr ⟨n1.1, n0.2.1, fun a ha b hb => n0.2.2 a (hf a (List.mem_append_left _ ha)) b hb⟩) dj q
              have n2 := List.nodup_append.mp k3
              have apart : ∀ a ∈ f1, ∀ b ∈ g' ++ f', a ≠ b := fun a ha b hb e => by
                rcases List.mem_append.mp (k5 b hb) with z | z
                · exact n1.2.2 b z a ha e.symm
                · exact n0.2.2 a (hf a (List.mem_append_right _ ha)) b z e
              refine ⟨g', f1 ++ f', k1, ⟨f1, f', rfl, ⟨v, rfl, r⟩, k2⟩, List.nodup_append.mpr ⟨n2.1, List.nodup_append.mpr ⟨n1.2.1, n2.2.1, fun a ha b hb => apart a ha b (List.mem_append_right _ hb)⟩, fun a ha b hb e => ?_⟩, fun a ha => ?_, fun a ha => ?_, .cons (fun j hj => by cases hj; exact ⟨lowp w q0, e2⟩) k6, by simp [k7]⟩
              · rcases List.mem_append.mp hb with hb | hb
                · exact apart b hb a (List.mem_append_left _ ha) e.symm
                · exact n2.2.2 a ha b hb e
              · rcases List.mem_append.mp ha with ha | ha
                · exact dj2 a (List.mem_append_right _ ha)
                · exact k4 a ha
              · have up : ∀ a ∈ g' ++ f', a ∈ g ++ f := fun a ha => by
                  rcases List.mem_append.mp (k5 a ha) with z | z
                  · exact List.mem_append_left _ (hf a (List.mem_append_left _ z))
                  · exact List.mem_append_right _ z
                rcases List.mem_append.mp ha with ha | ha
                · exact up a (List.mem_append_left _ ha)
                · rcases List.mem_append.mp ha with ha | ha
                  · exact List.mem_append_left _ (hf a (List.mem_append_right _ ha))
                  · exact up a (List.mem_append_right _ ha)
theorem tAs_run {as : List Ag} {Q : List V → Hp → Prop} (w : Wl c L vc Z H σ vx st tx fp) (hL : ∀ i, Ag.bo i ∈ as → i < L)
    (h : match eva as st with
      | .ok tks s => ∀ Z' H' vs fp', Stp fp Z H fp' Z' H' → vs.length = tks.length → Paired (fun tk v => TkR (σ ++ vx) ((σ ++ vx).length - tx.length) tk v) tks vs → Wl c L vc Z' H' σ (vx ++ vs.map some) s (tx ++ (tks.map (·.1)).map fun t => .ow t.1 t.2) fp' → Q vs H'
      | .ex x s => ∀ Z' H' fp' cls dd, Stp fp Z H fp' Z' H' → (∃ vy ty, vy.length = ty.length ∧ Wl c L vc Z' H' σ (vx ++ vy) s (tx ++ ty) fp') → IsX c Z' H' x cls dd → W cls dd σ H'
      | .no => False) : tAs c L W as σ H Q := by
  rw [tAs_ops]
  refine tOs_run w (fun i hi => ?_) ?_
  · obtain ⟨a, ha, e⟩ := List.mem_map.mp hi
    cases a with
    | tm m => cases e
    | bo j => cases e; exact hL _ ha
  · unfold eva at h
    cases q : evs (as.map Ag.op) st with
    | no => simp only [q] at h
    | ex x s =>
      simp only [q] at h
      exact fun Z2 H2 fp2 cls dd s2 w2 x2 => h Z2 H2 fp2 cls dd s2 ⟨[], [], rfl, by simpa using w2⟩ x2
    | ok hs s =>
      simp only [q] at h
      cases q2 : takes as hs s with
      | none => simp only [q2] at h
      | some z =>
        obtain ⟨tks, s2⟩ := z
        simp only [q2] at h
        intro Z1 H1 vs vy ty fp1 s1 w1 hr
        have lr := w1.lr
        rw [← List.append_assoc, ← List.append_assoc] at lr
        have hl : (s ++ tx).length = (σ ++ vx).length := by
          have h1 := lr.len
          have h2 := hr.len
          simp only [List.length_append] at h1 ⊢
          omega
        obtain ⟨g, f, rfl, l1, l2⟩ := LR.split hl lr
        have nd := w1.nd
        have dj := w1.dj
        have w2 : Wl c L vc Z1 H1 σ vx s tx g := ⟨w1.len, w1.hst, w.hvc, w1.sub, l1, (List.nodup_append.mp nd).1, fun a ha => dj a (List.mem_append_left _ ha)⟩
        obtain ⟨g', f', k1, k2, k3, k4, k5, k6, k7⟩ := takes_ok hr hL w2 l2 nd (fun a ha => dj a (List.mem_append_right _ ha)) q2
        refine h Z1 H1 vs (g' ++ f') (s1.trans (Stp.less k5)) k7 k6 ⟨k1.len, k1.hst, fun j v e => ?_, k1.sub, ?_, k3, fun a ha => (List.mem_append.mp ha).elim (k1.dj a) (k4 a)⟩
        · obtain ⟨z1, z2⟩ := w.hvc j v e
          exact ⟨z1, by rw [List.getElem?_append_left (List.getElem?_eq_some_iff.mp z2).1]; exact z2⟩
        · rw [← List.append_assoc, ← List.append_assoc]
          exact LR.append k1.lr k2
end
end Z

namespace Z
open PySem L2
section
variable {c : Zc} {L : Nat} {W : WX} {vc : Nat → Option V} {Z H Z' H' Z1 H1 : Hp} {σ : St} {vx : List (Option V)} {st tx : S} {fp fp1 : List Addr}
/-- an index takes a tree at the value that it holds -/
theorem Wl.putc {g f : List Addr} {j : Nat} {x : Ce} {d : D} {n : Nat} {v : V} (w : Wl c L vc Z H σ vx st tx g) (nd : (g ++ f).Nodup) (dj : ∀ a ∈ f, Z a = none) (r : RT c Z H n d v f) (hj : st[j]? = some x) (hv : (σ ++ vx)[j]? = some (some v)) :
    ∃ fp', (∀ a ∈ fp', a ∈ g ++ f) ∧ Wl c L vc Z H σ vx (st.set j (.ow d n)) tx fp' := by
  have his : j < st.length := (List.getElem?_eq_some_iff.mp hj).1
  have hi2 : (st ++ tx)[j]? = some x := by rw [List.getElem?_append_left his]; exact hj
  obtain ⟨ov, g1, f0, g2, e1, e2, r0, k⟩ := LR.get2 w.lr hi2
  have lr := k (CeR c vc Z H) (.ow d n) (some v) f (fun _ _ _ _ h => h) ⟨v, rfl, r⟩
  rw [set_app his, set_same hv] at lr
  have n0 := List.nodup_append.mp nd
  rw [e2] at n0
  have n1 := List.nodup_append.mp n0.1
  have n2 := List.nodup_append.mp n1.1
  have m1 : ∀ a ∈ g1, a ∈ g1 ++ f0 ++ g2 := fun a h => List.mem_append_left _ (List.mem_append_left _ h)
  have m2 : ∀ a ∈ g2, a ∈ g1 ++ f0 ++ g2 := fun a h => List.mem_append_right _ h
  refine ⟨g1 ++ f ++ g2, fun a ha => ?_, w.len, by rw [List.length_set]; exact w.hst, w.hvc, w.sub, lr, ?_, fun a ha => ?_⟩
  · rw [e2]
    rcases List.mem_append.mp ha with ha | ha
    · rcases List.mem_append.mp ha with ha | ha
      · exact List.mem_append_left _ (m1 a ha)
      · exact List.mem_append_right _ ha
    · exact List.mem_append_left _ (m2 a ha)
  · refine List.nodup_append.mpr ⟨List.nodup_append.mpr ⟨n2.1, n0.2.1, fun a ha b hb => n0.2.2 a (m1 a ha) b hb⟩, n1.2.1, fun a ha b hb e => ?_⟩
    rcases List.mem_append.mp ha with ha | ha
    · exact n1.2.2 a (List.mem_append_left _ ha) b hb e
    · exact n0.2.2 b (m2 b hb) a ha e.symm
  · rcases List.mem_append.mp ha with ha | ha
    · rcases List.mem_append.mp ha with ha | ha
      · exact w.dj a (by rw [e2]; exact m1 a ha)
      · exact dj a ha
    · exact w.dj a (by rw [e2]; exact m2 a ha)

theorem putb_ok {n0 : Nat} : ∀ {tks : List Tk} {ts : List T} {vs : List V} {s s2 : S} {g f : List Addr}, Wl c L vc Z H σ vx s tx g → Paired (fun tk v => TkR (σ ++ vx) n0 tk v) tks (vs.take tks.length) → LR (fun (t : T) v f => RT c Z H t.2 t.1 v f) ts vs f → (g ++ f).Nodup → (∀ a ∈ f, Z a = none) → putb tks ts s = some s2 →
    ∃ g2, (∀ a ∈ g2, a ∈ g ++ f) ∧ Wl c L vc Z H σ vx s2 tx g2
  | [], ts, vs, s, s2, g, f, w, _, _, _, _, e => by
    cases e
    exact ⟨g, fun a ha => List.mem_append_left _ ha, w⟩
  | (t0, o) :: r, t :: ts, v :: vs, s, s2, g, f, w, p, ⟨f1, f2, ef, h1, h2⟩, nd, dj, e => by
    rw [ef] at nd dj
    have p' : Paired (fun tk v => TkR (σ ++ vx) n0 tk v) ((t0, o) :: r) (v :: vs.take r.length) := p
    cases p' with
    | cons p1 p2 =>
      have n0' := List.nodup_append.mp nd
      have n1 := List.nodup_append.mp n0'.2.1
      cases o with
      | none =>
        have e' : putb r ts s = some s2 := e
        have ndg : (g ++ f2).Nodup := List.nodup_append.mpr ⟨n0'.1, n1.2.1, fun a ha b hb => n0'.2.2 a ha b (List.mem_append_right _ hb)⟩
        obtain ⟨g2, k1, k2⟩ := putb_ok w p2 h2 ndg (fun a ha => dj a (List.mem_append_right _ ha)) e'
        refine ⟨g2, fun a ha => ?_, k2⟩
        rw [ef]
        rcases List.mem_append.mp (k1 a ha) with h | h
        · exact List.mem_append_left _ h
        · exact List.mem_append_right _ (List.mem_append_right _ h)
      | some j =>
        obtain ⟨hj, hv⟩ := p1 j rfl
        cases q : s[j]? with
        | none => simp only [putb, q] at e; cases e
        | some y =>
          cases y with
          | ow _ _ => simp only [putb, q] at e; cases e
          | pa _ => simp only [putb, q] at e; cases e
          | un =>
            simp only [putb, q] at e
            have ndg : (g ++ f1).Nodup := List.nodup_append.mpr ⟨n0'.1, n1.1, fun a ha b hb => n0'.2.2 a ha b (List.mem_append_left _ hb)⟩
            obtain ⟨g1, l1, w1⟩ := w.putc ndg (fun a ha => dj a (List.mem_append_left _ ha)) h1 q hv
            have ndg2 : (g1 ++ f2).Nodup := List.nodup_append.mpr ⟨w1.nd, n1.2.1, fun a ha b hb => by
              rcases List.mem_append.mp (l1 a ha) with h | h
              · exact n0'.2.2 a h b (List.mem_append_right _ hb)
              · exact n1.2.2 a h b hb⟩
            obtain ⟨g2, k1, k2⟩ := putb_ok w1 p2 h2 ndg2 (fun a ha => dj a (List.mem_append_right _ ha)) e
            refine ⟨g2, fun a ha => ?_, k2⟩
            rw [ef]
            rcases List.mem_append.mp (k1 a ha) with h | h
            · rcases List.mem_append.mp (l1 a h) with h | h
              · exact List.mem_append_left _ h
              · exact List.mem_append_right _ (List.mem_append_left _ h)
            · exact List.mem_append_right _ (List.mem_append_right _ h)
  | (_, none) :: _, [], _, _, _, _, _, _, _, _, _, _, e => by cases e
  | (_, some _) :: _, [], _, _, _, _, _, _, _, _, _, _, e => by cases e
  | _ :: _, _ :: _, [], _, _, _, _, _, _, h, _, _, _ => h.elim

/-- behind the arguments: the call -/
theorem call_run {fn : Fn} {np : Nat} {tks : List Tk} {s : S} {vs dvs : List V} {ds : List D} {Q : VK} (hvc : ∀ j v, vc j = some v → L ≤ j ∧ vx[j - L]? = some (some v)) (hnp : tks.length + ds.length = np) (hl : vs.length = tks.length)
    (hd : Paired (fun d v => ∀ Z, RF c Z d v) ds dvs) (pr : Paired (fun tk v => TkR (σ ++ vx) ((σ ++ vx).length - tx.length) tk v) tks vs) (w : Wl c L vc Z H σ (vx ++ vs.map some) s (tx ++ (tks.map (·.1)).map fun t => .ow t.1 t.2) fp)
    (h : PoE c L W vc Z H σ vx tx fp (match fn (tks.map (·.1) ++ ds.map fun d => (d, 0)) with
      | .ok t ts' => match putb tks ts' s with
        | some s2 => .ok t s2
        | none => .no
      | .ex x ts' => match putb tks ts' s with
        | some s2 => .ex x s2
        | none => .no
      | .no => .no) Q) : spZ c np fn (vs ++ dvs) H Q (fun cls d H' => W cls d σ H') := by
  have lr := w.lr
  rw [← List.append_assoc, ← List.append_assoc] at lr
  have hl' : (s ++ tx).length = (σ ++ vx).length := by
    have := lr.len
    simp only [List.length_append, List.length_map] at this ⊢
    omega
  obtain ⟨g, f, e, h1, h2⟩ := LR.split hl' lr
  have nd := w.nd
  rw [e] at nd
  have n1 := List.nodup_append.mp nd
  have dg : ∀ a ∈ g, Z a = none := fun a ha => w.dj a (by rw [e]; exact List.mem_append_left _ ha)
  have df : ∀ a ∈ f, Z a = none := fun a ha => w.dj a (by rw [e]; exact List.mem_append_right _ ha)
  have tg : ∀ a ∈ g, H a ≠ none := LR.mem h1 fun _ _ _ h => CeR.there h
  have lds : ∀ {ds : List D} {dvs : List V}, Paired (fun d v => ∀ Z, RF c Z d v) ds dvs → LR (fun (t : T) v f => RT c Z H t.2 t.1 v f) (ds.map fun d => (d, 0)) dvs [] := by
    intro ds dvs p
    induction p with
    | nil => rfl
    | cons q _ ih => exact ⟨[], [], rfl, ⟨q Z, rfl⟩, ih⟩
  have ar : Ar c Z H (tks.map (·.1) ++ ds.map fun d => (d, 0)) (vs ++ dvs) f := by
    have q := LR.append (lr_ow h2) (lds hd)
    rw [List.append_nil] at q
    exact ⟨w.sub, q, n1.2.1, df⟩
  -- the world without the arguments, behind the call
  have base : ∀ {Z2 H2 : Hp} {f' : List Addr}, Sub Z2 H2 → Stp f Z H f' Z2 H2 → Wl c L vc Z2 H2 σ vx s tx g ∧ (∀ a ∈ g, a ∉ f') := by
    intro Z2 H2 f' sb s2
    have keep : ∀ a ∈ g, H2 a = H a := fun a ha => by
      cases q : H a with
      | none => exact absurd q (tg a ha)
      | some o => exact s2.hh a o q (fun hb => n1.2.2 a ha a hb rfl) (dg a ha)
    refine ⟨⟨w.len, w.hst, hvc, sb, LR.imp h1 fun a b q hq _ r => CeR.stay s2.zz r fun x hx => keep x (hq x hx), n1.1, fun a ha => ?_⟩, fun a ha hb => ?_⟩
    · cases q : Z2 a with
      | none => rfl
      | some o =>
        rcases s2.zn a (by rw [q]; exact fun z => nomatch z) with z | z | z
        · exact absurd (dg a ha) z
        · exact absurd rfl (n1.2.2 a ha a z)
        · exact absurd z (tg a ha)
    · rcases s2.ff a hb with z | z
      · exact n1.2.2 a ha a z rfl
      · exact tg a ha z
  have stp : ∀ {Z2 H2 : Hp} {f' g2 : List Addr}, Stp f Z H f' Z2 H2 → (∀ a ∈ g2, a ∈ g ∨ a ∈ f') → Stp fp Z H g2 Z2 H2 := by
    intro Z2 H2 f' g2 s2 hg
    refine ⟨s2.zz, fun a o q ha hz => s2.hh a o q (fun hb => ha (by rw [e]; exact List.mem_append_right _ hb)) hz, s2.nn, fun a ha => ?_, fun a ha => ?_⟩
    · rcases hg a ha with z | z
      · exact .inl (by rw [e]; exact List.mem_append_left _ z)
      · rcases s2.ff a z with z | z
        · exact .inl (by rw [e]; exact List.mem_append_right _ z)
        · exact .inr z
    · rcases s2.zn a ha with z | z | z
      · exact .inl z
      · exact .inr (.inl (by rw [e]; exact List.mem_append_right _ z))
      · exact .inr (.inr z)
  have prt : ∀ (ws : List V), Paired (fun tk v => TkR (σ ++ vx) ((σ ++ vx).length - tx.length) tk v) tks ((vs ++ ws).take tks.length) := fun ws => by
    rw [← hl, List.take_left]
    exact pr
  refine ⟨Z, _, f, by rw [List.length_append, List.length_map, List.length_map]; exact hnp, ar, ?_⟩
  cases q : fn (tks.map (·.1) ++ ds.map fun d => (d, 0)) with
  | no => simp only [q] at h; exact h
  | ex x ts' =>
    simp only [q] at h
    cases q2 : putb tks ts' s with
    | none => simp only [q2] at h; exact h.elim
    | some s2 =>
      simp only [q2] at h
      intro Z2 H2 f' cls dd st2 a2 hx
      obtain ⟨wb, dis⟩ := base a2.sub st2
      obtain ⟨g2, k1, k2⟩ := putb_ok wb (prt dvs) a2.lr (List.nodup_append.mpr ⟨wb.nd, a2.nd, fun a ha b hb z => dis a ha (z ▸ hb)⟩) a2.dj q2
      exact h Z2 H2 g2 cls dd (stp st2 fun a ha => List.mem_append.mp (k1 a ha)) k2 hx
  | ok t ts' =>
    simp only [q] at h
    cases q2 : putb tks ts' s with
    | none => simp only [q2] at h; exact h.elim
    | some s2 =>
      simp only [q2] at h
      intro Z2 H2 v f' st2 a2
      obtain ⟨wb, dis⟩ := base a2.sub st2
      -- the answer stands apart from what came back
      have lr2 := a2.lr
      have hlt : ts'.length = (vs ++ dvs).length := by
        have := lr2.len
        simp only [List.length_append, List.length_cons, List.length_nil] at this ⊢
        omega
      obtain ⟨fa, ft, ef, l1, l2⟩ := LR.split hlt lr2
      obtain ⟨v', ev, rt⟩ := LR.of_one l2
      cases ev
      have nd2 := a2.nd
      rw [ef] at nd2
      have n2 := List.nodup_append.mp nd2
      have da : ∀ a ∈ fa, Z2 a = none := fun a ha => a2.dj a (by rw [ef]; exact List.mem_append_left _ ha)
      have dt : ∀ a ∈ ft, Z2 a = none := fun a ha => a2.dj a (by rw [ef]; exact List.mem_append_right _ ha)
      obtain ⟨g2, k1, k2⟩ := putb_ok wb (prt dvs) l1 (List.nodup_append.mpr ⟨wb.nd, n2.1, fun a ha b hb z => dis a ha (by rw [ef]; exact List.mem_append_left _ (z ▸ hb))⟩) da q2
      have w3 := k2.push (Sm.refl _) a2.sub (fun _ _ => rfl) rt (fun a ha hb => by
        rcases List.mem_append.mp (k1 a hb) with z | z
        · exact dis a z (by rw [ef]; exact List.mem_append_right _ ha)
        · exact n2.2.2 a z a ha rfl) k2.dj n2.2.1 dt
      refine h Z2 H2 v (g2 ++ ft) (stp st2 fun a ha => ?_) w3
      rw [ef]
      rcases List.mem_append.mp ha with ha | ha
      · rcases List.mem_append.mp (k1 a ha) with z | z
        · exact .inl z
        · exact .inr (List.mem_append_left _ z)
      · exact .inr (List.mem_append_right _ ha)

def okA (L : Nat) : List Ag → Bool
  | [] => true
  | .bo i :: as => decide (i < L) && okA L as
  | .tm _ :: as => okA L as
theorem okA_mem {L : Nat} : ∀ {as : List Ag}, okA L as = true → ∀ i, Ag.bo i ∈ as → i < L
  | [], _, i, h => nomatch h
  | .bo j :: as, e, i, h => by
    simp only [okA, Bool.and_eq_true] at e
    rcases List.mem_cons.mp h with h | h
    · cases h; exact of_decide_eq_true e.1
    · exact okA_mem e.2 i h
  | .tm _ :: as, e, i, h => by
    rcases List.mem_cons.mp h with h | h
    · cases h
    · exact okA_mem (as := as) e i h
theorem takes_len : ∀ {as : List Ag} {hs : List (Option T)} {s s' : S} {ts : List Tk}, takes as hs s = some (ts, s') → ts.length = as.length
  | [], [], s, s', ts, h => by cases h; rfl
  | [], _ :: _, s, s', ts, h => by cases h
  | .bo i :: as, none :: hs, s, s', ts, h => by
    cases q0 : tre s i with
    | none => simp only [takes, q0] at h; cases h
    | some t =>
      obtain ⟨d, n⟩ := t
      cases n with
      | zero =>
        cases q : takes as hs s with
        | none => simp only [takes, q0, q] at h; cases h
        | some z => obtain ⟨a, b⟩ := z; simp only [takes, q0, q] at h; cases h; simp [takes_len q]
      | succ n =>
        cases q : takes as hs (s.set (loc s i) .un) with
        | none => simp only [takes, q0, q] at h; cases h
        | some z => obtain ⟨a, b⟩ := z; simp only [takes, q0, q] at h; cases h; simp [takes_len q]
  | .bo i :: as, some _ :: hs, s, s', ts, h => by cases h
  | .bo i :: as, [], s, s', ts, h => by cases h
  | .tm m :: as, none :: hs, s, s', ts, h => by cases h
  | .tm m :: as, [], s, s', ts, h => by cases h
  | .tm m :: as, some t :: hs, s, s', ts, h => by
    cases q : takes as hs s with
    | none => simp only [takes, q] at h; cases h
    | some z => obtain ⟨a, b⟩ := z; simp only [takes, q] at h; cases h; simp [takes_len q]
theorem eva_len {as : List Ag} {s s' : S} {ts : List Tk} (h : eva as s = .ok ts s') : ts.length = as.length := by
  unfold eva at h
  cases q : evs (as.map Ag.op) s with
  | no => simp only [q] at h; cases h
  | ex x s1 => simp only [q] at h; cases h
  | ok hs s1 =>
    simp only [q] at h
    cases q2 : takes as hs s1 with
    | none => simp only [q2] at h; cases h
    | some z => obtain ⟨a, b⟩ := z; simp only [q2] at h; cases h; exact takes_len q2
theorem mCall_rd {fn : Fn} {np : Nat} {as : List Ag} {ds : List D} {dvs : List V} {Q : VK} (hL : okA L as = true) (hnp : as.length + ds.length = np) (hd : Paired (fun d v => ∀ Z, RF c Z d v) ds dvs) (h : rd c L W (mCall fn as ds) σ H Q) :
    tAs c L W as σ H (fun vs H1 => spZ c np fn (vs ++ dvs) H1 Q (fun cls d H' => W cls d σ H')) := by
  obtain ⟨Z, vc, vx, st, tx, fp, w, h⟩ := h
  refine tAs_run w (okA_mem hL) ?_
  unfold mCall at h
  cases q : eva as st with
  | no => simp only [q] at h; exact h.elim
  | ex x s =>
    simp only [q] at h
    intro Z1 H1 fp1 cls dd s1 ⟨vy, ty, hl, w1⟩ hx
    obtain ⟨g, hg, w2⟩ := Wl.pops hl w1 w.hvc
    exact h Z1 H1 g cls dd (s1.trans (Stp.less hg)) w2 hx
  | ok tks s =>
    simp only [q] at h
    intro Z1 H1 vs fp1 s1 hl pr w1
    exact call_run w.hvc (by rw [eva_len q]; exact hnp) hl hd pr w1 (PoE.behind s1 h)
end

section
variable {X : Cx} {c : Zc} {L : Nat} {W : WX} {pos : Pos}
abbrev ZG (X : Cx) (c : Zc) (L : Nat) (W : WX) (e : Expr) (a : Ag) : Prop := PE X e (tAg c L W a)
abbrev ZGs (X : Cx) (c : Zc) (L : Nat) (W : WX) (es : List Expr) (as : List Ag) : Prop := PA X es (tAs c L W as)
theorem zg_bo {x : Str} {i : Nat} (hN : X.N[i]? = some x) (hv : Vis X.env.scope x) (hd : (x == ("__debug__" : Str)) = false := by decide) (hcd : (x == ("__classdict__" : Str)) = false := by decide) : ZG X c L W (.Name x pos) (.bo i) :=
  PE.imp (pe_var hN hv hd hcd) fun _ _ _ h => h.2
theorem zgs_nil : ZGs X c L W [] [] := pa_nil
theorem zgs_cons {e : Expr} {es : List Expr} {m : Ag} {ms : List Ag} (ha : ZG X c L W e m) (hr : ZGs X c L W es ms) (hs : starEach (e :: es) X.env = (false, eval e X.env) :: starEach es X.env := by rfl) : ZGs X c L W (e :: es) (m :: ms) := pa_cons ha hr hs
/-- f(..) -/
theorem ze_call {k np : Nat} {f : Addr} {fd : FuncData} {ps : List Str} {fn : Fn} {x : Str} {p : Pos} {e : Expr} {es : List Expr} {as : List Ag} {ds : List Value} {dds : List D} {dvs : List V} (tk : Takes X W) (F0 : FnG X.prog X.w X.K X.mg X.base k f fd ps (spZ c np fn)) (hr : Rg k X.A) (hg : Gl X x) (hm : X.mg x = some (.ref f)) (hk : PySem.W.keepIn X.K (.ref f) = true)
    (hb : Binds X.K fd ps ds) (hd : Vals dvs ds) (hdd : Paired (fun d v => ∀ Z, RF c Z d v) dds dvs) (ha : ZGs X c L W (e :: es) as) (hnp : as.length + dds.length = np := by rfl) (hL : okA L as = true := by rfl) (hdb : (x == ("__debug__" : Str)) = false := by decide)
    (he : starEach (e :: es) X.env = (false, eval e X.env) :: starEach es X.env := by rfl) (hpl : (backTo pos (starEach es X.env)).any (·.1) = false := by rfl) : ZE X c L W (.Call (.Name x p) (e :: es) [] pos) (mCall fn as dds) :=
  ⟨fun pins s σ H Q I h => wpAny_Call_Name_kw (ld_glob I hg hm (PySem.W.callWith_K (h₀ := X.base) I.ok.mod.kin hk (thn (ha.run pos pins s σ H _ I (mCall_rd hL hnp hdd h)) fun us s1 ⟨vs, H1, I1, r, q⟩ => ⟨I1.kIn, run_g tk F0 hr hb hd I1 r q⟩) he hpl) hdb)⟩
/-- f() -/
theorem ze_call0 {k np : Nat} {f : Addr} {fd : FuncData} {ps : List Str} {fn : Fn} {x : Str} {p : Pos} {ds : List Value} {dds : List D} {dvs : List V} (tk : Takes X W) (F0 : FnG X.prog X.w X.K X.mg X.base k f fd ps (spZ c np fn)) (hr : Rg k X.A) (hg : Gl X x) (hm : X.mg x = some (.ref f)) (hk : PySem.W.keepIn X.K (.ref f) = true)
    (hb : Binds X.K fd ps ds) (hd : Vals dvs ds) (hdd : Paired (fun d v => ∀ Z, RF c Z d v) dds dvs) (hnp : dds.length = np := by rfl) (hdb : (x == ("__debug__" : Str)) = false := by decide) : ZE X c L W (.Call (.Name x p) [] [] pos) (mCall fn [] dds) := by
  refine ⟨fun pins s σ H Q I h => wpAny_Call_Name_kw (ld_glob I hg hm ?_ hdb)⟩
  have z := mCall_rd (as := []) (np := np) rfl (by simpa using hnp) hdd h
  exact PySem.W.callWith_K0 I.kIn hk (run_g (us := []) (vs := []) tk F0 hr hb hd I .nil z)
end
end Z

namespace Z
open PySem L2
/-! ### what is walked -/
def keyD : Key → D
  | .inl i => .int i
  | .inr s => .str s
def itsOf : D → Option (List D)
  | .dct kvs => some (kvs.map fun p => keyD p.1)
  | .lst xs => some xs
  | .tup xs => some xs
  | .rol xs => some xs
  | .str a => some (a.cps.toList.map fun k => .str ⟨#[k]⟩)
  | _ => none
def mIts (m : M T) : M (List D) := fun s => match m s with
  | .ok t s' => match itsOf t.1 with
    | some xs => .ok xs s'
    | none => .no
  | .ex x s' => .ex x s'
  | .no => .no
def rngL (lo : Int) (n : Nat) : List D := (List.range n).map fun i => .int (lo + (i : Nat))
def int1 : List T → Option Int
  | [(.int j, _)] => if -(2 ^ 62) ≤ j ∧ j < 2 ^ 62 then some j else none
  | _ => none
def int2 : List T → Option (Int × Int)
  | [(.int i, _), (.int j, _)] => if -(2 ^ 62) ≤ i ∧ i < 2 ^ 62 ∧ -(2 ^ 62) ≤ j ∧ j < 2 ^ 62 then some (i, j) else none
  | _ => none
theorem int1_ok {ts : List T} {j : Int} (h : int1 ts = some j) : ts.map (·.1) = [D.int j] ∧ -(2 ^ 62) ≤ j ∧ j < 2 ^ 62 := by
  unfold int1 at h
  split at h
  · split at h
    · cases h
      exact ⟨rfl, by assumption⟩
    · cases h
  · cases h
theorem int2_ok {ts : List T} {i j : Int} (h : int2 ts = some (i, j)) : ts.map (·.1) = [D.int i, D.int j] ∧ -(2 ^ 62) ≤ i ∧ i < 2 ^ 62 ∧ -(2 ^ 62) ≤ j ∧ j < 2 ^ 62 := by
  unfold int2 at h
  split at h
  · split at h
    · cases h
      exact ⟨rfl, by assumption⟩
    · cases h
  · cases h
def mRng1 (o : Opd) : M (List D) := fun s => match evs [o] s with
  | .ok hs s' => match gets [o] hs s' with
    | some ts => match int1 ts with
      | some j => .ok (rngL 0 j.toNat) s'
      | none => .no
    | none => .no
  | .ex x s' => .ex x s'
  | .no => .no
def mRng2 (o p : Opd) : M (List D) := fun s => match evs [o, p] s with
  | .ok hs s' => match gets [o, p] hs s' with
    | some ts => match int2 ts with
      | some (i, j) => .ok (rngL i (j - i).toNat) s'
      | none => .no
    | none => .no
  | .ex x s' => .ex x s'
  | .no => .no
/-- enumerate of a list -/
def enumD (xs : List D) : List D := xs.zipIdx.map fun p => .tup [.int (p.2 : Nat), p.1]
def mEnum (m : M T) : M (List D) := fun s => match m s with
  | .ok (.lst xs, _) s' => .ok (enumD xs) s'
  | .ok _ _ => .no
  | .ex x s' => .ex x s'
  | .no => .no

section
variable {c : Zc} {L : Nat} {W : WX} {vc : Nat → Option V} {Z H Z' H' Z1 H1 : Hp} {σ : St} {vx : List (Option V)} {st tx : S} {fp fp1 : List Addr}
theorem itR_list {a : Addr} {vs : List V} {xs : List D} (h : SqL c.K Z a vs) (hl : xs.length = vs.length) (hx : ∀ (i : Nat) d w, xs[i]? = some d → vs[i]? = some w → RF c Z d w) : ItR c Z (Itl c.K a) xs := by
  refine ⟨fun i Z1 H1 sz sb hi => ?_, fun i Z1 H1 x H' d sz sb hd hy => ?_, fun i Z1 H1 sz sb hi => ⟨vs, sb.sqL (sz.sqL h), by omega⟩⟩
  · exact ⟨vs, vs[i]'(by omega), sb.sqL (sz.sqL h), List.getElem?_eq_getElem _⟩
  · obtain ⟨rfl, k⟩ := hy
    exact ⟨Z1, Al.refl sb, (hx i d x hd (k vs (sb.sqL (sz.sqL h)))).mono sz⟩
theorem itR_tup {a : Addr} {vs : List V} {xs : List D} (h : SqT c.K Z a vs) (hl : xs.length = vs.length) (hx : ∀ (i : Nat) d w, xs[i]? = some d → vs[i]? = some w → RF c Z d w) : ItR c Z (Itt c.K a) xs := by
  refine ⟨fun i Z1 H1 sz sb hi => ?_, fun i Z1 H1 x H' d sz sb hd hy => ?_, fun i Z1 H1 sz sb hi => ⟨vs, sb.sqT (sz.sqT h), by omega⟩⟩
  · exact ⟨vs, vs[i]'(by omega), sb.sqT (sz.sqT h), List.getElem?_eq_getElem _⟩
  · obtain ⟨rfl, k⟩ := hy
    exact ⟨Z1, Al.refl sb, (hx i d x hd (k vs (sb.sqT (sz.sqT h)))).mono sz⟩
theorem itR_str {a : Str} : ItR c Z (Its a) (a.cps.toList.map fun k => .str ⟨#[k]⟩) := by
  refine ⟨fun i Z1 H1 sz sb hi => ?_, fun i Z1 H1 x H' d sz sb hd hy => ?_, fun i Z1 H1 sz sb hi => ?_⟩
  · show i < a.cps.size
    simpa using hi
  · obtain ⟨rfl, k, hk, rfl⟩ := hy
    refine ⟨Z1, Al.refl sb, ?_⟩
    rw [List.getElem?_map] at hd
    have e : a.cps.toList[i]? = some k := by rw [Array.getElem?_toList]; exact hk
    rw [e] at hd
    cases hd
    exact .str
  · show a.cps.size ≤ i
    simpa using hi
theorem itR_rng {lo : Int} {n : Nat} : ItR c Z (Itr lo n) (rngL lo n) := by
  refine ⟨fun i Z1 H1 sz sb hi => ?_, fun i Z1 H1 x H' d sz sb hd hy => ?_, fun i Z1 H1 sz sb hi => ?_⟩
  · show i < n
    simpa [rngL] using hi
  · obtain ⟨rfl, rfl⟩ := hy
    refine ⟨Z1, Al.refl sb, ?_⟩
    simp only [rngL, List.getElem?_map] at hd
    cases q : (List.range n)[i]? with
    | none => rw [q] at hd; cases hd
    | some k =>
      rw [q] at hd
      cases hd
      have := (List.getElem?_eq_some_iff.mp q).2
      rw [List.getElem_range] at this
      subst this
      exact .int
  · show n ≤ i
    simpa [rngL] using hi
theorem itR_enum {a : Addr} {vs : List V} {xs : List D} (h : SqL c.K Z a vs) (hl : xs.length = vs.length) (hx : ∀ (i : Nat) d w, xs[i]? = some d → vs[i]? = some w → RF c Z d w) : ItR c Z (Ite c.K a) (enumD xs) := by
  have el : (enumD xs).length = xs.length := by simp [enumD]
  refine ⟨fun i Z1 H1 sz sb hi => ?_, fun i Z1 H1 x H' d sz sb hd hy => ?_, fun i Z1 H1 sz sb hi => ⟨vs, sb.sqL (sz.sqL h), by omega⟩⟩
  · exact ⟨vs, vs[i]'(by omega), sb.sqL (sz.sqL h), List.getElem?_eq_getElem _⟩
  · obtain ⟨p, y, rfl, hp, rfl, k⟩ := hy
    have hy := k vs (sb.sqL (sz.sqL h))
    simp only [enumD, List.getElem?_map, List.getElem?_zipIdx] at hd
    cases q : xs[i]? with
    | none => rw [q] at hd; cases hd
    | some e =>
      rw [q] at hd
      cases hd
      refine ⟨_, al_newF sb hp, rf_tup (sb.none hp) rfl fun j d w h1 h2 => ?_⟩
      match j, h1, h2 with
      | 0, h1, h2 =>
        cases h1
        cases h2
        rw [Nat.zero_add]
        exact .int
      | 1, h1, h2 =>
        cases h1
        cases h2
        exact (hx i _ _ q hy).mono sz
      | j + 2, h1, _ => cases h1

theorem keyD_rf {k : Key} : RF c Z (keyD k) (kV k) := by
  cases k with
  | inl i => exact .int
  | inr s => exact .str
/-- a value's dict is locked for good -/
def tLockV (t : TE) : TE := fun σ H Q => t σ H fun x H1 => ∃ d kvs, x = .ref d ∧ ((∃ o, H1 d = some (.frz o (.dK kvs)) ∧ Q x H1) ∨ (H1 d = some (.dK kvs) ∧ ∀ o, Q x (upd H1 d (.frz o (.dK kvs)))))
theorem pe_lockV {X : Cx} {e : Expr} {t : TE} (h : PE X e t) : PE X e (tLockV t) := by
  refine ⟨fun pins s σ H Q I hw => ?_⟩
  refine thn (h.run pins s σ _ _ I hw) fun v s1 ⟨x, H1, I1, r, d, kvs, ex, q⟩ => ?_
  rcases q with ⟨o, hd, q⟩ | ⟨hd, q⟩
  · exact ⟨x, H1, I1, r, q⟩
  · obtain ⟨od, I2⟩ := I1.lock hd True.intro
    exact ⟨x, _, I2, r, q od⟩
theorem itR_keys {a : Addr} {o : Obj} {vs : List (Key × V)} {kvs : List (Key × D)} (h : Z a = some (.frz o (.dK vs))) (hk : kvs.map (·.1) = vs.map (·.1)) : ItR c Z (Itk a o vs) (kvs.map fun p => keyD p.1) := by
  have at_ : ∀ {Z1 H1 : Hp}, Sm Z Z1 → Sub Z1 H1 → H1 a = some (.frz o (.dK vs)) := fun sz sb => sb.get (sz.get h fun _ e => nomatch e) fun _ e => nomatch e
  have hl : kvs.length = vs.length := by simpa using congrArg List.length hk
  refine ⟨fun i Z1 H1 sz sb hi => ⟨at_ sz sb, by rw [List.length_map] at hi; omega⟩, fun i Z1 H1 x H' d sz sb hd hy => ?_, fun i Z1 H1 sz sb hi => ⟨at_ sz sb, by rw [List.length_map] at hi; omega⟩⟩
  obtain ⟨rfl, k, v, e1, rfl⟩ := hy
  refine ⟨Z1, Al.refl sb, ?_⟩
  have e2 : (kvs.map (·.1))[i]? = some k := by rw [hk, List.getElem?_map, e1]; rfl
  rw [List.getElem?_map] at hd e2
  cases q : kvs[i]? with
  | none => rw [q] at hd; cases hd
  | some p =>
    rw [q] at hd e2
    cases hd
    cases e2
    exact keyD_rf
/-- the pairs, each a new tuple -/
theorem itR_items {a : Addr} {o : Obj} {vs : List (Key × V)} {kvs : List (Key × D)} (h : Z a = some (.frz o (.dK vs))) (hk : kvs.map (·.1) = vs.map (·.1)) (hx : ∀ (i : Nat) d v, (kvs.map (·.2))[i]? = some d → (vs.map (·.2))[i]? = some v → RF c Z d v) : ItR c Z (Iti a o vs) (kvs.map fun p => .tup [keyD p.1, p.2]) := by
  have at_ : ∀ {Z1 H1 : Hp}, Sm Z Z1 → Sub Z1 H1 → H1 a = some (.frz o (.dK vs)) := fun sz sb => sb.get (sz.get h fun _ e => nomatch e) fun _ e => nomatch e
  have hl : kvs.length = vs.length := by simpa using congrArg List.length hk
  refine ⟨fun i Z1 H1 sz sb hi => ⟨at_ sz sb, by rw [List.length_map] at hi; omega⟩, fun i Z1 H1 x H' d sz sb hd hy => ?_, fun i Z1 H1 sz sb hi => ⟨at_ sz sb, by rw [List.length_map] at hi; omega⟩⟩
  obtain ⟨T, k, v, e1, rfl, hT, rfl⟩ := hy
  have e2 : (kvs.map (·.1))[i]? = some k := by rw [hk, List.getElem?_map, e1]; rfl
  rw [List.getElem?_map] at hd e2
  cases q : kvs[i]? with
  | none => rw [q] at hd; cases hd
  | some p =>
    rw [q] at hd e2
    cases hd
    cases e2
    refine ⟨_, al_newF sb hT, rf_tup (sb.none hT) (by simp) fun j d w h1 h2 => ?_⟩
    match j, h1, h2 with
    | 0, h1, h2 => cases h1; cases h2; exact keyD_rf
    | 1, h1, h2 =>
      cases h1
      cases h2
      exact (hx i _ _ (by rw [List.getElem?_map, q]; rfl) (by rw [List.getElem?_map, e1]; rfl)).mono sz
    | j + 2, h1, _ => cases h1
/-- a frozen dict is locked -/
theorem lock_run {v : V} {kvs : List (Key × D)} (rf : RF c Z (.dct kvs) v) (sb : Sub Z H) : ∃ d vs, v = .ref d ∧ kvs.map (·.1) = vs.map (·.1) ∧ ((∃ o, Z d = some (.frz o (.dK vs)) ∧ H d = some (.frz o (.dK vs))) ∨ (∃ o, Z d = some (.dK vs) ∧ H d = some (.frz o (.dK vs))) ∨ (Z d = some (.dK vs) ∧ H d = some (.dK vs))) ∧ ∀ (i : Nat) d v, (kvs.map (·.2))[i]? = some d → (vs.map (·.2))[i]? = some v → RF c Z d v := by
  cases rf with
  | @dct a vs _ h hk hx =>
    refine ⟨a, vs, rfl, hk, ?_, hx⟩
    rcases h with h | ⟨o, h⟩
    · rcases sb _ _ h with h2 | ⟨ob, _, h2, _⟩
      · exact .inr (.inr ⟨h, h2⟩)
      · exact .inr (.inl ⟨ob, h, h2⟩)
    · exact .inl ⟨o, h, sb.get h fun _ e => nomatch e⟩
/-- Z with the dict locked there -/
theorem zlock {d : Addr} {o : Obj} {vs : List (Key × V)} (h : Z d = some (.dK vs)) (sb : Sub Z H) (hH : H d = some (.frz o (.dK vs))) : Sm Z (upd Z d (.frz o (.dK vs))) ∧ Sub (upd Z d (.frz o (.dK vs))) H := by
  refine ⟨fun a u e => ?_, fun a u e => ?_⟩
  · by_cases q : a = d
    · subst q
      rw [h] at e
      cases e
      exact .inr ⟨o, vs, upd_same, rfl⟩
    · exact .inl (by rw [upd_ne q]; exact e)
  · by_cases q : a = d
    · subst q
      rw [upd_same] at e
      cases e
      exact .inl hH
    · rw [upd_ne q] at e
      exact sb a u e
/-- the world with that lock -/
theorem wl_lock {d : Addr} {o : Obj} {vs : List (Key × V)} (w : Wl c L vc Z H σ vx st tx fp) (h : Z d = some (.dK vs)) (hH : H d = some (.dK vs) ∨ H d = some (.frz o (.dK vs))) : Stp fp Z H fp (upd Z d (.frz o (.dK vs))) (upd H d (.frz o (.dK vs))) ∧ Wl c L vc (upd Z d (.frz o (.dK vs))) (upd H d (.frz o (.dK vs))) σ vx st tx fp := by
  have nd : ∀ a ∈ fp, a ≠ d := fun a ha e => by
    have := w.dj a ha
    rw [e, h] at this
    cases this
  have sb : Sub Z (upd H d (.frz o (.dK vs))) := fun a u e => by
    by_cases q : a = d
    · subst q
      rw [h] at e
      cases e
      exact .inr ⟨o, vs, upd_same, rfl⟩
    · rw [upd_ne q]
      exact w.sub a u e
  obtain ⟨sz, sb2⟩ := zlock h sb upd_same
  refine ⟨⟨sz, fun a u e _ hz => ?_, fun a e => ?_, fun _ h => .inl h, fun a e => ?_⟩, w.len, w.hst, w.hvc, sb2, LR.imp w.lr fun a b g hg _ r => CeR.stay sz r fun x hx => upd_ne (nd x (hg x hx)), w.nd, fun a ha => by rw [upd_ne (nd a ha)]; exact w.dj a ha⟩
  · have ne : a ≠ d := fun q => by rw [q, h] at hz; cases hz
    rw [upd_ne ne]; exact e
  · by_cases q : a = d
    · rw [q, upd_same]; exact fun z => nomatch z
    · rw [upd_ne q]; exact e
  · by_cases q : a = d
    · rw [q, h]; exact .inl fun z => nomatch z
    · rw [upd_ne q] at e; exact .inl e
/-- a value's frozen dict, locked: what is to be shown of its walk -/
theorem lockV_run {m : M T} {P : V → Hp → Prop} (w : Wl c L vc Z H σ vx st tx fp) (h : match m st with
      | .ok (.dct kvs, _) s => ∀ Z' H' d o vs fp', Stp fp Z H fp' Z' H' → Wl c L vc Z' H' σ vx s tx fp' → Z' d = some (.frz o (.dK vs)) → H' d = some (.frz o (.dK vs)) → kvs.map (·.1) = vs.map (·.1) → (∀ (i : Nat) d v, (kvs.map (·.2))[i]? = some d → (vs.map (·.2))[i]? = some v → RF c Z' d v) → P (.ref d) H'
      | .ok _ _ => False
      | .ex x s => ∀ Z' H' fp' cls dd, Stp fp Z H fp' Z' H' → Wl c L vc Z' H' σ vx s tx fp' → IsX c Z' H' x cls dd → W cls dd σ H'
      | .no => False) : tLockV (rd c L W m) σ H P := by
  refine ⟨Z, vc, vx, st, tx, fp, w, ?_⟩
  cases q : m st with
  | no => simp only [q] at h
  | ex x s => simp only [q] at h; exact h
  | ok t s =>
    obtain ⟨d, n⟩ := t
    cases d with
    | dct kvs =>
      simp only [q] at h
      intro Z1 H1 v fp1 s1 w1
      obtain ⟨Z2, g2, w2, s2, rf⟩ := Wl.frz (ts := [(D.dct kvs, n)]) (vs := [v]) w1 w.hvc rfl
      obtain ⟨a, vs, rfl, hk, hc, hx⟩ := lock_run (rf 0 _ v rfl rfl) w2.sub
      refine ⟨a, vs, rfl, ?_⟩
      rcases hc with ⟨o, k1, k2⟩ | ⟨o, k1, k2⟩ | ⟨k1, k2⟩
      · exact .inl ⟨o, k2, h Z2 H1 a o vs g2 (s1.trans s2) w2 k1 k2 hk hx⟩
      · obtain ⟨s3, w3⟩ := wl_lock w2 k1 (.inr k2)
        have e : upd H1 a (.frz o (.dK vs)) = H1 := by
          funext b
          by_cases q : b = a
          · rw [q, upd_same, k2]
          · rw [upd_ne q]
        rw [e] at s3 w3
        exact .inl ⟨o, k2, h _ H1 a o vs g2 ((s1.trans s2).trans s3) w3 upd_same k2 hk fun i d v h1 h2 => (hx i d v h1 h2).mono s3.zz⟩
      · refine .inr ⟨k2, fun o => ?_⟩
        obtain ⟨s3, w3⟩ := wl_lock (o := o) w2 k1 (.inl k2)
        exact h _ _ a o vs g2 ((s1.trans s2).trans s3) w3 upd_same upd_same hk fun i d v h1 h2 => (hx i d v h1 h2).mono s3.zz
    | _ => simp only [q] at h
theorem mIts_rd {m : M T} {R : It → Hp → Prop} (h : rdI c L W (mIts m) σ H R) : iList c.K (rd c L W m) σ H R ∨ iTup c.K (rd c L W m) σ H R ∨ iStr (rd c L W m) σ H R ∨ iKeys (tLockV (rd c L W m)) σ H R := by
  obtain ⟨Z, vc, vx, st, tx, fp, w, h⟩ := h
  have k : ∀ {P : VK}, (match m st with
      | .ok t s => ∀ Z' H' v fp', Stp fp Z H fp' Z' H' → Wl c L vc Z' H' σ vx s tx fp' → RF c Z' t.1 v → P v H'
      | .ex x s => ∀ Z' H' fp' cls dd, Stp fp Z H fp' Z' H' → Wl c L vc Z' H' σ vx s tx fp' → IsX c Z' H' x cls dd → W cls dd σ H'
      | .no => False) → rd c L W m σ H P := by
    intro P hP
    refine ⟨Z, vc, vx, st, tx, fp, w, ?_⟩
    cases q : m st with
    | no => simp only [q] at hP
    | ex x s => simp only [q] at hP; exact hP
    | ok t s =>
      simp only [q] at hP
      intro Z1 H1 v fp1 s1 w1
      obtain ⟨Z2, g2, w2, s2, rf⟩ := Wl.frz (ts := [t]) (vs := [v]) w1 w.hvc rfl
      exact hP Z2 H1 v g2 (s1.trans s2) w2 (rf 0 t.1 v rfl rfl)
  cases q : m st with
  | no => simp only [mIts, q] at h
  | ex x s =>
    simp only [mIts, q] at h
    refine .inl (k ?_)
    simp only [q]
    exact h
  | ok t s =>
    obtain ⟨d, n⟩ := t
    cases d with
    | lst xs =>
      simp only [mIts, q, itsOf] at h
      refine .inl (k ?_)
      simp only [q]
      intro Z1 H1 v fp1 s1 w1 rf
      cases rf with
      | lst h0 hl hx => exact ⟨_, rfl, ⟨_, w1.sub.sqL (.inl (.inl h0))⟩, h Z1 H1 fp1 _ s1 w1 (itR_list (.inl (.inl h0)) hl hx)⟩
    | rol xs =>
      simp only [mIts, q, itsOf] at h
      refine .inl (k ?_)
      simp only [q]
      intro Z1 H1 v fp1 s1 w1 rf
      cases rf with
      | rol h0 hl hx => exact ⟨_, rfl, ⟨_, w1.sub.sqL h0⟩, h Z1 H1 fp1 _ s1 w1 (itR_list h0 hl hx)⟩
    | tup xs =>
      simp only [mIts, q, itsOf] at h
      refine .inr (.inl (k ?_))
      simp only [q]
      intro Z1 H1 v fp1 s1 w1 rf
      cases rf with
      | tup h0 hl hx => exact ⟨_, rfl, ⟨_, w1.sub.sqT h0⟩, h Z1 H1 fp1 _ s1 w1 (itR_tup h0 hl hx)⟩
    | str a =>
      simp only [mIts, q, itsOf] at h
      refine .inr (.inr (.inl (k ?_)))
      simp only [q]
      intro Z1 H1 v fp1 s1 w1 rf
      cases rf with
      | str => exact ⟨_, rfl, h Z1 H1 fp1 _ s1 w1 itR_str⟩
    | dct kvs =>
      simp only [mIts, q, itsOf] at h
      refine .inr (.inr (.inr (lockV_run w ?_)))
      simp only [q]
      intro Z1 H1 d o vs fp1 s1 w1 hz hH hk hx
      exact ⟨d, o, rfl, .inl ⟨vs, hH, h Z1 H1 fp1 _ s1 w1 (itR_keys hz hk)⟩⟩
    | _ => simp only [mIts, q, itsOf] at h
/-- .items() -/
def mItems (m : M T) : M (List D) := fun s => match m s with
  | .ok (.dct kvs, _) s' => .ok (kvs.map fun p => .tup [keyD p.1, p.2]) s'
  | .ok _ _ => .no
  | .ex x s' => .ex x s'
  | .no => .no
theorem mItems_rd {m : M T} {R : It → Hp → Prop} (h : rdI c L W (mItems m) σ H R) : iItems (tLockV (rd c L W m)) σ H R := by
  obtain ⟨Z, vc, vx, st, tx, fp, w, h⟩ := h
  refine lockV_run w ?_
  cases q : m st with
  | no => simp only [mItems, q] at h
  | ex x s => simp only [mItems, q] at h; exact h
  | ok t s =>
    obtain ⟨d, n⟩ := t
    cases d with
    | dct kvs =>
      simp only [mItems, q] at h
      intro Z1 H1 d o vs fp1 s1 w1 hz hH hk hx
      exact ⟨d, o, vs, rfl, hH, h Z1 H1 fp1 _ s1 w1 (itR_items hz hk hx)⟩
    | _ => simp only [mItems, q] at h
theorem mEnum_rd {m : M T} {R : It → Hp → Prop} (h : rdI c L W (mEnum m) σ H R) : iEnum c.K (tMs c L W [m]) σ H R := by
  obtain ⟨Z, vc, vx, st, tx, fp, w, h⟩ := h
  refine tMs_run w ?_
  cases q : m st with
  | no => simp only [mEnum, q] at h
  | ex x s =>
    simp only [mEnum, q] at h
    simp only [evm, q]
    exact h
  | ok t s =>
    obtain ⟨d, n⟩ := t
    cases d with
    | lst xs =>
      simp only [mEnum, q] at h
      simp only [evm, q]
      intro Z1 H1 vs fp1 s1 hl w1
      obtain ⟨Z2, g2, w2, s2, rf⟩ := Wl.frz w1 w.hvc hl
      match vs, hl, rf with
      | [v], _, rf =>
        have r := rf 0 _ v rfl rfl
        cases r with
        | lst h0 hl hx => exact ⟨_, _, rfl, w2.sub.sqL (.inl (.inl h0)), h Z2 H1 g2 _ (s1.trans s2) w2 (itR_enum (.inl (.inl h0)) hl hx)⟩
    | _ => simp only [mEnum, q] at h
/-- operands whose values are ints, for a range -/
theorem ints_run {os : List Opd} {Q : List V → Hp → Prop} {ns : List Int} (w : Wl c L vc Z H σ vx st tx fp) (hL : okL L os = true) {hs : List (Option T)} {s : S} {ts : List T} (q : evs os st = .ok hs s) (q2 : gets os hs s = some ts) (hi : ts.map (·.1) = ns.map D.int)
    (k : ∀ Z' H' fp', Stp fp Z H fp' Z' H' → Wl c L vc Z' H' σ vx s tx fp' → Q (ns.map V.int) H') : tOs c L W os σ H Q := by
  refine tOs_run w (okL_mem hL) ?_
  simp only [q]
  intro Z1 H1 vs vy ty fp1 s1 w1 r1
  have hl : (s ++ tx).length = (σ ++ vx).length := by
    have e := w1.lr.len
    have e2 := r1.len
    simp only [List.length_append] at e ⊢
    omega
  have tr := r1.trees w1 hl (okL_mem hL) q2
  have ev : ∀ {vs : List V} {ts : List T} {ns : List Int}, Paired (Tre c Z1 H1 fp1) vs ts → ts.map (·.1) = ns.map D.int → vs = ns.map V.int := by
    intro vs ts ns p
    induction p generalizing ns with
    | nil =>
      intro e
      cases ns with
      | nil => rfl
      | cons => cases e
    | @cons v t vs ts h1 _ ih =>
      intro e
      cases ns with
      | nil => cases e
      | cons n ns =>
        obtain ⟨d, m⟩ := t
        simp only [List.map_cons, List.cons.injEq] at e ⊢
        obtain ⟨e1, e2⟩ := e
        subst e1
        exact ⟨tre_int h1, ih e2⟩
  obtain ⟨g, hg, w2⟩ := Wl.pops r1.len w1 w.hvc
  rw [ev tr hi]
  exact k Z1 H1 g (s1.trans (Stp.less hg)) w2
theorem mRng1_rd {o : Opd} {R : It → Hp → Prop} (hL : okL L [o] = true) (h : rdI c L W (mRng1 o) σ H R) : iRng1 (tOs c L W [o]) σ H R := by
  obtain ⟨Z, vc, vx, st, tx, fp, w, h⟩ := h
  cases q : evs [o] st with
  | no => simp only [mRng1, q] at h
  | ex x s =>
    simp only [mRng1, q] at h
    refine tOs_run w (okL_mem hL) ?_
    simp only [q]
    exact h
  | ok hs s =>
    simp only [mRng1, q] at h
    cases q2 : gets [o] hs s with
    | none => simp only [q2] at h
    | some ts =>
      simp only [q2] at h
      cases q3 : int1 ts with
      | none => simp only [q3] at h
      | some j =>
        simp only [q3] at h
        obtain ⟨e, k⟩ := int1_ok q3
        exact ints_run (ns := [j]) w hL q q2 e fun Z1 H1 fp1 s1 w1 => ⟨j, rfl, k.1, k.2, h Z1 H1 fp1 _ s1 w1 itR_rng⟩
theorem mRng2_rd {o p : Opd} {R : It → Hp → Prop} (hL : okL L [o, p] = true) (h : rdI c L W (mRng2 o p) σ H R) : iRng2 (tOs c L W [o, p]) σ H R := by
  obtain ⟨Z, vc, vx, st, tx, fp, w, h⟩ := h
  cases q : evs [o, p] st with
  | no => simp only [mRng2, q] at h
  | ex x s =>
    simp only [mRng2, q] at h
    refine tOs_run w (okL_mem hL) ?_
    simp only [q]
    exact h
  | ok hs s =>
    simp only [mRng2, q] at h
    cases q2 : gets [o, p] hs s with
    | none => simp only [q2] at h
    | some ts =>
      simp only [q2] at h
      cases q3 : int2 ts with
      | none => simp only [q3] at h
      | some p =>
        obtain ⟨i, j⟩ := p
        simp only [q3] at h
        obtain ⟨e, k⟩ := int2_ok q3
        exact ints_run (ns := [i, j]) w hL q q2 e fun Z1 H1 fp1 s1 w1 => ⟨i, j, rfl, k, h Z1 H1 fp1 _ s1 w1 itR_rng⟩

/-! ### comprehensions -/
def wipeS (s : S) : List Nat → S
  | [] => s
  | v :: vs => (wipeS s vs).set v .un
def mYes : M Bool := fun s => .ok true s
/-- the turns: what is made so far, the state -/
def lcL (us : List Nat) (tg : Tg) (t : M Bool) (m : M T) : List D → List D → S → R (List D)
  | [], acc, s => .ok acc s
  | d :: ds, acc, s => match tg.set d s with
    | none => .no
    | some s1 => match t s1 with
      | .ok false s2 => lcL us tg t m ds acc (wipeS s2 us)
      | .ok true s2 => match m s2 with
        | .ok y s3 => if acc.length < big then lcL us tg t m ds (acc ++ [y.1]) (wipeS s3 us) else .no
        | _ => .no
      | _ => .no
def mLc (us : List Nat) (tg : Tg) (mi : M (List D)) (t : M Bool) (m : M T) : M T := fun s => match mi s with
  | .ok items s1 => match lcL us tg t m items [] (wipeS s1 us) with
    | .ok acc s2 => .ok (.lst acc, 1) s2
    | _ => .no
  | .ex x s1 => .ex x s1
  | .no => .no
/-- own slots are forgotten -/
theorem Wl.forget {i : Nat} (w : Wl c L vc Z H σ vx st tx fp) (hi : i < L) : ∃ fp', (∀ a ∈ fp', a ∈ fp) ∧ Wl c L vc Z H (σ.set i none) vx (st.set i .un) tx fp' := by
  have his : i < st.length := Nat.lt_of_lt_of_le hi w.hst
  have hi2 : (st ++ tx)[i]? = some st[i] := by rw [List.getElem?_append_left his, List.getElem?_eq_getElem his]
  obtain ⟨ov, g1, f0, g2, e1, e2, r0, k⟩ := LR.get2 w.lr hi2
  have lr := k (CeR c vc Z H) .un none [] (fun _ _ _ _ h => h) rfl
  rw [set_app his, set_app (by rw [w.len]; exact hi)] at lr
  have nd := w.nd
  rw [e2] at nd
  have n1 := List.nodup_append.mp nd
  have n2 := List.nodup_append.mp n1.1
  have mm : ∀ a ∈ g1 ++ [] ++ g2, a ∈ fp := fun a ha => by
    rw [List.append_nil] at ha
    rw [e2]
    rcases List.mem_append.mp ha with ha | ha
    · exact List.mem_append_left _ (List.mem_append_left _ ha)
    · exact List.mem_append_right _ ha
  refine ⟨g1 ++ [] ++ g2, mm, by rw [List.length_set]; exact w.len, by rw [List.length_set]; exact w.hst, w.hvc, w.sub, lr, ?_, fun a ha => w.dj a (mm a ha)⟩
  rw [List.append_nil]
  exact List.nodup_append.mpr ⟨n2.1, n1.2.1, fun a ha => n1.2.2 a (List.mem_append_left _ ha)⟩
theorem Wl.forgets : ∀ {us : List Nat} {fp : List Addr}, (∀ i ∈ us, i < L) → Wl c L vc Z H σ vx st tx fp → ∃ fp', (∀ a ∈ fp', a ∈ fp) ∧ Wl c L vc Z H (wipe σ us) vx (wipeS st us) tx fp'
  | [], fp, _, w => ⟨fp, fun _ h => h, w⟩
  | u :: us, fp, hL, w => by
    obtain ⟨f1, h1, w1⟩ := Wl.forgets (us := us) (fun i hi => hL i (List.mem_cons_of_mem _ hi)) w
    obtain ⟨f2, h2, w2⟩ := w1.forget (hL u List.mem_cons_self)
    exact ⟨f2, fun a ha => h1 a (h2 a ha), w2⟩
theorem LR.swap : ∀ {as : S} {bs bs' : List (Option V)} {fp : List Addr}, LR (CeR c vc Z H) as bs fp → bs'.length = bs.length → (∀ i : Nat, as[i]? ≠ some .un → bs[i]? = bs'[i]?) → LR (CeR c vc Z H) as bs' fp
  | [], [], bs', fp, h, hl, _ => by
    cases bs' with
    | nil => exact h
    | cons => cases hl
  | a :: as, b :: bs, [], fp, _, hl, _ => by cases hl
  | a :: as, b :: bs, b' :: bs', fp, ⟨f, g, e, h1, h2⟩, hl, k => by
    refine ⟨f, g, e, ?_, LR.swap h2 (Nat.succ.inj hl) fun i hi => by simpa using k (i + 1) (by simpa using hi)⟩
    by_cases q : a = .un
    · subst q; exact h1
    · have := k 0 (by simpa using q)
      simp only [List.getElem?_cons_zero, Option.some.injEq] at this
      rw [← this]; exact h1
  | [], _ :: _, _, _, h, _, _ => h.elim
  | _ :: _, [], _, _, h, _, _ => h.elim
def unAt (s : S) (us : List Nat) : Prop := ∀ i ∈ us, s[i]? = some .un
theorem wipeS_len : ∀ {s : S} {us : List Nat}, (wipeS s us).length = s.length
  | s, [] => rfl
  | s, u :: us => by unfold wipeS; rw [List.length_set, wipeS_len]
theorem wipeS_un : ∀ {s : S} {us : List Nat}, (∀ i ∈ us, i < s.length) → unAt (wipeS s us) us
  | s, [], _, i, h => nomatch h
  | s, u :: us, hl, i, h => by
    unfold wipeS
    by_cases q : i = u
    · subst q
      rw [List.getElem?_set_self (by rw [wipeS_len]; exact hl i List.mem_cons_self)]
    · rw [List.getElem?_set_ne (Ne.symm q)]
      rcases List.mem_cons.mp h with h | h
      · exact absurd h q
      · exact wipeS_un (fun j hj => hl j (List.mem_cons_of_mem _ hj)) i h
theorem wipe_ne {σ : St} {i : Nat} : ∀ {us : List Nat}, i ∉ us → (wipe σ us)[i]? = σ[i]?
  | [], _ => rfl
  | u :: us, h => by
    unfold wipe
    rw [List.getElem?_set_ne (fun e => h (by rw [e]; exact List.mem_cons_self)), wipe_ne fun e => h (List.mem_cons_of_mem _ e)]
theorem wipe_wipe {σ : St} {us : List Nat} : wipe (wipe σ us) us = wipe σ us := by
  have gen : ∀ (vs ws : List Nat), (∀ i ∈ vs, i ∈ ws) → wipe (wipe σ vs) ws = wipe σ ws := by
    intro vs
    induction vs with
    | nil => intro ws _; rfl
    | cons v vs ih =>
      intro ws h
      show wipe ((wipe σ vs).set v none) ws = wipe σ ws
      rw [wipe_set (h v List.mem_cons_self), ih ws fun i hi => h i (List.mem_cons_of_mem _ hi)]
  exact gen us us fun _ h => h
theorem Wl.unwipe {us : List Nat} (w : Wl c L vc Z H (wipe σ us) vx st tx fp) (hu : unAt st us) : Wl c L vc Z H σ vx st tx fp := by
  have hl : σ.length = L := by rw [← wipe_length σ us]; exact w.len
  refine ⟨hl, w.hst, w.hvc, w.sub, LR.swap w.lr (by simp [wipe_length]) fun i hi => ?_, w.nd, w.dj⟩
  by_cases q : i ∈ us
  · have e := hu i q
    exact absurd (by rw [List.getElem?_append_left (List.getElem?_eq_some_iff.mp e).1]; exact e) hi
  · by_cases k : i < σ.length
    · rw [List.getElem?_append_left k, List.getElem?_append_left (by rw [wipe_length]; exact k), wipe_ne q]
    · have k2 : (wipe σ us).length ≤ i := by rw [wipe_length]; omega
      rw [List.getElem?_append_right k2, List.getElem?_append_right (by omega), wipe_length]
/-- the list on top grows -/
theorem wl_app {a : Addr} {xs : List D} (w : Wl c L vc Z H σ (vx ++ [some (.ref a)]) st (tx ++ [.ow (.lst xs) 1]) fp) (hvc : ∀ j v, vc j = some v → L ≤ j ∧ vx[j - L]? = some (some v)) :
    ∃ vs, H a = some (.lst vs) ∧ xs.length = vs.length ∧ ∀ d y, RF c Z d y → ∃ fp', Stp fp Z H fp' Z (upd H a (.lst (vs ++ [y]))) ∧ Wl c L vc Z (upd H a (.lst (vs ++ [y]))) σ (vx ++ [some (.ref a)]) st (tx ++ [.ow (.lst (xs ++ [d])) 1]) fp' := by
  obtain ⟨g, f, e, ⟨v', e', r⟩, w2⟩ := w.pop hvc
  cases e'
  obtain ⟨b, vs, f', e1, h1, h2, h3⟩ := r
  cases e1
  have nd := w.nd
  rw [e] at nd
  have n1 := List.nodup_append.mp nd
  have hf : ∀ x ∈ f', False := LR.mem h2 fun _ _ _ h x hx => by rw [h.2] at hx; cases hx
  have ef : f' = [] := List.eq_nil_iff_forall_not_mem.mpr hf
  subst ef
  rw [h3] at e n1
  have hag : ∀ x ∈ g, x ≠ a := fun x hx q => n1.2.2 x hx a List.mem_cons_self q
  have ha : a ∈ fp := by rw [e]; exact List.mem_append_right _ List.mem_cons_self
  have sb : ∀ o, Sub Z (upd H a o) := fun o b u q => by
    have ne : b ≠ a := fun z => by
      subst z
      rw [w.dj b ha] at q
      cases q
    rw [upd_ne ne]
    exact w.sub b u q
  have rt : ∀ d y, RF c Z d y → RT c Z (upd H a (.lst (vs ++ [y]))) 1 (.lst (xs ++ [d])) (.ref a) [a] := fun d y rf =>
    ⟨a, vs ++ [y], [], rfl, upd_same, LR.append (f := []) (g := []) (LR.imp h2 fun _ _ _ _ _ r => r) (LR.one ⟨rf, rfl⟩), rfl⟩
  have n1' : [a].Nodup := by simp
  refine ⟨vs, h1, h2.len, fun d y rf => ⟨g ++ [a], ?_, w2.push (Sm.refl Z) (sb _) (fun x hx => by rw [upd_ne (hag x hx)]) (rt d y rf) (fun x hx hb => hag x hb (List.mem_singleton.mp hx)) w2.dj n1' fun x hx => by rw [List.mem_singleton.mp hx]; exact w.dj a ha⟩⟩
  refine ⟨Sm.refl Z, fun b o q hb _ => ?_, fun b q => ?_, fun b hb => .inl (by rw [e]; exact hb), fun b q => .inl q⟩
  · have ne : b ≠ a := fun z => hb (by rw [z]; exact ha)
    rw [upd_ne ne]; exact q
  · by_cases z : b = a
    · subst z; rw [upd_same]; exact fun z => nomatch z
    · rw [upd_ne z]; exact q
abbrev Wf : WX := fun _ _ _ _ => False
theorem mLc_rd {us : List Nat} {tg : Tg} {g : TG} {mi : M (List D)} {t : M Bool} {m : M T} {Q : VK} (hL : ∀ i ∈ us, i < L) (hg : TgR c L g tg) (hs : ∀ i ∈ tg.slots, i ∈ us) (h : rd c L W (mLc us tg mi t m) σ H Q) :
    tLc (rdI c L W mi) g (rdT c L Wf t) (rd c L Wf m) us σ H Q := by
  obtain ⟨Z, vc, vx, st, tx, fp, w, h⟩ := h
  refine ⟨Z, vc, vx, st, tx, fp, w, ?_⟩
  cases q : mi st with
  | no => simp only [mLc, q] at h; exact h
  | ex x s => simp only [mLc, q] at h; exact h
  | ok items s =>
    simp only [mLc, q] at h
    cases q2 : lcL us tg t m items [] (wipeS s us) with
    | no => simp only [q2] at h; exact h.elim
    | ex x s => simp only [q2] at h; exact h.elim
    | ok accF sF =>
      simp only [q2] at h
      intro Z1 H1 fp1 J s1 w1 it a ha
      -- the new list stands on top
      have w1a : Wl c L vc Z1 (upd H1 a (.lst [])) σ (vx ++ [some (.ref a)]) s (tx ++ [.ow (.lst []) 1]) (fp1 ++ [a]) := w1.al (al_new w1.sub ha) (rt_lst (vs := []) rfl fun i d w h => by simp at h)
      obtain ⟨fp0, k0, w0⟩ := w1a.forgets hL
      have s0 : Stp fp1 Z1 H1 fp0 Z1 (upd H1 a (.lst [])) := (Stp.of_al (al_new w1.sub ha)).trans (Stp.less k0)
      refine ⟨fun i k H' => k = items.length - i ∧ i ≤ items.length ∧ ∃ Z' st' fp' acc, Stp fp1 Z1 H1 fp' Z' H' ∧ Wl c L vc Z' H' (wipe σ us) (vx ++ [some (.ref a)]) st' (tx ++ [.ow (.lst acc) 1]) fp' ∧ unAt st' us ∧ lcL us tg t m (items.drop i) acc st' = .ok accF sF,
        ⟨items.length, by simp, Nat.zero_le _, Z1, wipeS s us, fp0, [], s0, w0, wipeS_un fun i hi => Nat.lt_of_lt_of_le (hL i hi) w1.hst, q2⟩, ?_⟩
      rintro i k H' ⟨rfl, hi, Z', st', fp', acc, s', w', hu, hr⟩
      by_cases hlt : i < items.length
      · refine .inr ⟨it.go i Z' H' s'.zz w'.sub hlt, fun H2 => ∃ Z' st' fp' acc, Stp fp1 Z1 H1 fp' Z' H2 ∧ Wl c L vc Z' H2 (wipe σ us) (vx ++ [some (.ref a)]) st' (tx ++ [.ow (.lst acc) 1]) fp' ∧ unAt st' us ∧ lcL us tg t m (items.drop (i + 1)) acc st' = .ok accF sF,
          fun H2 hn => ⟨items.length - (i + 1), by omega, rfl, hlt, hn⟩, fun x H2 hy => ?_⟩
        obtain ⟨Z2, al, rf⟩ := it.yld i Z' H' x H2 items[i] s'.zz w'.sub (List.getElem?_eq_getElem hlt) hy
        rw [List.drop_eq_getElem_cons hlt] at hr
        cases q3 : tg.set items[i] st' with
        | none => simp only [lcL, q3] at hr; cases hr
        | some s2 =>
          simp only [lcL, q3] at hr
          have wal := w'.al (d := .non) (n := 0) (v := .non) al ⟨.non, rfl⟩
          obtain ⟨g0, f0, e0, _, w2⟩ := wal.pop w'.hvc
          have sg : Stp fp' Z' H' g0 Z2 H2 := (Stp.of_al al).trans (Stp.less fun a ha => by rw [e0]; exact List.mem_append_left _ ha)
          refine hg w2 rf q3 fun σ3 fp3 h3 w3 hw3 => ?_
          have ew : wipe σ3 us = wipe σ us := (hw3 us hs).trans wipe_wipe
          refine ⟨ew, Z2, vc, _, s2, _, fp3, w3, ?_⟩
          have st3 : Stp fp1 Z1 H1 fp3 Z2 H2 := (s'.trans sg).trans (Stp.less h3)
          cases q4 : t s2 with
          | no => simp only [q4] at hr; cases hr
          | ex x s => simp only [q4] at hr; cases hr
          | ok b s4 =>
            intro Z4 H4 fp4 st4 w4
            have st4' := st3.trans st4
            cases b with
            | false =>
              simp only [q4] at hr
              rw [if_neg Bool.false_ne_true]
              obtain ⟨fp5, k5, w5⟩ := w4.forgets hL
              rw [ew] at w5
              exact ⟨Z4, _, fp5, acc, st4'.trans (Stp.less k5), w5, wipeS_un fun i hi => Nat.lt_of_lt_of_le (hL i hi) w4.hst, hr⟩
            | true =>
              simp only [q4] at hr
              rw [if_pos rfl]
              refine ⟨Z4, vc, _, s4, _, fp4, w4, ?_⟩
              cases q5 : m s4 with
              | no => simp only [q5] at hr; cases hr
              | ex x s => simp only [q5] at hr; cases hr
              | ok y s6 =>
                simp only [q5] at hr
                by_cases kb : acc.length < big
                · rw [if_pos kb] at hr
                  intro Z6 H6 v6 fp6 st6 w6
                  obtain ⟨Z7, g7, w7, st7, rf7⟩ := Wl.frz (ts := [y]) (vs := [v6]) w6 w4.hvc rfl
                  obtain ⟨vs, e8, l8, k8⟩ := wl_app w7 w.hvc
                  obtain ⟨fp9, st9, w9⟩ := k8 y.1 v6 (rf7 0 y.1 v6 rfl rfl)
                  obtain ⟨fp10, k10, w10⟩ := w9.forgets hL
                  rw [ew] at w10
                  exact ⟨vs, e8, Nat.lt_of_lt_of_le (by omega) big_le, Z7, _, fp10, acc ++ [y.1], (((st4'.trans st6).trans st7).trans st9).trans (Stp.less k10), w10, wipeS_un fun i hi => Nat.lt_of_lt_of_le (hL i hi) w7.hst, hr⟩
                · rw [if_neg kb] at hr; cases hr
      · have e : items.drop i = [] := List.drop_eq_nil_of_le (by omega)
        rw [e] at hr
        cases hr
        exact .inl ⟨it.stop i Z' H' s'.zz w'.sub (by omega), h Z' H' (.ref a) fp' (s1.trans s') (w'.unwipe hu)⟩
end

/-! ### the rules over the text -/
section
variable {X : Cx} {c : Zc} {L : Nat} {W : WX} {pos : Pos}
theorem PI.imp {tg e : Expr} {t t' : TI} (h : PI X tg e t) (k : ∀ σ H Q, t' σ H Q → t σ H Q) : PI X tg e t' := ⟨fun pins s σ H Q I q => h.run pins s σ H Q I (k _ _ _ q)⟩
theorem PI.or {tg e : Expr} {t t' : TI} (h : PI X tg e t) (k : PI X tg e t') : PI X tg e (fun σ H R => t σ H R ∨ t' σ H R) := ⟨fun pins s σ H Q I q => q.elim (h.run pins s σ H Q I) (k.run pins s σ H Q I)⟩
abbrev ZI (X : Cx) (c : Zc) (L : Nat) (W : WX) (tg e : Expr) (m : M (List D)) : Prop := PI X tg e (rdI c L W m)
theorem zi_seq {tg e : Expr} {m : M T} (hK : c.K = X.K) (h : ZE X c L W e m) : ZI X c L W tg e (mIts m) := by
  refine PI.imp (PI.or (pi_list h) (PI.or (pi_tup h) (PI.or (pi_str h) (pi_keys (pe_lockV h))))) fun σ H R q => ?_
  rw [← hK]
  exact mIts_rd q
theorem zi_items {e : Expr} {m : M T} {apos cpos tpos : Pos} {elts : List Expr} {kk : Nat} (h : ZE X c L W e m) (hbase : attributeBase e "items" X.env (eval e X.env) = eval e X.env := by rfl) (hline : (apos.endLine == cpos.line) = true := by rfl) :
    ZI X c L W (.Tuple elts kk tpos) (.Call (.Attribute e "items" apos) [] [] cpos) (mItems m) := PI.imp (pi_items (pe_lockV h) hbase hline) fun _ _ _ q => mItems_rd q
theorem zi_rng1 {tg a : Expr} {o : Opd} {p : Pos} (hg : Gl X "range") (hm : X.mg "range" = none) (ha : ZOs X c L W [a] [o]) (hs : starEach [a] X.env = [(false, eval a X.env)] := by rfl) (hL : okL L [o] = true := by rfl) : ZI X c L W tg (.Call (.Name "range" p) [a] [] pos) (mRng1 o) :=
  PI.imp (pi_range1 hg hm ha hs) fun _ _ _ q => mRng1_rd hL q
theorem zi_rng2 {tg a b : Expr} {o o' : Opd} {p : Pos} (hg : Gl X "range") (hm : X.mg "range" = none) (ha : ZOs X c L W [a, b] [o, o']) (hs : starEach [a, b] X.env = [(false, eval a X.env), (false, eval b X.env)] := by rfl) (hs2 : starEach [b] X.env = [(false, eval b X.env)] := by rfl) (hL : okL L [o, o'] = true := by rfl) : ZI X c L W tg (.Call (.Name "range" p) [a, b] [] pos) (mRng2 o o') :=
  PI.imp (pi_range2 hg hm ha hs hs2) fun _ _ _ q => mRng2_rd hL q
theorem zi_enum {e : Expr} {m : M T} {p tpos : Pos} {elts : List Expr} {kk : Nat} (hK : c.K = X.K) (hg : Gl X "enumerate") (hm : X.mg "enumerate" = none) (ha : ZA X c L W [e] [m]) (hs : starEach [e] X.env = [(false, eval e X.env)] := by rfl) : ZI X c L W (.Tuple elts kk tpos) (.Call (.Name "enumerate" p) [e] [] pos) (mEnum m) := by
  refine PI.imp (pi_enum hg hm ha hs) fun σ H R q => ?_
  rw [← hK]
  exact mEnum_rd q
theorem ze_lc {elt tg iter : Expr} {ifs : List Expr} {scope : Scope} {own : List (Str × Nat)} {g : TG} {tgz : Tg} {mi : M (List D)} {t : M Bool} {m : M T} (hc : X.calm = true) (hN : X.N.Nodup) (hi : ZI X c L W tg iter mi) (ok : BlkOk X.N X.env.scope scope own)
    (hg : ∀ (s : Shared) (H : Hp) (C : Addr) (cl : List (Str × Addr)) (fp : List Addr), PG (X.blk s H scope (compEnvC scope cl C X.env) fp) tg g) (hz : TgR c L g tgz)
    (ht : ∀ (s : Shared) (H : Hp) (C : Addr) (cl : List (Str × Addr)) (fp : List Addr), PTs (X.blk s H scope (compEnvC scope cl C X.env) fp) ifs (rdT c L Wf t))
    (he : ∀ (s : Shared) (H : Hp) (C : Addr) (cl : List (Str × Addr)) (fp : List Addr), ZE (X.blk s H scope (compEnvC scope cl C X.env) fp) c L Wf elt m)
    (hL : ∀ i ∈ own.map (·.2), i < L := by decide) (hsl : ∀ i ∈ tgz.slots, i ∈ own.map (·.2) := by decide) (hs : ∀ x, foldedSetIterable iter X.env x = pure x := by intro _; rfl) :
    ZE X c L W (.ListComp elt [⟨tg, iter, ifs, 0⟩] scope pos) (mLc (own.map (·.2)) tgz mi t m) := PE.imp (pe_lc hc hN hi ok hg ht he hs) fun _ _ _ q => mLc_rd hL hz hsl q
theorem zts_nil : PTs X [] (rdT c L W mYes) := ⟨fun pins s σ H Q I h => pts_nil.run pins s σ H Q I (by
  obtain ⟨Z, vc, vx, st, tx, fp, w, h⟩ := h
  exact h Z H fp Stp.refl w)⟩
theorem zts_one {e : Expr} {m : M Bool} (h : ZT X c L W e m) : PTs X [e] (rdT c L W m) := pts_one h
end
end Z

namespace Z
open PySem L2
/-! ### scalars -/
def scV : D → Option V
  | .non => some .non
  | .bl b => some (.bl b)
  | .int i => some (.int i)
  | .str s => some (.str s)
  | _ => none
def scVs : List D → Option (List V)
  | [] => some []
  | d :: ds => match scV d, scVs ds with
    | some v, some vs => some (v :: vs)
    | _, _ => none
section
variable {c : Zc} {Z H : Hp} {fp : List Addr} {v : V}
theorem tre_sc {t : T} {u : V} (h : Tre c Z H fp v t) (e : scV t.1 = some u) : v = u := by
  obtain ⟨d, n⟩ := t
  cases d with
  | non => cases e; exact tre_non h
  | bl b => cases e; exact tre_bl h
  | int b => cases e; exact tre_int h
  | str b => cases e; exact tre_str h
  | _ => cases e
theorem rf_sc {d : D} {u : V} (h : RF c Z d v) (e : scV d = some u) : v = u := tre_sc (Z := Z) (H := Z) (fp := []) (t := (d, 0)) (rf_tre h) e
theorem scV_rf {d : D} {u : V} (e : scV d = some u) : RF c Z d u := by
  cases d with
  | non => cases e; exact .non
  | bl b => cases e; exact .bl
  | int b => cases e; exact .int
  | str b => cases e; exact .str
  | _ => cases e
theorem scV_flat {d : D} {u : V} (e : scV d = some u) : flatV u = true := by
  cases d with
  | non => cases e; rfl
  | bl b => cases e; rfl
  | int b => cases e; rfl
  | str b => cases e; rfl
  | _ => cases e
theorem scVs_eq {n : Nat} : ∀ {xs : List D} {vs us : List V}, scVs xs = some us → xs.length = vs.length → (∀ (i : Nat) d w, xs[i]? = some d → vs[i]? = some w → Tre c Z H fp w (d, n)) → vs = us
  | [], [], us, e, _, _ => by cases e; rfl
  | x :: xs, w :: vs, us, e, hl, h => by
    unfold scVs at e
    cases q : scV x with
    | none => simp only [q] at e; cases e
    | some u =>
      cases q2 : scVs xs with
      | none => simp only [q, q2] at e; cases e
      | some us' =>
        simp only [q, q2, Option.some.injEq] at e
        subst e
        rw [tre_sc (h 0 x w rfl rfl) q, scVs_eq q2 (Nat.succ.inj hl) fun i d w h1 h2 => h (i + 1) d w (by simpa using h1) (by simpa using h2)]
  | [], _ :: _, _, _, hl, _ => by cases hl
  | _ :: _, [], _, _, hl, _ => by cases hl
theorem scVs_flat : ∀ {xs : List D} {us : List V}, scVs xs = some us → us.all flatV = true
  | [], us, e => by cases e; rfl
  | x :: xs, us, e => by
    unfold scVs at e
    cases q : scV x with
    | none => simp only [q] at e; cases e
    | some u =>
      cases q2 : scVs xs with
      | none => simp only [q, q2] at e; cases e
      | some us' =>
        simp only [q, q2, Option.some.injEq] at e
        subst e
        simp [scV_flat q, scVs_flat q2]
end

/-! ### data without objects, for == -/
mutual
def toP : D → Option PyData
  | .non => some .none
  | .bl b => some (.bool b)
  | .int i => some (.int i)
  | .str s => some (.str s)
  | .lst xs => (toPs xs).map .list
  | .tup xs => (toPs xs).map .tuple
  | .rol xs => (toPs xs).map .list
  | .dct _ => none
  | .obj _ _ => none
def toPs : List D → Option (List PyData)
  | [] => some []
  | x :: xs => match toP x, toPs xs with
    | some a, some b => some (a :: b)
    | _, _ => none
end
section
variable {c : Zc} {Z H : Hp} {fp : List Addr}
mutual
theorem tre_dp (s : Sub Z H) : ∀ (d : D) {n : Nat} {v : V} {p : PyData}, Tre c Z H fp v (d, n) → toP d = some p → Dp c.K H v p
  | .non, n, v, p, h, e => by cases e; rw [tre_non h]; exact .non
  | .bl b, n, v, p, h, e => by cases e; rw [tre_bl h]; exact .bl b
  | .int b, n, v, p, h, e => by cases e; rw [tre_int h]; exact .int b
  | .str b, n, v, p, h, e => by cases e; rw [tre_str h]; exact .str b
  | .lst xs, n, v, p, h, e => by
    obtain ⟨a, vs, rfl, h1, h2, h3⟩ := tre_lst s h
    unfold toP at e
    cases q : toPs xs with
    | none => rw [q] at e; cases e
    | some ps =>
      rw [q] at e
      cases e
      exact .lst (.inl (.inl h1)) (tre_dps s xs h2 h3 q)
  | .tup xs, n, v, p, h, e => by
    obtain ⟨a, vs, rfl, h1, h2, h3⟩ := tre_tup s h
    unfold toP at e
    cases q : toPs xs with
    | none => rw [q] at e; cases e
    | some ps =>
      rw [q] at e
      cases e
      exact .tup h1 (tre_dps s xs h2 h3 q)
  | .rol xs, n, v, p, h, e => by
    obtain ⟨a, vs, rfl, h1, h2, h3⟩ := tre_rol s h
    unfold toP at e
    cases q : toPs xs with
    | none => rw [q] at e; cases e
    | some ps =>
      rw [q] at e
      cases e
      exact .lst h1 (tre_dps (n := 0) s xs h2 (fun i d w k1 k2 => rf_tre (h3 i d w k1 k2)) q)
  | .dct _, n, v, p, h, e => by cases e
  | .obj _ _, n, v, p, h, e => by cases e
theorem tre_dps (s : Sub Z H) : ∀ (xs : List D) {n : Nat} {vs : List V} {ps : List PyData}, xs.length = vs.length → (∀ (i : Nat) d w, xs[i]? = some d → vs[i]? = some w → Tre c Z H fp w (d, n)) → toPs xs = some ps → DpAll c.K H vs ps
  | [], n, [], ps, _, _, e => by cases e; exact .nil
  | x :: xs, n, v :: vs, ps, hl, h, e => by
    unfold toPs at e
    cases q : toP x with
    | none => simp only [q] at e; cases e
    | some p =>
      cases q2 : toPs xs with
      | none => simp only [q, q2] at e; cases e
      | some ps' =>
        simp only [q, q2, Option.some.injEq] at e
        subst e
        exact .cons (tre_dp s x (h 0 x v rfl rfl) q) (tre_dps s xs (Nat.succ.inj hl) (fun i d w h1 h2 => h (i + 1) d w (by simpa using h1) (by simpa using h2)) q2)
  | [], n, _ :: _, ps, hl, _, _ => by cases hl
  | _ :: _, n, [], ps, hl, _, _ => by cases hl
end
end

/-! ### == and != -/
def eqS (x y : D) : Option Bool := match scV x, scV y with
  | some a, some b => if scal a b = true then some (decide (a = b)) else none
  | _, _ => none
def eqP (x y : D) : Option Bool := match toP x, toP y with
  | some a, some b => if SeqAt.shaped a = true ∧ SeqAt.shaped b = true then some (PyData.eqv a b) else none
  | _, _ => none
def eqD (x y : D) : Option Bool := match eqS x y with
  | some b => some b
  | none => eqP x y
def fEq : F
  | [x, y] => (eqD x.1 y.1).map fun b => (.bl b, 0)
  | _ => none
def fNe : F
  | [x, y] => (eqD x.1 y.1).map fun b => (.bl (!b), 0)
  | _ => none
section
variable {c : Zc}
theorem ru_eqD {k : Bool → Bool} {f : F} {r r' : R2} (hf : ∀ ts t, f ts = some t → ∃ x y b, ts = [x, y] ∧ eqD x.1 y.1 = some b ∧ t = (.bl (k b), 0))
    (h1 : ∀ {x y : V} {H : Hp} {Q : VK}, scal x y = true → Q (.bl (k (decide (x = y)))) H → r x y H Q)
    (h2 : ∀ {x y : V} {H : Hp} {Q : VK} {d e : PyData}, Dp c.K H x d → Dp c.K H y e → SeqAt.shaped d = true → SeqAt.shaped e = true → Q (.bl (k (PyData.eqv d e))) H → r' x y H Q) : RuZ c (r2 fun x y H Q => r x y H Q ∨ r' x y H Q) f := by
  intro Z H fp vs ts t Q e s h kk
  obtain ⟨x, y, b, rfl, e2, rfl⟩ := hf ts t e
  clear e
  have e := e2
  clear e2
  obtain ⟨u, v, rfl, hx, hy⟩ := tre2 h
  show r u v H Q ∨ r' u v H Q
  unfold eqD at e
  cases q : eqS x.1 y.1 with
  | some b' =>
    rw [q] at e
    cases e
    unfold eqS at q
    split at q
    · rename_i a a' e1 e2
      split at q
      · rename_i hs
        cases q
        rw [tre_sc hx e1, tre_sc hy e2]
        exact .inl (h1 hs (kF s kk .bl))
      · cases q
    · cases q
  | none =>
    rw [q] at e
    have e : eqP x.1 y.1 = some b := e
    unfold eqP at e
    split at e
    · rename_i a a' e1 e2
      split at e
      · rename_i hs
        cases e
        exact .inr (h2 (tre_dp s _ hx e1) (tre_dp s _ hy e2) hs.1 hs.2 (kF s kk .bl))
      · cases e
    · cases e
theorem ruEq : RuZ c (r2 fun x y H Q => rEq x y H Q ∨ rEqD c.K x y H Q) fEq := ru_eqD (k := id) (fun ts t e => by
    match ts, e with
    | [x, y], e =>
      simp only [fEq] at e
      cases q : eqD x.1 y.1 with
      | none => rw [q] at e; cases e
      | some b => rw [q] at e; cases e; exact ⟨x, y, b, rfl, q, rfl⟩) (fun a b => ⟨a, b⟩) fun a b d e f => ⟨_, _, a, b, d, e, f⟩
theorem ruNe : RuZ c (r2 fun x y H Q => rNe x y H Q ∨ rNeD c.K x y H Q) fNe := ru_eqD (k := fun b => !b) (fun ts t e => by
    match ts, e with
    | [x, y], e =>
      simp only [fNe] at e
      cases q : eqD x.1 y.1 with
      | none => rw [q] at e; cases e
      | some b => rw [q] at e; cases e; exact ⟨x, y, b, rfl, q, rfl⟩) (fun a b => ⟨a, b⟩) fun a b d e f => ⟨_, _, a, b, d, e, f⟩

/-! ### numbers -/
def fLt : F := fI0 fun i j => .bl (decide (i < j))
def fLe : F := fI0 fun i j => .bl (decide (i ≤ j))
def fGt : F := fI0 fun i j => .bl (decide (j < i))
def fGe : F := fI0 fun i j => .bl (decide (j ≤ i))
theorem ruLt : RuZ c (r2 (rI0 fun i j => .bl (decide (i < j)))) fLt := ruI0 fun _ _ _ => .bl
theorem ruLe : RuZ c (r2 (rI0 fun i j => .bl (decide (i ≤ j)))) fLe := ruI0 fun _ _ _ => .bl
theorem ruGt : RuZ c (r2 (rI0 fun i j => .bl (decide (j < i)))) fGt := ruI0 fun _ _ _ => .bl
theorem ruGe : RuZ c (r2 (rI0 fun i j => .bl (decide (j ≤ i)))) fGe := ruI0 fun _ _ _ => .bl
instance : ∀ i j, Decidable (CMul i j) := fun i j => by unfold CMul; infer_instance
instance : ∀ i j, Decidable (CDiv i j) := fun i j => by unfold CDiv; infer_instance
instance : ∀ i j, Decidable (CPow i j) := fun i j => by unfold CPow; infer_instance
def fSub : F := fI0 fun i j => .int (i - j)
def fMulI : F := fI CMul fun i j => .int (i * j)
def fDiv : F := fI CDiv fun i j => .int (i / j)
def fMod : F := fI (fun _ j => 0 < j) fun i j => .int (i % j)
def fPow : F := fI CPow fun i j => .int (i ^ j.toNat)
theorem ruSub : RuZ c (r2 (rI0 fun i j => .int (i - j))) fSub := ruI0 fun _ _ _ => .int
theorem ruMulI : RuZ c (r2 (rI CMul fun i j => .int (i * j))) fMulI := ruI fun _ _ _ => .int
theorem ruDiv : RuZ c (r2 (rI CDiv fun i j => .int (i / j))) fDiv := ruI fun _ _ _ => .int
theorem ruMod : RuZ c (r2 (rI (fun _ j => 0 < j) fun i j => .int (i % j))) fMod := ruI fun _ _ _ => .int
theorem ruPow : RuZ c (r2 (rI CPow fun i j => .int (i ^ j.toNat))) fPow := ruI fun _ _ _ => .int
/-- + -/
def fAddI : F := fI0 fun i j => .int (i + j)
def fAddL : F
  | [(.lst xs, n), (.lst ys, m)] => if n ≤ 1 ∧ m ≤ 1 ∧ xs.length + ys.length ≤ big then some (.lst (xs ++ ys), 1) else none
  | _ => none
def fAddT : F
  | [(.tup xs, n), (.tup ys, m)] => if n = 0 ∧ m = 0 ∧ xs.length + ys.length ≤ big then some (.tup (xs ++ ys), 0) else none
  | _ => none
def fAdd : F := fOr fAddI (fOr fAddS (fOr fAddL fAddT))
theorem one_le {n : Nat} (h : n ≤ 1) : n - 1 = 0 := by omega
theorem ruAddL : RuZ c (r2 rCat) fAddL := by
  intro Z H fp vs ts t Q e s h k
  match ts, e with
  | [(.lst xs, n), (.lst ys, m)], e =>
    obtain ⟨x, y, rfl, hx, hy⟩ := tre2 h
    simp only [fAddL] at e
    split at e
    · rename_i q
      cases e
      obtain ⟨a, vs, rfl, h1, h2, h3⟩ := tre_lst s hx
      obtain ⟨b, ws, rfl, k1, k2, k3⟩ := tre_lst s hy
      refine ⟨a, b, vs, ws, rfl, rfl, h1, k1, Nat.le_trans (by omega) big_le, fun p hp => ?_⟩
      refine kL s k (by simp [h2, k2]) (items_app h2 (fun i d w e1 e2 => ?_) fun i d w e1 e2 => ?_) p hp
      · have z := h3 i d w e1 e2; rw [one_le q.1] at z; exact tre_rf z
      · have z := k3 i d w e1 e2; rw [one_le q.2.1] at z; exact tre_rf z
    · cases e
theorem len0 {α β : Type} {xs : List α} {vs : List β} (h : xs.length = vs.length) : xs = [] ↔ vs = [] := by
  rw [← List.length_eq_zero_iff, ← List.length_eq_zero_iff, h]
theorem ruAddT : RuZ c (r2 (rCatA c.K)) fAddT := by
  intro Z H fp vs ts t Q e s h k
  match ts, e with
  | [(.tup xs, n), (.tup ys, m)], e =>
    obtain ⟨x, y, rfl, hx, hy⟩ := tre2 h
    simp only [fAddT] at e
    split at e
    · rename_i q
      cases e
      obtain ⟨rfl, rfl, q⟩ := q
      have fx := tre_rf hx
      have fy := tre_rf hy
      obtain ⟨a, vs, rfl, h1, h2, h3⟩ := tre_tup s hx
      obtain ⟨b, ws, rfl, k1, k2, k3⟩ := tre_tup s hy
      refine ⟨a, b, vs, ws, rfl, rfl, h1, k1, Nat.le_trans (by omega) big_le, fun e0 => ?_, fun _ e0 => ?_, fun _ _ p hp => ?_⟩
      · have := (len0 h2).mpr e0
        subst this
        exact kF s k fy
      · have := (len0 k2).mpr e0
        subst this
        rw [List.append_nil] at k
        exact kF s k fx
      · exact kT s k (by simp [h2, k2]) (items_app h2 (fun i d w e1 e2 => tre_rf (h3 i d w e1 e2)) fun i d w e1 e2 => tre_rf (k3 i d w e1 e2)) p hp
    · cases e
theorem ruAdd : RuZ c (r2 fun x y H Q => rI0 (fun i j => .int (i + j)) x y H Q ∨ (∃ i j, x = .str i ∧ y = .str j ∧ i.length + j.length ≤ sizeLine ∧ Q (.str (i ++ j)) H) ∨ rCat x y H Q ∨ rCatA c.K x y H Q) fAdd :=
  ruOr2 (ruI0 fun _ _ _ => .int) (ruOr2 ruAddS (ruOr2 ruAddL ruAddT))
end
section
variable {X : Cx} {c : Zc}
theorem opAdd (hK : c.K = X.K) : OpR X (binaryOp .Add) (fun x y H Q => rI0 (fun i j => .int (i + j)) x y H Q ∨ (∃ i j, x = .str i ∧ y = .str j ∧ i.length + j.length ≤ sizeLine ∧ Q (.str (i ++ j)) H) ∨ rCat x y H Q ∨ rCatA c.K x y H Q) :=
  op_add.or (op_add_str.or (op_cat.or (hK ▸ op_catA)))
theorem opEq (hK : c.K = X.K) (hu : X.A.units + 64 < cLine) : OpR X (compareOp .Eq) (fun x y H Q => rEq x y H Q ∨ rEqD c.K x y H Q) := op_eq.or (hK ▸ op_eqD hu)
theorem opNe (hK : c.K = X.K) (hu : X.A.units + 64 < cLine) : OpR X (compareOp .NotEq) (fun x y H Q => rNe x y H Q ∨ rNeD c.K x y H Q) := op_ne.or (hK ▸ op_neD hu)
end
end Z

namespace Z
open PySem L2
section
variable {c : Zc} {Z H : Hp} {fp : List Addr}
/-! ### in -/
def isSign (s : Str) : Option Nat := match s.cps.toList with
  | [k] => some k
  | _ => none
def inS : D → D → Option Bool
  | .str a, .str b => match isSign a with
    | some k => some (decide (k ∈ b.cps.toList))
    | none => none
  | _, _ => none
def inQ (x : D) (xs : List D) : Option Bool := match scV x, scVs xs with
  | some u, some us => some (inV u us)
  | _, _ => none
def kyV : D → Option Key
  | .int i => some (.inl i)
  | .str s => some (.inr s)
  | _ => none
def inD (x y : D) : Option Bool := match y with
  | .lst xs => inQ x xs
  | .tup xs => inQ x xs
  | .rol xs => inQ x xs
  | .dct kvs => match kyV x with
    | some k => some (kvs.any fun p => decide (p.1 = k))
    | none => none
  | .str _ => inS x y
  | _ => none
def fIn : F
  | [x, y] => (inD x.1 y.1).map fun b => (.bl b, 0)
  | _ => none
def fNotIn : F
  | [x, y] => (inD x.1 y.1).map fun b => (.bl (!b), 0)
  | _ => none
theorem isSign_eq {s : Str} {k : Nat} (h : isSign s = some k) : s = ⟨#[k]⟩ := by
  unfold isSign at h
  split at h
  · rename_i l e
    cases h
    obtain ⟨cps⟩ := s
    congr
    exact Array.toList_inj.mp e
  · cases h
theorem kyV_tre {v : V} {t : T} {k : Key} (h : Tre c Z H fp v t) (e : kyV t.1 = some k) : v = kV k := by
  obtain ⟨d, n⟩ := t
  cases d with
  | int i => cases e; exact tre_int h
  | str i => cases e; exact tre_str h
  | _ => cases e
def rInD (neg : Bool) : R2 := fun x y H Q => ∃ a o, y = .ref a ∧ DGet H a x o ∧ Q (.bl (if neg then !o.isSome else o.isSome)) H
theorem valV_any {κ α : Type} [DecidableEq κ] {k : κ} : ∀ {vs : List (κ × V)} {kvs : List (κ × α)}, kvs.map (·.1) = vs.map (·.1) → (valV vs k).isSome = kvs.any fun p => decide (p.1 = k)
  | [], [], _ => rfl
  | (k1, v) :: vs, (k2, d) :: kvs, h => by
    simp only [List.map_cons, List.cons.injEq] at h
    obtain ⟨h1, h2⟩ := h
    subst h1
    have ih := valV_any (k := k) h2
    by_cases q : k2 = k
    · subst q; simp [valV, List.find?, List.any]
    · simp only [valV, List.find?, decide_eq_false q, List.any, Bool.false_or] at ih ⊢
      exact ih
  | [], _ :: _, h => by cases h
  | _ :: _, [], h => by cases h
theorem ru_in {neg : Bool} {f : F} {r1 r2' r3 : R2} (hf : ∀ ts t, f ts = some t → ∃ x y b, ts = [x, y] ∧ inD x.1 y.1 = some b ∧ t = (.bl (if neg then !b else b), 0))
    (h1 : ∀ {x y : V} {H : Hp} {Q : VK}, rIn c.K neg x y H Q → r1 x y H Q) (h2 : ∀ {k : Nat} {z : Str} {H : Hp} {Q : VK}, Q (.bl (if neg then !decide (k ∈ z.cps.toList) else decide (k ∈ z.cps.toList))) H → r2' (.str ⟨#[k]⟩) (.str z) H Q) (h3 : ∀ {x y : V} {H : Hp} {Q : VK}, rInD neg x y H Q → r3 x y H Q) :
    RuZ c (r2 fun x y H Q => r1 x y H Q ∨ r2' x y H Q ∨ r3 x y H Q) f := by
  intro Z H fp vs ts t Q e s h kk
  obtain ⟨x, y, b, rfl, e2, rfl⟩ := hf ts t e
  obtain ⟨u, v, rfl, hx, hy⟩ := tre2 h
  show r1 u v H Q ∨ r2' u v H Q ∨ r3 u v H Q
  have seq : ∀ {xs : List D} {p : Addr} {vs : List V} {n : Nat}, inQ x.1 xs = some b → v = .ref p → (SqL c.K H p vs ∨ SqT c.K H p vs) → xs.length = vs.length → (∀ (i : Nat) d w, xs[i]? = some d → vs[i]? = some w → Tre c Z H fp w (d, n)) → r1 u v H Q := by
    intro xs p vs n e ev hs hl hx'
    unfold inQ at e
    split at e
    · rename_i a as e1 e3
      cases e
      have q := scVs_eq e3 hl hx'
      subst q
      rw [tre_sc hx e1, ev]
      exact h1 ⟨p, vs, rfl, hs, scV_flat e1, scVs_flat e3, kF s kk .bl⟩
    · cases e
  obtain ⟨dy, ny⟩ := y
  cases dy with
  | lst xs =>
    obtain ⟨p, vs, e4, k1, k2, k3⟩ := tre_lst s hy
    exact .inl (seq e2 e4 (.inl (.inl (.inl k1))) k2 k3)
  | tup xs =>
    obtain ⟨p, vs, e4, k1, k2, k3⟩ := tre_tup s hy
    exact .inl (seq e2 e4 (.inr k1) k2 k3)
  | rol xs =>
    obtain ⟨p, vs, e4, k1, k2, k3⟩ := tre_rol s hy
    exact .inl (seq (n := 0) e2 e4 (.inl k1) k2 fun i d w q1 q2 => rf_tre (k3 i d w q1 q2))
  | dct kvs =>
    obtain ⟨p, vs, e4, k1, k2, k3⟩ := tre_dct s hy
    simp only [inD] at e2
    cases q : kyV x.1 with
    | none => rw [q] at e2; cases e2
    | some k =>
      rw [q] at e2
      cases e2
      refine .inr (.inr (h3 ⟨p, valV vs k, e4, .inl ⟨vs, k, k1, kyV_tre hx q, rfl⟩, ?_⟩))
      rw [valV_any k2]
      exact kF s kk .bl
  | str z =>
    obtain ⟨dx, nx⟩ := x
    cases dx with
    | str a =>
      simp only [inD, inS] at e2
      cases q : isSign a with
      | none => rw [q] at e2; cases e2
      | some k =>
        rw [q] at e2
        cases e2
        have := isSign_eq q
        subst this
        rw [tre_str hx, tre_str hy]
        exact .inr (.inl (h2 (kF s kk .bl)))
    | _ => cases e2
  | _ => cases e2
theorem ruIn : RuZ c (r2 fun x y H Q => rIn c.K false x y H Q ∨ (∃ (k : Nat) (z : Str), x = .str ⟨#[k]⟩ ∧ y = .str z ∧ Q (.bl (decide (k ∈ z.cps.toList))) H) ∨ rInD false x y H Q) fIn :=
  ru_in (neg := false) (fun ts t e => by
    match ts, e with
    | [x, y], e =>
      simp only [fIn] at e
      cases q : inD x.1 y.1 with
      | none => rw [q] at e; cases e
      | some b => rw [q] at e; cases e; exact ⟨x, y, b, rfl, q, rfl⟩) (fun h => h) (fun h => ⟨_, _, rfl, rfl, h⟩) fun h => h
theorem ruNotIn : RuZ c (r2 fun x y H Q => rIn c.K true x y H Q ∨ (∃ (k : Nat) (z : Str), x = .str ⟨#[k]⟩ ∧ y = .str z ∧ Q (.bl (!decide (k ∈ z.cps.toList))) H) ∨ rInD true x y H Q) fNotIn :=
  ru_in (neg := true) (fun ts t e => by
    match ts, e with
    | [x, y], e =>
      simp only [fNotIn] at e
      cases q : inD x.1 y.1 with
      | none => rw [q] at e; cases e
      | some b => rw [q] at e; cases e; exact ⟨x, y, b, rfl, q, rfl⟩) (fun h => h) (fun h => ⟨_, _, rfl, rfl, h⟩) fun h => h

/-! ### len, abs, int -/
def lenD : D → Option Int
  | .str a => if a.length ≤ big then some (a.length : Int) else none
  | .lst xs => some (xs.length : Int)
  | .tup xs => some (xs.length : Int)
  | .rol xs => some (xs.length : Int)
  | .dct kvs => some (kvs.length : Int)
  | _ => none
def fLen : F
  | [x] => (lenD x.1).map fun n => (.int n, 0)
  | _ => none
def rLenRd : List V → Hp → VK → Prop := fun xs H Q => ∃ a kvs, xs = [V.ref a] ∧ Rd H a (.dK kvs) ∧ Q (.int kvs.length) H
theorem ruLen : RuZ c (fun xs H Q => (∃ x n, xs = [x] ∧ LenV c.K x H n ∧ Q (.int n) H) ∨ rLenRd xs H Q) fLen := by
  intro Z H fp vs ts t Q e s h k
  match ts, e with
  | [(d, n)], e =>
    obtain ⟨x, rfl, hx⟩ := tre1 h
    cases d with
    | str a =>
      simp only [fLen, lenD] at e
      split at e
      · rename_i q
        cases e
        exact .inl ⟨_, a.length, rfl, by rw [tre_str hx]; exact ⟨Nat.le_trans q big_le, rfl⟩, kF s k .int⟩
      · cases e
    | lst xs =>
      cases e
      obtain ⟨a, vs, rfl, k1, k2, k3⟩ := tre_lst s hx
      exact .inl ⟨_, xs.length, rfl, .inl ⟨vs, .inl (.inl k1), k2⟩, kF s k .int⟩
    | rol xs =>
      cases e
      obtain ⟨a, vs, rfl, k1, k2, k3⟩ := tre_rol s hx
      exact .inl ⟨_, xs.length, rfl, .inl ⟨vs, k1, k2⟩, kF s k .int⟩
    | tup xs =>
      cases e
      obtain ⟨a, vs, rfl, k1, k2, k3⟩ := tre_tup s hx
      exact .inl ⟨_, xs.length, rfl, .inr ⟨vs, k1, k2⟩, kF s k .int⟩
    | dct kvs =>
      cases e
      obtain ⟨a, vs, rfl, k1, k2, k3⟩ := tre_dct s hx
      have hl : kvs.length = vs.length := by have := congrArg List.length k2; simpa using this
      refine .inr ⟨a, vs, rfl, k1, ?_⟩
      rw [← hl]
      exact kF s k .int
    | _ => cases e
def fAbs : F
  | [(.int i, _)] => some (.int (if i < 0 then -i else i), 0)
  | _ => none
theorem ruAbs : RuZ c (fun xs H Q => ∃ i, xs = [.int i] ∧ Q (.int (if i < 0 then -i else i)) H) fAbs := by
  intro Z H fp vs ts t Q e s h k
  match ts, e with
  | [(.int i, n)], e =>
    obtain ⟨x, rfl, hx⟩ := tre1 h
    cases e
    exact ⟨i, by rw [tre_int hx], kF s k .int⟩
def fInt : F
  | [(.int i, _)] => some (.int i, 0)
  | [(.bl b, _)] => some (.int (if b then 1 else 0), 0)
  | _ => none
theorem ruInt : RuZ c (fun xs H Q => (∃ i, xs = [.int i] ∧ Q (.int i) H) ∨ ∃ k, xs = [.bl k] ∧ Q (.int (if k then 1 else 0)) H) fInt := by
  intro Z H fp vs ts t Q e s h k
  match ts, e with
  | [(.int i, n)], e =>
    obtain ⟨x, rfl, hx⟩ := tre1 h
    cases e
    exact .inl ⟨i, by rw [tre_int hx], kF s k .int⟩
  | [(.bl i, n)], e =>
    obtain ⟨x, rfl, hx⟩ := tre1 h
    cases e
    exact .inr ⟨i, by rw [tre_bl hx], kF s k .int⟩

/-! ### x[i] -/
def ixD : D → D → Option D
  | .lst xs, .int i => atI xs i
  | .tup xs, .int i => atI xs i
  | .rol xs, .int i => atI xs i
  | .str a, .int i => if a.length ≤ big then (atI a.cps.toList i).map fun k => .str ⟨#[k]⟩ else none
  | _, _ => none
def fIx : F
  | [(x, n), y] => if n ≤ 1 then (ixD x y.1).map fun d => (d, 0) else none
  | _ => none
theorem atI_rel {α β : Type} {xs : List α} {vs : List β} {i : Int} {d : α} (hl : xs.length = vs.length) (h : atI xs i = some d) : ∃ (j : Nat) (w : β), xs[j]? = some d ∧ vs[j]? = some w ∧ atI vs i = some w := by
  unfold atI at h
  cases q : ixN xs.length i with
  | none => rw [q] at h; cases h
  | some j =>
    rw [q] at h
    have h : xs[j]? = some d := h
    have hj : j < vs.length := by rw [← hl]; exact (List.getElem?_eq_some_iff.mp h).1
    refine ⟨j, vs[j], h, List.getElem?_eq_getElem hj, ?_⟩
    unfold atI
    rw [← hl, q]
    exact List.getElem?_eq_getElem hj
theorem ruIx : RuZ c (r2 (rIx c.K)) fIx := by
  intro Z H fp vs ts t Q e s h k
  match ts, e with
  | [(d, n), (y, m)], e =>
    obtain ⟨u, v, rfl, hx, hy⟩ := tre2 h
    simp only [fIx] at e
    split at e
    · rename_i hn
      cases y with
      | int i =>
        have ev := tre_int hy
        subst ev
        cases d with
        | lst xs =>
          cases q : atI xs i with
          | none => simp only [ixD, q] at e; cases e
          | some d' =>
            simp only [ixD, q] at e
            cases e
            obtain ⟨a, vs, rfl, k1, k2, k3⟩ := tre_lst s hx
            obtain ⟨j, w, e1, e2, e3⟩ := atI_rel k2 q
            have z := k3 j d' w e1 e2
            rw [one_le hn] at z
            exact .inl ⟨a, vs, i, w, rfl, rfl, .inl (.inl k1), e3, kF s k (tre_rf z)⟩
        | rol xs =>
          cases q : atI xs i with
          | none => simp only [ixD, q] at e; cases e
          | some d' =>
            simp only [ixD, q] at e
            cases e
            obtain ⟨a, vs, rfl, k1, k2, k3⟩ := tre_rol s hx
            obtain ⟨j, w, e1, e2, e3⟩ := atI_rel k2 q
            exact .inl ⟨a, vs, i, w, rfl, rfl, k1, e3, kF s k (k3 j d' w e1 e2)⟩
        | tup xs =>
          cases q : atI xs i with
          | none => simp only [ixD, q] at e; cases e
          | some d' =>
            simp only [ixD, q] at e
            cases e
            obtain ⟨a, vs, rfl, k1, k2, k3⟩ := tre_tup s hx
            obtain ⟨j, w, e1, e2, e3⟩ := atI_rel k2 q
            have z := k3 j d' w e1 e2
            rw [one_le hn] at z
            exact .inr (.inl ⟨a, vs, i, w, rfl, rfl, k1, e3, kF s k (tre_rf z)⟩)
        | str a =>
          simp only [ixD] at e
          split at e
          · rename_i ha
            cases q : atI a.cps.toList i with
            | none => rw [q] at e; cases e
            | some c' =>
              rw [q] at e
              cases e
              exact .inr (.inr ⟨a, i, c', by rw [tre_str hx], rfl, Nat.le_trans ha big_le, q, kF s k .str⟩)
          · cases e
        | _ => cases e
      | _ => cases d <;> cases e
    · cases e
/-- d[k] of a dict that has it -/
def dgetD : D → D → Option D
  | .dct kvs, y => match kyV y with
    | some k => (kvs.find? fun p => decide (p.1 = k)).map (·.2)
    | none => none
  | _, _ => none
def fDget : F
  | [(x, n), y] => if n ≤ 1 then (dgetD x y.1).map fun d => (d, 0) else none
  | _ => none
theorem find_rel {κ α : Type} [DecidableEq κ] {k : κ} {d : α} : ∀ {kvs : List (κ × α)} {vs : List (κ × V)}, kvs.map (·.1) = vs.map (·.1) → (kvs.find? fun p => decide (p.1 = k)).map (·.2) = some d → ∃ (j : Nat) (w : V), (kvs.map (·.2))[j]? = some d ∧ (vs.map (·.2))[j]? = some w ∧ valV vs k = some w
  | [], [], _, h => by cases h
  | (k1, d1) :: kvs, (k2, v) :: vs, e, h => by
    simp only [List.map_cons, List.cons.injEq] at e
    obtain ⟨e1, e2⟩ := e
    subst e1
    by_cases q : k1 = k
    · subst q
      simp [List.find?] at h
      subst h
      exact ⟨0, v, rfl, rfl, by simp [valV, List.find?]⟩
    · simp only [List.find?, decide_eq_false q] at h
      obtain ⟨j, w, h1, h2, h3⟩ := find_rel e2 h
      exact ⟨j + 1, w, by simpa using h1, by simpa using h2, by simpa [valV, List.find?, q] using h3⟩
  | [], _ :: _, e, _ => by cases e
  | _ :: _, [], e, _ => by cases e
def rDget : R2 := fun x y H Q => ∃ a v, x = .ref a ∧ DGet H a y (some v) ∧ Q v H
theorem ruDget : RuZ c (r2 rDget) fDget := by
  intro Z H fp vs ts t Q e s h k
  match ts, e with
  | [(d, n), (y, m)], e =>
    obtain ⟨u, v, rfl, hx, hy⟩ := tre2 h
    simp only [fDget] at e
    split at e
    · rename_i hn
      cases d with
      | dct kvs =>
        simp only [dgetD] at e
        cases q : kyV y with
        | none => rw [q] at e; cases e
        | some ky =>
          rw [q] at e
          cases q2 : (kvs.find? fun p => decide (p.1 = ky)).map (·.2) with
          | none => simp only [q2] at e; cases e
          | some d' =>
            simp only [q2] at e
            cases e
            obtain ⟨a, vs, rfl, k1, k2, k3⟩ := tre_dct s hx
            obtain ⟨j, w, e1, e2, e3⟩ := find_rel k2 q2
            have z := k3 j d' w e1 e2
            rw [one_le hn] at z
            exact ⟨a, w, rfl, .inl ⟨vs, ky, k1, kyV_tre hy q, e3.symm⟩, kF s k (tre_rf z)⟩
      | _ => cases e
    · cases e
/-! ### list(x), tuple(x) -/
def fList : F
  | [(d, n)] => if n ≤ 1 then (match d with
    | .lst xs => some (.lst xs, 1)
    | .tup xs => some (.lst xs, 1)
    | .rol xs => some (.lst xs, 1)
    | _ => none) else none
  | _ => none
theorem ruList : RuZ c (fun xs H Q => ∃ p ys, xs = [.ref p] ∧ (SqL c.K H p ys ∨ SqT c.K H p ys) ∧ ∀ l, H l = none → Q (.ref l) (upd H l (.lst ys))) fList := by
  intro Z H fp vs ts t Q e s h k
  match ts, e with
  | [(d, n)], e =>
    obtain ⟨x, rfl, hx⟩ := tre1 h
    simp only [fList] at e
    split at e
    · rename_i hn
      cases d with
      | lst xs =>
        cases e
        obtain ⟨a, vs, rfl, k1, k2, k3⟩ := tre_lst s hx
        rw [one_le hn] at k3
        exact ⟨a, vs, rfl, .inl (.inl (.inl k1)), kL s k k2 fun i d w h1 h2 => tre_rf (k3 i d w h1 h2)⟩
      | tup xs =>
        cases e
        obtain ⟨a, vs, rfl, k1, k2, k3⟩ := tre_tup s hx
        rw [one_le hn] at k3
        exact ⟨a, vs, rfl, .inr k1, kL s k k2 fun i d w h1 h2 => tre_rf (k3 i d w h1 h2)⟩
      | rol xs =>
        cases e
        obtain ⟨a, vs, rfl, k1, k2, k3⟩ := tre_rol s hx
        exact ⟨a, vs, rfl, .inl k1, kL s k k2 k3⟩
      | _ => cases e
    · cases e
def fTup : F
  | [(d, n)] => if n ≤ 1 then (match d with
    | .lst xs => some (.tup xs, 0)
    | .rol xs => some (.tup xs, 0)
    | .tup xs => if n = 0 then some (.tup xs, 0) else none
    | _ => none) else none
  | _ => none
theorem ruTup : RuZ c (fun xs H Q => ∃ p ys, xs = [.ref p] ∧ ((SqL c.K H p ys ∧ ∀ l, H l = none → Q (.ref l) (upd H l (.tup ys))) ∨ (SqT c.K H p ys ∧ Q (.ref p) H))) fTup := by
  intro Z H fp vs ts t Q e s h k
  match ts, e with
  | [(d, n)], e =>
    obtain ⟨x, rfl, hx⟩ := tre1 h
    simp only [fTup] at e
    split at e
    · rename_i hn
      cases d with
      | lst xs =>
        cases e
        obtain ⟨a, vs, rfl, k1, k2, k3⟩ := tre_lst s hx
        rw [one_le hn] at k3
        exact ⟨a, vs, rfl, .inl ⟨.inl (.inl k1), kT s k k2 fun i d w h1 h2 => tre_rf (k3 i d w h1 h2)⟩⟩
      | rol xs =>
        cases e
        obtain ⟨a, vs, rfl, k1, k2, k3⟩ := tre_rol s hx
        exact ⟨a, vs, rfl, .inl ⟨k1, kT s k k2 k3⟩⟩
      | tup xs =>
        simp only at e
        split at e
        · rename_i h0
          cases e
          subst h0
          have r := tre_rf hx
          obtain ⟨a, vs, rfl, k1, k2, k3⟩ := tre_tup s hx
          exact ⟨a, vs, rfl, .inr ⟨k1, kF s k r⟩⟩
        · cases e
      | _ => cases e
    · cases e
/-! ### all, any -/
def blsOf : List D → Option (List Bool)
  | [] => some []
  | .bl b :: r => (blsOf r).map (b :: ·)
  | _ => none
theorem blsOf_eq {n : Nat} : ∀ {xs : List D} {vs : List V} {bs : List Bool}, blsOf xs = some bs → xs.length = vs.length → (∀ (i : Nat) d w, xs[i]? = some d → vs[i]? = some w → Tre c Z H fp w (d, n)) → vs = bs.map V.bl
  | [], [], bs, e, _, _ => by cases e; rfl
  | .bl b :: xs, w :: vs, bs, e, hl, h => by
    cases q : blsOf xs with
    | none => simp only [blsOf, q] at e; cases e
    | some bs' =>
      simp only [blsOf, q, Option.map_some, Option.some.injEq] at e
      subst e
      rw [tre_bl (h 0 _ w rfl rfl), blsOf_eq q (Nat.succ.inj hl) fun i d w h1 h2 => h (i + 1) d w (by simpa using h1) (by simpa using h2)]
      rfl
  | [], _ :: _, _, _, hl, _ => by cases hl
  | _ :: _, [], _, _, hl, _ => by cases hl
  | .non :: _, _ :: _, _, e, _, _ => by cases e
  | .int _ :: _, _ :: _, _, e, _, _ => by cases e
  | .str _ :: _, _ :: _, _, e, _, _ => by cases e
  | .lst _ :: _, _ :: _, _, e, _, _ => by cases e
  | .tup _ :: _, _ :: _, _, e, _, _ => by cases e
  | .dct _ :: _, _ :: _, _, e, _, _ => by cases e
  | .obj _ _ :: _, _ :: _, _, e, _, _ => by cases e
  | .rol _ :: _, _ :: _, _, e, _, _ => by cases e
def fAll : F
  | [(.lst xs, _)] => (blsOf xs).map fun bs => (.bl (bs.all id), 0)
  | _ => none
def fAny : F
  | [(.lst xs, _)] => (blsOf xs).map fun bs => (.bl (bs.any id), 0)
  | _ => none
theorem ruAll : RuZ c (rAll c.K) fAll := by
  intro Z H fp vs ts t Q e s h k
  match ts, e with
  | [(.lst xs, n)], e =>
    obtain ⟨x, rfl, hx⟩ := tre1 h
    simp only [fAll] at e
    cases q : blsOf xs with
    | none => rw [q] at e; cases e
    | some bs =>
      rw [q] at e
      cases e
      obtain ⟨a, vs, rfl, k1, k2, k3⟩ := tre_lst s hx
      rw [blsOf_eq q k2 k3] at k1
      exact ⟨a, bs, rfl, .inl (.inl k1), kF s k .bl⟩
theorem ruAny : RuZ c (rAny c.K) fAny := by
  intro Z H fp vs ts t Q e s h k
  match ts, e with
  | [(.lst xs, n)], e =>
    obtain ⟨x, rfl, hx⟩ := tre1 h
    simp only [fAny] at e
    cases q : blsOf xs with
    | none => rw [q] at e; cases e
    | some bs =>
      rw [q] at e
      cases e
      obtain ⟨a, vs, rfl, k1, k2, k3⟩ := tre_lst s hx
      rw [blsOf_eq q k2 k3] at k1
      exact ⟨a, bs, rfl, .inl (.inl k1), kF s k .bl⟩
end

section
variable {X : Cx} {c : Zc}
theorem op_inD (hu : X.A.units + 1 < cLine) : OpR X (compareOp .In) (rInD false) := by
  intro pins s σ H x y v u Q I rx ry h
  obtain ⟨a, o, rfl, g, q⟩ := h
  cases ry
  exact d_in hu I g rx fun s' I' => ⟨.bl o.isSome, H, I', rfl, q⟩
theorem op_notInD (hu : X.A.units + 1 < cLine) : OpR X (compareOp .NotIn) (rInD true) := by
  intro pins s σ H x y v u Q I rx ry h
  obtain ⟨a, o, rfl, g, q⟩ := h
  cases ry
  exact d_notIn hu I g rx fun s' I' => ⟨.bl (!o.isSome), H, I', rfl, q⟩
theorem opIn (hK : c.K = X.K) (hu : X.A.units + 1 < cLine) : OpR X (compareOp .In) (fun x y H Q => rIn c.K false x y H Q ∨ (∃ (k : Nat) (z : Str), x = .str ⟨#[k]⟩ ∧ y = .str z ∧ Q (.bl (decide (k ∈ z.cps.toList))) H) ∨ rInD false x y H Q) :=
  OpR.or (hK ▸ op_in_seq) (op_in_sign.or (op_inD hu))
theorem opNotIn (hK : c.K = X.K) (hu : X.A.units + 1 < cLine) : OpR X (compareOp .NotIn) (fun x y H Q => rIn c.K true x y H Q ∨ (∃ (k : Nat) (z : Str), x = .str ⟨#[k]⟩ ∧ y = .str z ∧ Q (.bl (!decide (k ∈ z.cps.toList))) H) ∨ rInD true x y H Q) :=
  OpR.or (hK ▸ op_notIn_seq) (op_notIn_sign.or (op_notInD hu))
theorem crLen (hK : c.K = X.K) : CallR X (.builtin "len") (fun xs H Q => (∃ x n, xs = [x] ∧ LenV c.K x H n ∧ Q (.int n) H) ∨ rLenRd xs H Q) := by
  refine CallR.or (hK ▸ call_len) ?_
  intro pins s σ H xs us Q I r h
  obtain ⟨a, kvs, rfl, ha, q⟩ := h
  obtain ⟨u, rfl, ru⟩ := vals1 r
  cases ru
  exact d_len I ha fun t s' I' => ⟨.int kvs.length, H, I', ⟨t, rfl⟩, q⟩
end
end Z

namespace Z
open PySem L2
section
variable {c : Zc} {Z H : Hp} {fp : List Addr}
/-! ### slices -/
def cutD {α : Type} (xs : List α) (lo hi : Option Int) : List α := (xs.drop (HT.sIx xs.length 0 lo)).take (HT.sIx xs.length xs.length hi - HT.sIx xs.length 0 lo)
def slD (lo hi : Option Int) : T → Option T
  | (.lst xs, n) => if n ≤ 1 then some (.lst (cutD xs lo hi), 1) else none
  | (.rol xs, _) => some (.lst (cutD xs lo hi), 1)
  | (.tup xs, 0) => some (.tup (cutD xs lo hi), 0)
  | (.str a, _) => if a.length ≤ big then some (.str (cutS a lo hi), 0) else none
  | _ => none
def rSlAll (K : PySem.W.Frag) : V → Option Int → Option Int → Hp → VK → Prop := fun x lo hi H Q => rSlL K x lo hi H Q ∨ rSlA K x lo hi H Q ∨ rSlS x lo hi H Q
theorem cut_items {xs : List D} {vs : List V} {lo hi : Option Int} (hl : xs.length = vs.length) (h : ∀ (i : Nat) d w, xs[i]? = some d → vs[i]? = some w → RF c Z d w) : (cutD xs lo hi).length = (cutV vs lo hi).length ∧ ∀ (i : Nat) d w, (cutD xs lo hi)[i]? = some d → (cutV vs lo hi)[i]? = some w → RF c Z d w := by
  unfold cutD cutV
  rw [hl]
  refine ⟨by simp [hl], fun i d w h1 h2 => ?_⟩
  rw [List.getElem?_take] at h1 h2
  split at h1
  · rename_i q
    rw [if_pos q] at h2
    rw [List.getElem?_drop] at h1 h2
    exact h _ d w h1 h2
  · cases h1
theorem cut_all {α : Type} {xs : List α} {lo hi : Option Int} (h : HT.sIx xs.length 0 lo = 0 ∧ HT.sIx xs.length xs.length hi = xs.length) : cutD xs lo hi = xs := by
  unfold cutD
  rw [h.1, h.2]
  simp
theorem sl_ok {lo hi : Option Int} {t t' : T} {v : V} {Q : VK} (s : Sub Z H) (h : Tre c Z H fp v t) (e : slD lo hi t = some t') (k : ∀ Z' H' w g, Al Z H Z' H' g → RT c Z' H' t'.2 t'.1 w g → Q w H') : rSlAll c.K v lo hi H Q := by
  obtain ⟨d, n⟩ := t
  cases d with
  | lst xs =>
    simp only [slD] at e
    split at e
    · rename_i hn
      cases e
      obtain ⟨a, vs, rfl, k1, k2, k3⟩ := tre_lst s h
      rw [one_le hn] at k3
      obtain ⟨c1, c2⟩ := cut_items (lo := lo) (hi := hi) k2 fun i d w h1 h2 => tre_rf (k3 i d w h1 h2)
      exact .inl ⟨a, vs, rfl, .inl (.inl k1), kL s k c1 c2⟩
    · cases e
  | rol xs =>
    cases e
    obtain ⟨a, vs, rfl, k1, k2, k3⟩ := tre_rol s h
    obtain ⟨c1, c2⟩ := cut_items (lo := lo) (hi := hi) k2 k3
    exact .inl ⟨a, vs, rfl, k1, kL s k c1 c2⟩
  | tup xs =>
    cases n with
    | succ n => cases e
    | zero =>
      cases e
      have r := tre_rf h
      obtain ⟨a, vs, rfl, k1, k2, k3⟩ := tre_tup s h
      obtain ⟨c1, c2⟩ := cut_items (lo := lo) (hi := hi) k2 fun i d w h1 h2 => tre_rf (k3 i d w h1 h2)
      refine .inr (.inl ⟨a, vs, rfl, k1, fun q => ?_, fun _ => kT s k c1 c2⟩)
      rw [← k2] at q
      have ec := cut_all q
      simp only [ec] at k
      exact kF s k r
  | str a =>
    simp only [slD] at e
    split at e
    · rename_i q
      cases e
      exact .inr (.inr ⟨a, tre_str h, Nat.le_trans q big_le, kF s k .str⟩)
    · cases e
  | _ => cases e

/-! ### texts -/
def repS (n : Nat) (s : Str) : Str := ⟨(List.replicate n s.cps.toList).flatten.toArray⟩
def fMulS : F
  | [(.str a, _), (.int n, _)] => if n < 1000000 ∧ -1000000 < n ∧ a.length ≤ 10 then some (.str (repS n.toNat a), 0) else none
  | _ => none
def rMulS : R2 := fun x y H Q => ∃ a n, x = .str a ∧ y = .int n ∧ n < 1000000 ∧ -1000000 < n ∧ a.length ≤ 10 ∧ Q (.str (repS n.toNat a)) H
theorem ruMulS : RuZ c (r2 rMulS) fMulS := by
  intro Z H fp vs ts t Q e s h k
  match ts, e with
  | [(.str a, _), (.int n, _)], e =>
    obtain ⟨x, y, rfl, hx, hy⟩ := tre2 h
    simp only [fMulS] at e
    split at e
    · rename_i q
      cases e
      exact ⟨a, n, tre_str hx, tre_int hy, q.1, q.2.1, q.2.2, kF s k .str⟩
    · cases e
def fRepL : F
  | [(.lst xs, n), (.int k, _)] => if n ≤ 1 ∧ -(2 ^ 63) ≤ k ∧ k < 2 ^ 63 ∧ xs.length * k.toNat ≤ big then some (.lst (List.replicate k.toNat xs).flatten, 1) else none
  | _ => none
theorem rep_items {xs : List D} {vs : List V} (hl : xs.length = vs.length) (h : ∀ (i : Nat) d w, xs[i]? = some d → vs[i]? = some w → RF c Z d w) : ∀ n : Nat, (List.replicate n xs).flatten.length = (List.replicate n vs).flatten.length ∧ ∀ (i : Nat) d w, (List.replicate n xs).flatten[i]? = some d → (List.replicate n vs).flatten[i]? = some w → RF c Z d w
  | 0 => ⟨rfl, fun i d w h => by simp at h⟩
  | n + 1 => by
    obtain ⟨h1, h2⟩ := rep_items hl h n
    refine ⟨by simp [hl], ?_⟩
    rw [List.replicate_succ, List.replicate_succ, List.flatten_cons, List.flatten_cons]
    exact items_app hl h h2
theorem ruRepL : RuZ c (r2 rRep) fRepL := by
  intro Z H fp vs ts t Q e s h k
  match ts, e with
  | [(.lst xs, n), (.int j, _)], e =>
    obtain ⟨x, y, rfl, hx, hy⟩ := tre2 h
    simp only [fRepL] at e
    split at e
    · rename_i q
      cases e
      obtain ⟨a, vs, rfl, k1, k2, k3⟩ := tre_lst s hx
      rw [one_le q.1] at k3
      obtain ⟨c1, c2⟩ := rep_items k2 (fun i d w h1 h2 => tre_rf (k3 i d w h1 h2)) j.toNat
      refine ⟨a, j, vs, rfl, tre_int hy, k1, q.2.1, q.2.2.1, Nat.le_trans (by rw [← k2]; exact q.2.2.2) big_le, kL s k c1 c2⟩
    · cases e
def fMul : F := fOr fMulI (fOr fMulS fRepL)
theorem ruMul : RuZ c (r2 fun x y H Q => rI CMul (fun i j => .int (i * j)) x y H Q ∨ rMulS x y H Q ∨ rRep x y H Q) fMul := ruOr2 ruMulI (ruOr2 ruMulS ruRepL)
def strsOf : List D → Option (List Str)
  | [] => some []
  | .str b :: r => (strsOf r).map (b :: ·)
  | _ => none
theorem strsOf_eq {n : Nat} : ∀ {xs : List D} {vs : List V} {bs : List Str}, strsOf xs = some bs → xs.length = vs.length → (∀ (i : Nat) d w, xs[i]? = some d → vs[i]? = some w → Tre c Z H fp w (d, n)) → vs = bs.map V.str
  | [], [], bs, e, _, _ => by cases e; rfl
  | .str b :: xs, w :: vs, bs, e, hl, h => by
    cases q : strsOf xs with
    | none => simp only [strsOf, q] at e; cases e
    | some bs' =>
      simp only [strsOf, q, Option.map_some, Option.some.injEq] at e
      subst e
      rw [tre_str (h 0 _ w rfl rfl), strsOf_eq q (Nat.succ.inj hl) fun i d w h1 h2 => h (i + 1) d w (by simpa using h1) (by simpa using h2)]
      rfl
  | [], _ :: _, _, _, hl, _ => by cases hl
  | _ :: _, [], _, _, hl, _ => by cases hl
  | .non :: _, _ :: _, _, e, _, _ => by cases e
  | .int _ :: _, _ :: _, _, e, _, _ => by cases e
  | .bl _ :: _, _ :: _, _, e, _, _ => by cases e
  | .lst _ :: _, _ :: _, _, e, _, _ => by cases e
  | .tup _ :: _, _ :: _, _, e, _, _ => by cases e
  | .dct _ :: _, _ :: _, _, e, _, _ => by cases e
  | .obj _ _ :: _, _ :: _, _, e, _, _ => by cases e
  | .rol _ :: _, _ :: _, _, e, _, _ => by cases e
/-- a.join(xs) -/
def joinF (a : Str) (xs : List D) : Option T := match strsOf xs with
  | some ys => if (ys.map (·.length)).sum + ys.length * a.length ≤ big then some (.str (Txt.join a ys), 0) else none
  | none => none
def fJoin : F
  | [(.str a, _), (.lst xs, _)] => joinF a xs
  | [(.str a, _), (.tup xs, _)] => joinF a xs
  | _ => none
def rMt1 (r : V → List V → Hp → VK → Prop) : List V → Hp → VK → Prop := fun vs H Q => match vs with
  | x :: xs => r x xs H Q
  | [] => False
theorem ruJoin : RuZ c (rMt1 fun x xs H Q => ∃ a p, ∃ ys : List Str, x = .str a ∧ xs = [.ref p] ∧ (SqL c.K H p (ys.map V.str) ∨ SqT c.K H p (ys.map V.str)) ∧ (ys.map (·.length)).sum + ys.length * a.length ≤ 16777216 ∧ Q (.str (Txt.join a ys)) H) fJoin := by
  intro Z H fp vs ts t Q e s h k
  have big16 : big ≤ 16777216 := by decide
  match ts, e with
  | [(.str a, _), (.lst xs, _)], e =>
    obtain ⟨x, y, rfl, hx, hy⟩ := tre2 h
    simp only [fJoin, joinF] at e
    split at e
    · rename_i ys q
      split at e
      · rename_i q2
        cases e
        obtain ⟨p, vs, rfl, k1, k2, k3⟩ := tre_lst s hy
        rw [strsOf_eq q k2 k3] at k1
        exact ⟨a, p, ys, tre_str hx, rfl, .inl (.inl (.inl k1)), Nat.le_trans q2 big16, kF s k .str⟩
      · cases e
    · cases e
  | [(.str a, _), (.tup xs, _)], e =>
    obtain ⟨x, y, rfl, hx, hy⟩ := tre2 h
    simp only [fJoin, joinF] at e
    split at e
    · rename_i ys q
      split at e
      · rename_i q2
        cases e
        obtain ⟨p, vs, rfl, k1, k2, k3⟩ := tre_tup s hy
        rw [strsOf_eq q k2 k3] at k1
        exact ⟨a, p, ys, tre_str hx, rfl, .inr k1, Nat.le_trans q2 big16, kF s k .str⟩
      · cases e
    · cases e
/-- a.split(b) -/
def fSplit : F
  | [(.str a, _), (.str b, _)] => if (b.length == 0) = false ∧ a.length + 2 ≤ big then some (.lst ((Txt.split a b).map D.str), 1) else none
  | _ => none
theorem strs_items {ys : List Str} : (ys.map D.str).length = (ys.map V.str).length ∧ ∀ (i : Nat) d w, (ys.map D.str)[i]? = some d → (ys.map V.str)[i]? = some w → RF c Z d w := by
  refine ⟨by simp, fun i d w h1 h2 => ?_⟩
  rw [List.getElem?_map] at h1 h2
  cases q : ys[i]? with
  | none => rw [q] at h1; cases h1
  | some y =>
    rw [q] at h1 h2
    cases h1
    cases h2
    exact .str
theorem ruSplit : RuZ c (rMt1 fun x xs H Q => ∃ a b, x = .str a ∧ xs = [.str b] ∧ (b.length == 0) = false ∧ a.length + 2 ≤ sizeLine ∧ rNewStrs (Txt.split a b) H Q) fSplit := by
  intro Z H fp vs ts t Q e s h k
  match ts, e with
  | [(.str a, _), (.str b, _)], e =>
    obtain ⟨x, y, rfl, hx, hy⟩ := tre2 h
    simp only [fSplit] at e
    split at e
    · rename_i q
      cases e
      exact ⟨a, b, tre_str hx, by rw [tre_str hy], q.1, Nat.le_trans q.2 big_le, kL s k (strs_items (c := c) (Z := Z) (ys := Txt.split a b)).1 (strs_items (c := c) (Z := Z) (ys := Txt.split a b)).2⟩
    · cases e
/-! ### isinstance of a built-in class -/
def tyN : D → Option String
  | .non => some "NoneType"
  | .bl _ => some "bool"
  | .int _ => some "int"
  | .str _ => some "str"
  | .lst _ => some "list"
  | .tup _ => some "tuple"
  | _ => none
def fIsi (Tn : String) : F
  | [(d, n)] => match tyN d with
    | some t => (kitB t Tn).map fun b => (.bl b, 0)
    | none => none
  | _ => none
theorem tre_ty {v : V} {d : D} {n : Nat} {t : String} (s : Sub Z H) (h : Tre c Z H fp v (d, n)) (e : tyN d = some t) : TyX c.K H v (.type t) := by
  cases d with
  | non => cases e; rw [tre_non h]; exact .base .non
  | bl b => cases e; rw [tre_bl h]; exact .base (.bl b)
  | int b => cases e; rw [tre_int h]; exact .base (.int b)
  | str b => cases e; rw [tre_str h]; exact .base (.str b)
  | lst xs =>
    cases e
    obtain ⟨a, vs, rfl, k1, _⟩ := tre_lst s h
    exact .base (.lst k1)
  | tup xs =>
    cases e
    obtain ⟨a, vs, rfl, k1, _⟩ := tre_tup s h
    rcases k1 with k1 | ⟨o, its, m, k1, k2, _⟩
    · rcases k1 with k1 | ⟨o, k1⟩
      · exact .base (.tup k1)
      · exact .fTuple k1
    · exact .kTuple k1 k2
  | _ => cases e
theorem ruIsi {Tn : String} : RuZ c (r1 fun x H Q => rIsi c.K [x, .ty Tn] H Q) (fIsi Tn) := by
  intro Z H fp vs ts t Q e s h k
  match ts, e with
  | [(d, n)], e =>
    obtain ⟨x, rfl, hx⟩ := tre1 h
    simp only [fIsi] at e
    cases q : tyN d with
    | none => rw [q] at e; cases e
    | some ty =>
      rw [q] at e
      cases q2 : kitB ty Tn with
      | none => simp only [q2] at e; cases e
      | some b =>
        simp only [q2] at e
        cases e
        exact ⟨x, .ty Tn, .type ty, .type Tn, b, rfl, .ty Tn, tre_ty s hx q, kit_ty q2, kF s k .bl⟩
end
section
variable {X : Cx} {c : Zc} {L : Nat} {W : WX} {pos : Pos}
theorem slAll (hK : c.K = X.K) : SlR X (rSlAll c.K) := by
  rw [hK]
  exact SlR.or sl_list (SlR.or sl_tupA sl_str)
theorem foldl_arr {α : Type} : ∀ (n : Nat) (a : Array α) (acc : Array α), (List.replicate n a).foldl (· ++ ·) acc = acc ++ (List.replicate n a.toList).flatten.toArray
  | 0, a, acc => by simp
  | n + 1, a, acc => by
    rw [List.replicate_succ, List.foldl_cons, foldl_arr n a (acc ++ a), List.replicate_succ, List.flatten_cons]
    apply Array.toList_inj.mp
    simp
theorem op_mulStr : OpR X (binaryOp .Mult) rMulS := by
  intro pins s σ H x y v u Q I rx ry h
  obtain ⟨a, n, rfl, rfl, h1, h2, h3, q⟩ := h
  obtain ⟨t, rfl⟩ := rx
  obtain ⟨t', rfl⟩ := ry
  have ha : a.length = a.cps.size := rfl
  have hsz : sizeLine = 16777216 := sizeLine_eq
  refine PySem.P.mul_str ?_ (fun k1 k2 => ?_) (fun k1 k2 => ?_) ?_
  · rw [decide_eq_false (by omega), decide_eq_false (by omega)]
    rfl
  · intro k3
    have h4 : (2 ^ 63 - 1) / n ≥ (2 ^ 63 - 1) / 1000000 := Int.le_ediv_of_mul_le (by omega) (by
      have : (2 ^ 63 - 1) / 1000000 * n ≤ (2 ^ 63 - 1) / 1000000 * 1000000 := Int.mul_le_mul_of_nonneg_left (by omega) (by decide)
      exact Int.le_trans this (by decide))
    have h5 : ((2 : Int) ^ 63 - 1) / 1000000 = 9223372036854 := by decide
    omega
  · have : a.length * n.toNat ≤ 10 * 1000000 := Nat.mul_le_mul h3 (by omega)
    unfold PySem.Builtin.Str.tooLong
    exact decide_eq_false (by omega)
  · by_cases k1 : n < 1
    · rw [if_pos k1]
      have e : repS n.toNat a = Str.empty := by
        rw [show n.toNat = 0 by omega]
        rfl
      rw [e] at q
      exact ⟨by decide, ⟨.str Str.empty, H, I.tok _, ⟨_, rfl⟩, q⟩⟩
    · rw [if_neg k1]
      by_cases k2 : (n == 1 || a.length == 0) = true
      · rw [if_pos k2]
        have e : repS n.toNat a = a := by
          rcases Bool.or_eq_true_iff.mp k2 with k | k
          · have : n = 1 := by simpa using k
            subst this
            obtain ⟨cps⟩ := a
            simp [repS]
          · have k : a.cps.size = 0 := by simpa [ha] using k
            obtain ⟨cps⟩ := a
            have : cps = #[] := by simpa using k
            subst this
            simp [repS]
        rw [e] at q
        exact ⟨.str a, H, I, ⟨_, rfl⟩, q⟩
      · rw [if_neg k2]
        have e : (⟨(List.replicate n.toNat a.cps).foldl (· ++ ·) #[]⟩ : Str) = repS n.toNat a := by
          unfold repS
          rw [foldl_arr]
          simp
        rw [e]
        refine ⟨?_, ⟨.str (repS n.toNat a), H, I.tok _, ⟨_, rfl⟩, q⟩⟩
        have : (repS n.toNat a).length = n.toNat * a.cps.size := by
          show (List.replicate n.toNat a.cps.toList).flatten.toArray.size = _
          simp
        rw [this]
        have : n.toNat * a.cps.size ≤ 1000000 * 10 := Nat.mul_le_mul (by omega) (by omega)
        omega
theorem opMul : OpR X (binaryOp .Mult) (fun x y H Q => rI CMul (fun i j => .int (i * j)) x y H Q ∨ rMulS x y H Q ∨ rRep x y H Q) := op_mul.or (op_mulStr.or op_rep)
theorem ze_isi {x : Str} {e : Expr} {p tp : Pos} {Tn : String} {tx : Str} {o : Opd} (hK : c.K = X.K) (hg : Gl X "isinstance") (hm : X.mg "isinstance" = none) (ho : ZO X c L W e o) (ht : PE X (.Name tx tp) (tC (.ty Tn))) (hL : okL L [o] = true := by rfl)
    (h1 : starEach [e, .Name tx tp] X.env = (false, eval e X.env) :: starEach [.Name tx tp] X.env := by rfl) (h2 : starEach [.Name tx tp] X.env = (false, eval (.Name tx tp) X.env) :: starEach [] X.env := by rfl) (h3 : (backTo pos (starEach [.Name tx tp] X.env)).any (·.1) = false := by rfl) :
    ZE X c L W (.Call (.Name "isinstance" p) [e, .Name tx tp] [] pos) (mOp (fIsi Tn) [o]) := by
  have hb : bootBuiltins "isinstance" = some (.builtin "isinstance") := by decide +kernel
  refine PE.imp (pe_callB (hK ▸ call_isi) hg hm hb (pa_cons ho (pa_cons ht pa_nil h2) h1) (he := h1) (hpl := h3)) fun σ H Q h => ?_
  exact run_op (r := r1 fun x H Q => rIsi c.K [x, .ty Tn] H Q) ruIsi (okL_mem hL) h
end
end Z

namespace Z
open PySem L2
section
variable {c : Zc} {L : Nat} {W : WX} {vc : Nat → Option V} {Z H Z' H' Z1 H1 : Hp} {σ : St} {vx : List (Option V)} {st tx : S} {fp fp1 : List Addr}
/-! ### a slot's own object is changed -/
/-- a tree of one node: its object -/
def One (c : Zc) (Z H : Hp) (d : D) (a : Addr) (o : HO) : Prop := match d with
  | .lst xs => ∃ vs : List V, o = .lst vs ∧ xs.length = vs.length ∧ ∀ (i : Nat) d w, xs[i]? = some d → vs[i]? = some w → RF c Z d w
  | .dct kvs => ∃ vs : List (Key × V), o = .dK vs ∧ kvs.map (·.1) = vs.map (·.1) ∧ ∀ (i : Nat) d w, (kvs.map (·.2))[i]? = some d → (vs.map (·.2))[i]? = some w → RF c Z d w
  | .obj C fs => ∃ (A dx : Addr) (vs : List (Str × V)), o = .ins A dx vs ∧ c.cl C = some A ∧ fs.map (·.1) = vs.map (·.1) ∧ ∀ (i : Nat) d w, (fs.map (·.2))[i]? = some d → (vs.map (·.2))[i]? = some w → RF c Z d w
  | _ => False
def mutb : D → Bool
  | .lst _ => true
  | .dct _ => true
  | .obj _ _ => true
  | _ => false
theorem lr0_inv : ∀ {xs : List D} {vs : List V} {f : List Addr}, LR (RT c Z H 0) xs vs f → f = [] ∧ xs.length = vs.length ∧ ∀ (i : Nat) d w, xs[i]? = some d → vs[i]? = some w → RF c Z d w
  | [], [], f, h => ⟨h, rfl, fun i d w h => by simp at h⟩
  | x :: xs, v :: vs, f, ⟨f1, f2, e, h1, h2⟩ => by
    obtain ⟨e2, l, k⟩ := lr0_inv h2
    refine ⟨by rw [e, h1.2, e2]; rfl, by simp [l], fun i d w hd hw => ?_⟩
    cases i with
    | zero => cases hd; cases hw; exact h1.1
    | succ i => exact k i d w (by simpa using hd) (by simpa using hw)
  | [], _ :: _, _, h => h.elim
  | _ :: _, [], _, h => h.elim
theorem one_of {d : D} {v : V} {f : List Addr} (r : RT c Z H 1 d v f) (hd : mutb d = true) : ∃ a o, v = .ref a ∧ f = [a] ∧ H a = some o ∧ One c Z H d a o := by
  cases d with
  | lst xs =>
    obtain ⟨a, vs, g, e, h1, h2, h3⟩ := r
    obtain ⟨e2, l, k⟩ := lr0_inv h2
    exact ⟨a, _, e, by rw [h3, e2], h1, vs, rfl, l, k⟩
  | dct xs =>
    obtain ⟨a, vs, g, e, h1, h0, h2, h3⟩ := r
    obtain ⟨e2, l, k⟩ := lr0_inv h2
    exact ⟨a, _, e, by rw [h3, e2], h1, vs, rfl, h0, k⟩
  | obj C xs =>
    obtain ⟨A, a, dx, vs, g, e, hc, h1, h0, h2, h3⟩ := r
    obtain ⟨e2, l, k⟩ := lr0_inv h2
    exact ⟨a, _, e, by rw [h3, e2], h1, A, dx, vs, rfl, hc, h0, k⟩
  | _ => cases hd
theorem one_rt {d : D} {a : Addr} {o : HO} (h : One c Z H d a o) : RT c Z (upd H a o) 1 d (.ref a) [a] := by
  cases d with
  | lst xs =>
    obtain ⟨vs, rfl, l, k⟩ := h
    exact ⟨a, vs, [], rfl, upd_same, lr0 l k, rfl⟩
  | dct xs =>
    obtain ⟨vs, rfl, l, k⟩ := h
    exact ⟨a, vs, [], rfl, upd_same, l, lr0 (by have := congrArg List.length l; simpa using this) k, rfl⟩
  | obj C xs =>
    obtain ⟨A, dx, vs, rfl, hc, l, k⟩ := h
    exact ⟨A, a, dx, vs, [], rfl, hc, upd_same, l, lr0 (by have := congrArg List.length l; simpa using this) k, rfl⟩
  | _ => exact h.elim
theorem wl_mut {i : Nat} {d : D} (w : Wl c L vc Z H σ vx st tx fp) (hi : i < L) (e : tre st i = some (d, 1)) (hd : mutb d = true) : ∃ a o, σ[i]? = some (some (.ref a)) ∧ H a = some o ∧ One c Z H d a o ∧ Z a = none ∧ (∃ f, (∀ x ∈ f, x ∈ fp) ∧ RT c Z H 1 d (.ref a) f) ∧ ∀ d' o', One c Z H d' a o' → ∃ fp', Stp fp Z H fp' Z (upd H a o') ∧ Wl c L vc Z (upd H a o') σ vx (st.set (loc st i) (.ow d' 1)) tx fp' := by
  obtain ⟨v, _, e1, e2, _, _⟩ := w.look hi e
  have hx : st[loc st i]? = some (.ow d 1) := by
    unfold tre at' at e
    cases q2 : st[loc st i]? with
    | none => rw [q2] at e; cases e
    | some y =>
      rw [q2] at e
      cases y with
      | ow d' n' => cases e; rfl
      | un => cases e
      | pa j => cases e
  obtain ⟨ov, g1, f, g2, k1, k2, k3, k4⟩ := w.upd (y := .un) hx
  rw [e2] at k1
  cases k1
  obtain ⟨v', e', r⟩ := k3
  cases e'
  obtain ⟨a, o, rfl, rfl, ha, ho⟩ := one_of r hd
  have haf : a ∈ fp := by rw [k2]; exact List.mem_append_left _ (List.mem_append_right _ List.mem_cons_self)
  have hz : Z a = none := w.dj a haf
  refine ⟨a, o, e1, ha, ho, hz, ⟨[a], fun x hx => by rw [List.mem_singleton.mp hx]; exact haf, r⟩, fun d' o' h' => ?_⟩
  have sb : Sub Z (upd H a o') := fun b u q => by
    have ne : b ≠ a := fun z => by subst z; rw [hz] at q; cases q
    rw [upd_ne ne]
    exact w.sub b u q
  have n1' : [a].Nodup := by simp
  have w2 := k4 Z (upd H a o') (.ow d' 1) [a] (Sm.refl Z) sb (fun x hx hn => by rw [upd_ne fun z => hn (by rw [z]; exact List.mem_cons_self)]) ⟨_, rfl, one_rt h'⟩ (fun x hx => .inl hx) (fun x hx => .inl hx) n1' fun x hx => by rw [List.mem_singleton.mp hx]; exact hz
  refine ⟨_, ⟨Sm.refl Z, fun b u q hb _ => ?_, fun b q => ?_, fun b hb => .inl (by rw [k2]; exact hb), fun b q => .inl q⟩, w2⟩
  · have ne : b ≠ a := fun z => hb (by rw [z]; exact haf)
    rw [upd_ne ne]; exact q
  · by_cases z : b = a
    · subst z; rw [upd_same]; exact fun z => nomatch z
    · rw [upd_ne z]; exact q

/-! ### x[k] = e -/
def putL {κ α : Type} [DecidableEq κ] (kvs : List (κ × α)) (k : κ) (v : α) : List (κ × α) := if (kvs.any fun p => decide (p.1 = k)) = true then kvs.map (fun p => if p.1 = k then (p.1, v) else p) else kvs ++ [(k, v)]
def setD : D → D → D → Option D
  | .lst xs, .int i, v => (ixN xs.length i).map fun j => .lst (xs.set j v)
  | .dct kvs, y, v => match kyV y with
    | some k => if kvs.length < big then some (.dct (putL kvs k v)) else none
    | none => none
  | _, _, _ => none
/-- slot i's object at the operand's key takes a frozen value -/
def mSet (i : Nat) (o : Opd) (m : M T) : M Fl := fun s => match m s with
  | .ok t s1 => match tre s1 i with
    | none => .no
    | some _ => match evs [o] s1 with
      | .ok hs s2 => match gets [o] hs s2, tre s2 i with
        | some [k], some (d, 1) => match setD d k.1 t.1 with
          | some d' => .ok .nx (s2.set (loc s2 i) (.ow d' 1))
          | none => .no
        | _, _ => .no
      | .ex x s2 => .ex x s2
      | .no => .no
  | .ex x s1 => .ex x s1
  | .no => .no
def rSetD : TSet := fun o i v H Q => ∃ a H', o = .ref a ∧ DPut H a i v H' ∧ Q H'
def rSet : TSet := fun o i v H Q => rSetL o i v H Q ∨ rSetD o i v H Q
theorem set_items {α β : Type} {R : α → β → Prop} {xs : List α} {vs : List β} {j : Nat} {d : α} {w : β} (h : ∀ (i : Nat) d w, xs[i]? = some d → vs[i]? = some w → R d w) (r : R d w) : ∀ (i : Nat) d' w', (xs.set j d)[i]? = some d' → (vs.set j w)[i]? = some w' → R d' w' := fun i d' w' h1 h2 => by
  by_cases q : j = i
  · subst q
    rw [List.getElem?_set] at h1 h2
    simp only [if_true] at h1 h2
    split at h1
    · split at h2
      · cases h1; cases h2; exact r
      · cases h2
    · cases h1
  · rw [List.getElem?_set_ne q] at h1 h2
    exact h i d' w' h1 h2
theorem any_keys {κ α β : Type} [DecidableEq κ] {k : κ} : ∀ {kvs : List (κ × α)} {vs : List (κ × β)}, kvs.map (·.1) = vs.map (·.1) → (kvs.any fun p => decide (p.1 = k)) = (vs.any fun p => decide (p.1 = k))
  | [], [], _ => rfl
  | (k1, d) :: kvs, (k2, v) :: vs, h => by
    simp only [List.map_cons, List.cons.injEq] at h
    obtain ⟨h1, h2⟩ := h
    subst h1
    simp only [List.any_cons, any_keys h2]
  | [], _ :: _, h => by cases h
  | _ :: _, [], h => by cases h
theorem put_rel {κ α : Type} [DecidableEq κ] {R : α → V → Prop} {k : κ} {d : α} {w : V} {kvs : List (κ × α)} {vs : List (κ × V)} (hk : kvs.map (·.1) = vs.map (·.1)) (h : ∀ (i : Nat) d w, (kvs.map (·.2))[i]? = some d → (vs.map (·.2))[i]? = some w → R d w) (r : R d w) :
    (putL kvs k d).map (·.1) = (putK vs k w).map (·.1) ∧ ∀ (i : Nat) d' w', ((putL kvs k d).map (·.2))[i]? = some d' → ((putK vs k w).map (·.2))[i]? = some w' → R d' w' := by
  unfold putL putK
  rw [any_keys hk]
  by_cases q : (vs.any fun p => decide (p.1 = k)) = true
  · rw [if_pos q, if_pos q]
    clear q
    induction kvs generalizing vs with
    | nil =>
      cases vs with
      | nil => exact ⟨rfl, fun i d w h => by simp at h⟩
      | cons => cases hk
    | cons p kvs ih =>
      cases vs with
      | nil => cases hk
      | cons p2 vs =>
        obtain ⟨k1, d1⟩ := p
        obtain ⟨k2, v2⟩ := p2
        simp only [List.map_cons, List.cons.injEq] at hk
        obtain ⟨e1, e2⟩ := hk
        subst e1
        obtain ⟨i1, i2⟩ := ih e2 fun i d w h1 h2 => h (i + 1) d w (by simpa using h1) (by simpa using h2)
        refine ⟨?_, fun i d' w' h1 h2 => ?_⟩
        · simp only [List.map_cons, List.cons.injEq]
          refine ⟨?_, by simpa using i1⟩
          split <;> rfl
        · cases i with
          | zero =>
            simp only [List.map_cons, List.getElem?_cons_zero, Option.some.injEq] at h1 h2
            by_cases z : k1 = k
            · simp only [if_pos z] at h1 h2
              subst h1; subst h2; exact r
            · simp only [if_neg z] at h1 h2
              subst h1; subst h2
              exact h 0 _ _ rfl rfl
          | succ i => exact i2 i d' w' (by simpa using h1) (by simpa using h2)
  · rw [if_neg q, if_neg q]
    have hl : kvs.length = vs.length := by have := congrArg List.length hk; simpa using this
    refine ⟨by simp [hk], fun i d' w' h1 h2 => ?_⟩
    rw [List.map_append] at h1 h2
    by_cases z : i < kvs.length
    · rw [List.getElem?_append_left (by simpa using z)] at h1
      rw [List.getElem?_append_left (by simp; omega)] at h2
      exact h i d' w' h1 h2
    · rw [List.getElem?_append_right (by simp; omega)] at h1
      rw [List.getElem?_append_right (by simp; omega)] at h2
      simp only [List.length_map, List.map_cons, List.map_nil] at h1 h2
      rw [hl] at h1
      cases e : i - vs.length with
      | zero =>
        rw [e] at h1 h2
        cases h1; cases h2; exact r
      | succ j => rw [e] at h1; cases h1
theorem mSet_rd {i : Nat} {o : Opd} {m : M T} {D1 : Ends} (hi : i < L) (hL : okL L [o] = true) (h : rdS c L W (mSet i o m) D1 σ H) : tAsg (rd c L W m) (gSub (tVar i) (tO c L W o) rSet) D1 σ H := by
  obtain ⟨Z, vc, vx, st, tx, fp, w, h⟩ := h
  refine ⟨Z, vc, vx, st, tx, fp, w, ?_⟩
  cases q : m st with
  | no => simp only [mSet, q] at h; exact h
  | ex x s => simp only [mSet, q] at h; exact fun Z2 H2 => h Z2 H2 σ
  | ok t s1 =>
    simp only [mSet, q] at h
    intro Z1 H1 v fp1 st1 w1
    -- the value is frozen
    obtain ⟨Z2, g2, w2, st2, rf⟩ := Wl.frz (ts := [t]) (vs := [v]) w1 w.hvc rfl
    have rv := rf 0 t.1 v rfl rfl
    have h12 := st1.trans st2
    -- where the object stands: known behind the key
    have key : ∀ {Q : V → Hp → Prop}, (match evs [o] s1 with
        | .ok hs s2 => ∃ k d, gets [o] hs s2 = some [k] ∧ tre s2 i = some (d, 1) ∧ ∀ Z3 H3 y g3, Stp g2 Z2 H1 g3 Z3 H3 → Wl c L vc Z3 H3 σ vx s2 tx g3 → (∀ ky, kyV k.1 = some ky → y = kV ky) → (∀ j, k.1 = .int j → y = .int j) → Q y H3
        | .ex x s2 => ∀ Z' H' fp' cls dd, Stp g2 Z2 H1 fp' Z' H' → Wl c L vc Z' H' σ vx s2 tx fp' → IsX c Z' H' x cls dd → W cls dd σ H'
        | .no => False) → tO c L W o σ H1 Q := by
      intro Q hq
      have z : tOs c L W [o] σ H1 (fun vs H3 => ∃ y, vs = [y] ∧ Q y H3) := by
        refine tOs_run w2 (okL_mem hL) ?_
        cases q3 : evs [o] s1 with
        | no => rw [q3] at hq; exact hq
        | ex x s => rw [q3] at hq; exact hq
        | ok hs s2 =>
          rw [q3] at hq
          obtain ⟨k, d, e1, e2, hq⟩ := hq
          intro Z3 H3 vs vy ty fp3 st3 w3 r3
          have hl : (s2 ++ tx).length = (σ ++ vx).length := by
            have e := w3.lr.len
            have e2 := r3.len
            simp only [List.length_append] at e ⊢
            omega
          obtain ⟨y, rfl, ty1⟩ := tre1 (r3.trees w3 hl (okL_mem hL) e1)
          obtain ⟨g, hg, w4⟩ := Wl.pops r3.len w3 w.hvc
          exact ⟨y, rfl, hq Z3 H3 y g (st3.trans (Stp.less hg)) w4 (fun ky e => kyV_tre ty1 e) fun j e => by
            obtain ⟨kd, kn⟩ := k
            cases e
            exact tre_int ty1⟩
      cases o with
      | nm j =>
        obtain ⟨hj, u, e, y, ey, q⟩ := z
        cases ey
        exact ⟨hj, u, e, q⟩
      | tm mo =>
        obtain ⟨Z5, vc5, vx5, st5, tx5, fp5, w5, h5⟩ := z
        refine ⟨Z5, vc5, vx5, st5, tx5, fp5, w5, ?_⟩
        cases q5 : mo st5 with
        | no => rw [q5] at h5; exact h5
        | ex x s => rw [q5] at h5; exact h5
        | ok t5 s5 =>
          rw [q5] at h5
          intro Z6 H6 v6 fp6 st6 w6
          obtain ⟨y, ey, q⟩ := h5 Z6 H6 v6 fp6 st6 w6
          cases ey
          exact q
    cases q0 : tre s1 i with
    | none => simp only [q0] at h; exact h.elim
    | some t0 =>
      simp only [q0] at h
      obtain ⟨v0, _, e0, _, _, _⟩ := w2.look hi q0
      refine ⟨v0, e0, key ?_⟩
      cases q3 : evs [o] s1 with
      | no => simp only [q3] at h; exact h
      | ex x s2 =>
        simp only [q3] at h
        exact fun Z3 H3 fp3 cls dd st3 w3 x3 => h Z3 H3 σ fp3 cls dd (h12.trans st3) w3 x3
      | ok hs s2 =>
        simp only [q3] at h
        cases q4 : gets [o] hs s2 with
        | none => simp only [q4] at h; exact h.elim
        | some ks =>
          match ks, q4 with
          | [], q4 => simp only [q4] at h; exact h.elim
          | _ :: _ :: _, q4 => simp only [q4] at h; exact h.elim
          | [k], q4 =>
            cases q5 : tre s2 i with
            | none => simp only [q4, q5] at h; exact h.elim
            | some t5 =>
              obtain ⟨d, n⟩ := t5
              simp only [q4, q5] at h
              match n, q5, h with
              | 0, q5, h => exact h.elim
              | n + 2, q5, h => exact h.elim
              | 1, q5, h =>
                cases q6 : setD d k.1 t.1 with
                | none => simp only [q6] at h; exact h.elim
                | some d' =>
                  simp only [q6] at h
                  refine ⟨k, d, q4, q5, fun Z3 H3 y g3 st3 w3 hy1 hy2 => ?_⟩
                  have md : mutb d = true := by
                    cases d <;> first | rfl | cases q6
                  obtain ⟨a, ob, ea, ha, ho, hz, _, k6⟩ := wl_mut w3 hi q5 md
                  rw [e0] at ea
                  cases ea
                  have rv3 := rv.mono st3.zz
                  cases d with
                  | lst xs =>
                    obtain ⟨vs, rfl, l, kx⟩ := ho
                    obtain ⟨kd, kn⟩ := k
                    cases kd with
                    | int j =>
                      simp only [setD] at q6
                      cases q7 : ixN xs.length j with
                      | none => rw [q7] at q6; cases q6
                      | some jj =>
                        rw [q7] at q6
                        cases q6
                        obtain ⟨fp', st', w'⟩ := k6 (.lst (xs.set jj t.1)) (.lst (vs.set jj v)) ⟨vs.set jj v, rfl, by simp [l], set_items kx rv3⟩
                        exact .inl ⟨a, vs, j, jj, rfl, hy2 j rfl, ha, by rw [← l]; exact q7, h Z3 _ σ fp' ((h12.trans st3).trans st') w'⟩
                    | _ => cases q6
                  | dct kvs =>
                    obtain ⟨vs, rfl, l, kx⟩ := ho
                    simp only [setD] at q6
                    cases q7 : kyV k.1 with
                    | none => rw [q7] at q6; cases q6
                    | some ky =>
                      rw [q7] at q6
                      simp only at q6
                      split at q6
                      · rename_i hb
                        cases q6
                        obtain ⟨p1, p2⟩ := put_rel (k := ky) l kx rv3
                        have hl : kvs.length = vs.length := by have := congrArg List.length l; simpa using this
                        obtain ⟨fp', st', w'⟩ := k6 (.dct (putL kvs ky t.1)) (.dK (putK vs ky v)) ⟨_, rfl, p1, p2⟩
                        exact .inr ⟨a, _, rfl, .inl ⟨vs, ky, ha, hy1 ky q7, Nat.lt_of_lt_of_le (by omega) big_le, rfl⟩, h Z3 _ σ fp' ((h12.trans st3).trans st') w'⟩
                      · cases q6
                  | _ => cases q6
end
section
variable {X : Cx} {c : Zc} {L : Nat} {W : WX} {pos : Pos}
theorem set_any (hu : X.A.units + 1 < cLine) : PSet X rSet := by
  intro pins s σ H o i v ov iv u Q I ro ri rv h
  rcases h with h | ⟨a, H', rfl, g, q⟩
  · exact set_list pins s σ H o i v ov iv u Q I ro ri rv h
  · cases ro
    exact d_setItem hu I g ri rv fun s' I' => ⟨H', I', q⟩
theorem zs_set {i : Nat} {x : Str} {o e : Expr} {oo : Opd} {m : M T} {px p2 : Pos} (he : ZE X c L W e m) (hi : i < L) (hpg : PG X (.Subscript (.Name x px) o p2) (gSub (tVar i) (tO c L W oo) rSet)) (hL : okL L [oo] = true := by rfl)
    (hs : swapsWithSole [.Subscript (.Name x px) o p2] e pos.line X.env = pure false := by rfl) (hw : swappedStores [.Subscript (.Name x px) o p2] e X.env = pure none := by rfl)
    (h1 : (assignEach [.Subscript (.Name x px) o p2] X.env).map (·.2) = [assign (.Subscript (.Name x px) o p2) X.env] := by rfl) :
    ZS X c L W (.Assign [.Subscript (.Name x px) o p2] e pos) (mSet i oo m) :=
  PS.imp (ps_asg he hpg hs hw h1) fun _ _ _ h => mSet_rd hi hL h
end
end Z

namespace Z
open PySem L2
section
variable {c : Zc} {L : Nat} {W : WX} {vc : Nat → Option V} {Z H Z' H' Z1 H1 : Hp} {σ : St} {vx : List (Option V)} {st tx : S} {fp fp1 : List Addr}
/-- one operand, what stands behind it known -/
theorem tO_run {o : Opd} {Q : VK} (w : Wl c L vc Z H σ vx st tx fp) (hL : okL L [o] = true)
    (h : match evs [o] st with
      | .ok hs s => ∀ Z' H' v vy ty fp', Stp fp Z H fp' Z' H' → Wl c L vc Z' H' σ (vx ++ vy) s (tx ++ ty) fp' → HR σ [o] hs [v] vy ty → Q v H'
      | .ex x s => ∀ Z' H' fp' cls dd, Stp fp Z H fp' Z' H' → Wl c L vc Z' H' σ vx s tx fp' → IsX c Z' H' x cls dd → W cls dd σ H'
      | .no => False) : tO c L W o σ H Q := by
  have z : tOs c L W [o] σ H (fun vs H3 => ∃ y, vs = [y] ∧ Q y H3) := by
    refine tOs_run w (okL_mem hL) ?_
    cases q : evs [o] st with
    | no => rw [q] at h; exact h
    | ex x s => rw [q] at h; exact h
    | ok hs s =>
      rw [q] at h
      intro Z1 H1 vs vy ty fp1 s1 w1 r1
      have : ∃ v, vs = [v] := by
        cases r1 with
        | nm _ r => cases r; exact ⟨_, rfl⟩
        | tm r => cases r; exact ⟨_, rfl⟩
      obtain ⟨v, rfl⟩ := this
      exact ⟨v, rfl, h Z1 H1 v vy ty fp1 s1 w1 r1⟩
  cases o with
  | nm j =>
    obtain ⟨hj, u, e, y, ey, q⟩ := z
    cases ey
    exact ⟨hj, u, e, q⟩
  | tm mo =>
    obtain ⟨Z5, vc5, vx5, st5, tx5, fp5, w5, h5⟩ := z
    refine ⟨Z5, vc5, vx5, st5, tx5, fp5, w5, ?_⟩
    cases q5 : mo st5 with
    | no => rw [q5] at h5; exact h5
    | ex x s => rw [q5] at h5; exact h5
    | ok t5 s5 =>
      rw [q5] at h5
      intro Z6 H6 v6 fp6 st6 w6
      obtain ⟨y, ey, q⟩ := h5 Z6 H6 v6 fp6 st6 w6
      cases ey
      exact q
theorem wl_lens (w : Wl c L vc Z H σ (vx ++ vy) st (tx ++ ty) fp) (e2 : vy.length = ty.length) : (st ++ tx).length = (σ ++ vx).length := by
  have e := w.lr.len
  simp only [List.length_append] at e ⊢
  omega
/-- the tree behind one operand -/
theorem HR.tree1 {o : Opd} {hs : List (Option T)} {v : V} {vy : List (Option V)} {ty : S} {t : T} (r : HR σ [o] hs [v] vy ty) (w : Wl c L vc Z H σ (vx ++ vy) st (tx ++ ty) fp) (hL : okL L [o] = true) (e : gets [o] hs st = some [t]) : Tre c Z H fp v t := by
  obtain ⟨y, ey, ty1⟩ := tre1 (r.trees w (wl_lens w r.len) (okL_mem hL) e)
  cases ey
  exact ty1
theorem gets_one {o : Opd} {hs : List (Option T)} {s : S} {ts : List T} (h : gets [o] hs s = some ts) : ∃ t, ts = [t] := by
  cases o with
  | nm i =>
    match hs, h with
    | [none], h =>
      simp only [gets] at h
      cases q : tre s i with
      | none => rw [q] at h; cases h
      | some t => rw [q] at h; cases h; exact ⟨t, rfl⟩
    | none :: none :: _, h =>
      simp only [gets] at h
      split at h <;> cases h
    | none :: some _ :: _, h =>
      simp only [gets] at h
      split at h <;> cases h
    | [], h => cases h
    | some _ :: _, h => cases h
  | tm m =>
    match hs, h with
    | [some t], h => cases h; exact ⟨t, rfl⟩
    | some _ :: none :: _, h => cases h
    | some _ :: some _ :: _, h => cases h
    | [], h => cases h
    | none :: _, h => cases h

/-! ### a[lo:hi] -/
def mPart : Option (M T) → M (Option Int)
  | none => fun s => .ok none s
  | some m => fun s => match m s with
    | .ok (.int i, _) s' => .ok (some i) s'
    | .ok _ _ => .no
    | .ex x s' => .ex x s'
    | .no => .no
def get1 (o : Opd) (hs : List (Option T)) (s : S) : Option T := match gets [o] hs s with
  | some [t] => some t
  | _ => none
def mSl (o : Opd) (lo hi : Option (M T)) : M T := fun s => match evs [o] s with
  | .ok hs s1 => match mPart lo s1 with
    | .ok l s2 => match mPart hi s2 with
      | .ok u s3 => match get1 o hs s3 with
        | some t => match slD l u t with
          | some t' => .ok t' s3
          | none => .no
        | none => .no
      | .ex x s3 => .ex x s3
      | .no => .no
    | .ex x s2 => .ex x s2
    | .no => .no
  | .ex x s1 => .ex x s1
  | .no => .no
def tP (c : Zc) (L : Nat) (W : WX) : Option (M T) → TO
  | none => tNoPart
  | some m => tPart (rd c L W m)
/-- what is left on the stack goes when something is raised -/
theorem part_run {po : Option (M T)} {Q : Option Int → Hp → Prop} (w : Wl c L vc Z H σ vx st tx fp)
    (h : match mPart po st with
      | .ok o s => ∀ Z' H' fp', Stp fp Z H fp' Z' H' → Wl c L vc Z' H' σ vx s tx fp' → Q o H'
      | .ex x s => ∀ Z' H' fp' cls dd, Stp fp Z H fp' Z' H' → Wl c L vc Z' H' σ vx s tx fp' → IsX c Z' H' x cls dd → W cls dd σ H'
      | .no => False) : tP c L W po σ H Q := by
  cases po with
  | none => exact h Z H fp Stp.refl w
  | some m =>
    refine rd_off (Q := fun _ _ => True) ⟨Z, vc, vx, st, tx, fp, w, ?_⟩
    cases q : m st with
    | no => simp only [mPart, q] at h
    | ex x s => simp only [mPart, q] at h; exact h
    | ok t s =>
      obtain ⟨d, n⟩ := t
      intro Z1 H1 fp1 s1 w1 v fp2 tr _
      cases d with
      | int i =>
        simp only [mPart, q] at h
        exact ⟨i, tre_int tr, h Z1 H1 fp1 s1 w1⟩
      | _ => simp only [mPart, q] at h
/-- the world behind, its stack taken off -/
theorem ex_pops {vy : List (Option V)} {ty : S} {x : Ex} {s : S} (hvc : ∀ j v, vc j = some v → L ≤ j ∧ vx[j - L]? = some (some v)) (hl : vy.length = ty.length) (s0 : Stp fp Z H fp1 Z1 H1)
    (h : ∀ Z' H' fp' cls dd, Stp fp Z H fp' Z' H' → Wl c L vc Z' H' σ vx s tx fp' → IsX c Z' H' x cls dd → W cls dd σ H') :
    ∀ Z' H' fp' cls dd, Stp fp1 Z1 H1 fp' Z' H' → Wl c L vc Z' H' σ (vx ++ vy) s (tx ++ ty) fp' → IsX c Z' H' x cls dd → W cls dd σ H' := fun Z2 H2 fp2 cls dd s2 w2 hx => by
  obtain ⟨g, hg, w3⟩ := Wl.pops hl w2 hvc
  exact h Z2 H2 g cls dd ((s0.trans s2).trans (Stp.less hg)) w3 hx
theorem mSl_rd {o : Opd} {lo hi : Option (M T)} {Q : VK} (hL : okL L [o] = true) (h : rd c L W (mSl o lo hi) σ H Q) : tSl (rSlAll c.K) (tO c L W o) (tP c L W lo) (tP c L W hi) σ H Q := by
  obtain ⟨Z, vc, vx, st, tx, fp, w, h⟩ := h
  refine tO_run w hL ?_
  cases q : evs [o] st with
  | no => simp only [mSl, q] at h; exact h
  | ex x s => simp only [mSl, q] at h; exact h
  | ok hs s1 =>
    simp only [mSl, q] at h
    intro Z1 H1 v vy ty fp1 t1 w1 r1
    refine part_run w1 ?_
    cases q2 : mPart lo s1 with
    | no => simp only [q2] at h; exact h
    | ex x s2 => simp only [q2] at h; exact ex_pops w.hvc r1.len t1 h
    | ok l s2 =>
      simp only [q2] at h
      intro Z2 H2 fp2 t2 w2
      have t12 := t1.trans t2
      refine part_run w2 ?_
      cases q3 : mPart hi s2 with
      | no => simp only [q3] at h; exact h
      | ex x s3 => simp only [q3] at h; exact ex_pops w.hvc r1.len t12 h
      | ok u s3 =>
        simp only [q3] at h
        intro Z3 H3 fp3 t3 w3
        have t13 := t12.trans t3
        unfold get1 at h
        cases q4 : gets [o] hs s3 with
        | none => simp only [q4] at h; exact h.elim
        | some ts =>
          obtain ⟨t, rfl⟩ := gets_one q4
          simp only [q4] at h
          cases q5 : slD l u t with
          | none => simp only [q5] at h; exact h.elim
          | some t' =>
            simp only [q5] at h
            refine sl_ok w3.sub (r1.tree1 w3 hL q4) q5 fun Z4 H4 x g al rt => ?_
            obtain ⟨g1, hg1, w4⟩ := Wl.pops r1.len w3 w.hvc
            exact h Z4 H4 x _ ((t13.trans (Stp.less hg1)).trans (Stp.of_al al)) (w4.al al rt)

/-! ### x.m(..) of a text, nothing changed -/
def isStr : D → Bool
  | .str _ => true
  | _ => false
def mBm (f : F) (o : Opd) (ms : List (M T)) : M T := fun s => match evs [o] s with
  | .ok hs s1 => match get1 o hs s1 with
    | some t => if isStr t.1 = true then (match evm ms s1 with
      | .ok ts s2 => match f (t :: ts.map fun t => (t.1, 0)) with
        | some t' => .ok t' s2
        | none => .no
      | .ex x s2 => .ex x s2
      | .no => .no) else .no
    | none => .no
  | .ex x s1 => .ex x s1
  | .no => .no
theorem paired_rf {fp : List Addr} : ∀ {ts : List T} {vs : List V}, vs.length = ts.length → (∀ (i : Nat) d v, (ts.map (·.1))[i]? = some d → vs[i]? = some v → RF c Z d v) → Paired (Tre c Z H fp) vs (ts.map fun t => (t.1, 0))
  | [], [], _, _ => .nil
  | t :: ts, v :: vs, hl, h => .cons (rf_tre (h 0 t.1 v rfl rfl)) (paired_rf (Nat.succ.inj hl) fun i d v h1 h2 => h (i + 1) d v (by simpa using h1) (by simpa using h2))
  | [], _ :: _, hl, _ => by cases hl
  | _ :: _, [], hl, _ => by cases hl
theorem mBm_rd {f : F} {r : V → List V → Hp → VK → Prop} {K : PySem.W.Frag} {o : Opd} {ms : List (M T)} {Q : VK} (hr : RuZ c (rMt1 r) f) (hL : okL L [o] = true) (h : rd c L W (mBm f o ms) σ H Q) : tBM K "str" r (tO c L W o) (tMs c L W ms) σ H Q := by
  obtain ⟨Z, vc, vx, st, tx, fp, w, h⟩ := h
  refine tO_run w hL ?_
  cases q : evs [o] st with
  | no => simp only [mBm, q] at h; exact h
  | ex x s => simp only [mBm, q] at h; exact h
  | ok hs s1 =>
    simp only [mBm, q] at h
    intro Z1 H1 v vy ty fp1 t1 w1 r1
    unfold get1 at h
    cases q2 : gets [o] hs s1 with
    | none => simp only [q2] at h; exact h.elim
    | some ts0 =>
      obtain ⟨t, rfl⟩ := gets_one q2
      simp only [q2] at h
      split at h
      · rename_i hs0
        have tr := r1.tree1 w1 hL q2
        obtain ⟨d, n⟩ := t
        cases d with
        | str a =>
          have ev := tre_str tr
          subst ev
          refine ⟨rfl, tMs_run w1 ?_⟩
          cases q3 : evm ms s1 with
          | no => simp only [q3] at h; exact h
          | ex x s2 => simp only [q3] at h; exact ex_pops w.hvc r1.len t1 h
          | ok ts s2 =>
            simp only [q3] at h
            intro Z2 H2 vs fp2 t2 hl w2
            cases q4 : f ((D.str a, n) :: ts.map fun t => (t.1, 0)) with
            | none => simp only [q4] at h; exact h.elim
            | some t' =>
              simp only [q4] at h
              have w2' : Wl c L vc Z2 H2 σ ((vx ++ vy) ++ vs.map some) s2 ((tx ++ ty) ++ ts.map fun t => .ow t.1 t.2) fp2 := w2
              have hvc2 := w1.hvc
              obtain ⟨Z3, g3, w3, t3, rf⟩ := Wl.frz w2' hvc2 hl
              obtain ⟨g4, hg4, w4⟩ := Wl.pops r1.len w3 w.hvc
              have p : Paired (Tre c Z3 H2 g4) (V.str a :: vs) ((D.str a, n) :: ts.map fun t => (t.1, 0)) := .cons ⟨[], fun _ h => (nomatch h), by cases n <;> first | exact ⟨.str, rfl⟩ | exact ⟨rfl, rfl⟩⟩ (paired_rf hl rf)
              exact hr Z3 H2 g4 _ _ _ Q q4 w4.sub p fun Z5 H5 x g al rt => h Z5 H5 x _ ((((t1.trans t2).trans t3).trans (Stp.less hg4)).trans (Stp.of_al al)) (w4.al al rt)
        | _ => cases hs0
      · exact h.elim
end
end Z

namespace Z
open PySem L2
section
variable {c : Zc} {L : Nat} {W : WX} {vc : Nat → Option V} {Z H Z' H' Z1 H1 : Hp} {σ : St} {vx : List (Option V)} {st tx : S} {fp fp1 : List Addr}
theorem rd_mono {m : M T} {Q Q' : VK} (k : ∀ v H, Q v H → Q' v H) (h : rd c L W m σ H Q) : rd c L W m σ H Q' := by
  obtain ⟨Z, vc, vx, st, tx, fp, w, h⟩ := h
  refine ⟨Z, vc, vx, st, tx, fp, w, ?_⟩
  cases q : m st with
  | no => rw [q] at h; exact h
  | ex x s => rw [q] at h; exact h
  | ok t s => rw [q] at h; exact fun Z1 H1 v fp1 s1 w1 => k _ _ (h Z1 H1 v fp1 s1 w1)
theorem tAg_mono {a : Ag} {Q Q' : VK} (k : ∀ v H, Q v H → Q' v H) (h : tAg c L W a σ H Q) : tAg c L W a σ H Q' := by
  cases a with
  | bo i =>
    obtain ⟨hi, v, e, q⟩ := h
    exact ⟨hi, v, e, k _ _ q⟩
  | tm m => exact rd_mono k h
theorem tAs_app : ∀ {as bs : List Ag} {H : Hp} {Q : List V → Hp → Prop}, tAs c L W (as ++ bs) σ H Q → tAs c L W as σ H fun vs H1 => tAs c L W bs σ H1 fun zs H2 => Q (vs ++ zs) H2
  | [], _, _, _, h => h
  | _ :: _, _, _, _, h => tAg_mono (fun _ _ h => tAs_app h) h

/-! ### a op b op' c of ints -/
def asI : R T → R Int
  | .ok (.int i, _) s => .ok i s
  | .ok _ _ => .no
  | .ex x s => .ex x s
  | .no => .no
def mCh (g g' : Int → Int → Bool) (a b d : M T) : M T := fun s => match asI (a s) with
  | .ok i s1 => match asI (b s1) with
    | .ok j s2 => if g i j = true then (match asI (d s2) with
      | .ok k s3 => .ok (.bl (g' j k), 0) s3
      | .ex x s3 => .ex x s3
      | .no => .no) else .ok (.bl false, 0) s2
    | .ex x s2 => .ex x s2
    | .no => .no
  | .ex x s1 => .ex x s1
  | .no => .no
theorem asI_run {m : M T} {P : VK} (w : Wl c L vc Z H σ vx st tx fp) (h : match asI (m st) with
    | .ok i s => ∀ Z' H' fp', Stp fp Z H fp' Z' H' → Wl c L vc Z' H' σ vx s tx fp' → P (.int i) H'
    | .ex x s => ∀ Z' H' fp' cls dd, Stp fp Z H fp' Z' H' → Wl c L vc Z' H' σ vx s tx fp' → IsX c Z' H' x cls dd → W cls dd σ H'
    | .no => False) : rd c L W m σ H P := by
  refine rd_off (Q := fun _ _ => True) ⟨Z, vc, vx, st, tx, fp, w, ?_⟩
  cases q : m st with
  | no => simp only [asI, q] at h
  | ex x s => simp only [asI, q] at h; exact h
  | ok t s =>
    obtain ⟨d, n⟩ := t
    intro Z1 H1 fp1 s1 w1 v fp2 tr _
    cases d with
    | int i =>
      simp only [asI, q] at h
      rw [tre_int tr]
      exact h Z1 H1 fp1 s1 w1
    | _ => simp only [asI, q] at h
theorem mCh_rd {g g' : Int → Int → Bool} {a b d : M T} {Q : VK} (h : rd c L W (mCh g g' a b d) σ H Q) : tChain (rI0 fun i j => .bl (g i j)) (rI0 fun i j => .bl (g' i j)) (rd c L W a) (rd c L W b) (rd c L W d) σ H Q := by
  obtain ⟨Z, vc, vx, st, tx, fp, w, h⟩ := h
  refine asI_run w ?_
  cases q : asI (a st) with
  | no => simp only [mCh, q] at h; exact h
  | ex x s => simp only [mCh, q] at h; exact h
  | ok i s1 =>
    simp only [mCh, q] at h
    intro Z1 H1 fp1 t1 w1
    refine asI_run w1 ?_
    cases q2 : asI (b s1) with
    | no => simp only [q2] at h; exact h
    | ex x s => simp only [q2] at h; exact fun Z2 H2 fp2 cls dd t2 => h Z2 H2 fp2 cls dd (t1.trans t2)
    | ok j s2 =>
      simp only [q2] at h
      intro Z2 H2 fp2 t2 w2
      have t12 := t1.trans t2
      refine ⟨i, j, rfl, rfl, g i j, rfl, ?_⟩
      split at h
      · rename_i hg
        rw [if_pos hg]
        refine asI_run w2 ?_
        cases q3 : asI (d s2) with
        | no => simp only [q3] at h; exact h
        | ex x s => simp only [q3] at h; exact fun Z3 H3 fp3 cls dd t3 => h Z3 H3 fp3 cls dd (t12.trans t3)
        | ok k s3 =>
          simp only [q3] at h
          intro Z3 H3 fp3 t3 w3
          exact ⟨j, k, rfl, rfl, h Z3 H3 (.bl (g' j k)) fp3 (t12.trans t3) (w3.pushF .bl)⟩
      · rename_i hg
        rw [if_neg hg]
        exact h Z2 H2 (.bl false) fp2 t12 (w2.pushF .bl)

/-! ### a, b = x, y -/
def mPar (i j : Nat) (a b : M T) : M Fl := fun s => match evm [a, b] s with
  | .ok [t, u] s' => if i < s'.length ∧ j < s'.length then .ok .nx ((s'.set j (.ow u.1 u.2)).set i (.ow t.1 t.2)) else .no
  | .ok _ _ => .no
  | .ex x s' => .ex x s'
  | .no => .no
theorem mPar_rd {i j : Nat} {a b : M T} {D : Ends} (hi : i < L) (hj : j < L) (hij : i ≠ j) (h : rdS c L W (mPar i j a b) D σ H) : tPar i j (tMs c L W [a, b]) D σ H := by
  obtain ⟨Z, vc, vx, st, tx, fp, w, h⟩ := h
  refine tMs_run w ?_
  cases q : evm [a, b] st with
  | no => simp only [mPar, q] at h; exact h
  | ex x s => simp only [mPar, q] at h; exact fun Z2 H2 => h Z2 H2 σ
  | ok ts s =>
    have hl2 := evm_len q
    match ts, hl2, q with
    | [t, u], _, q =>
      simp only [mPar, q] at h
      intro Z1 H1 vs fp1 s1 hl w1
      match vs, hl with
      | [v, x], _ =>
        split at h
        · rename_i k
          have w1' : Wl c L vc Z1 H1 σ ((vx ++ [some v]) ++ [some x]) s ((tx ++ [.ow t.1 t.2]) ++ [.ow u.1 u.2]) fp1 := by simpa using w1
          have hvc1 : ∀ j v', vc j = some v' → L ≤ j ∧ (vx ++ [some v])[j - L]? = some (some v') := fun j v' e => by
            obtain ⟨k1, k2⟩ := w.hvc j v' e
            exact ⟨k1, by rw [List.getElem?_append_left (List.getElem?_eq_some_iff.mp k2).1]; exact k2⟩
          obtain ⟨fp2, h2, w2⟩ := w1'.putTop hvc1 hj k.2
          obtain ⟨fp3, h3, w3⟩ := w2.putTop w.hvc hi (by rw [List.length_set]; exact k.1)
          rw [List.set_comm _ _ (Ne.symm hij)] at w3
          exact ⟨v, x, rfl, h Z1 H1 _ fp3 ((s1.trans (Stp.less h2)).trans (Stp.less h3)) w3⟩
        · exact h.elim

/-! ### x.m(..) of a slot's own object, which changes -/
abbrev G := D → List D → Option (D × D)
def RuM (c : Zc) (r : V → List V → Hp → VK → Prop) (g : G) : Prop := ∀ (Z H : Hp) (a : Addr) (o : HO) (d d' e : D) (vs : List V) (ds : List D) (Q : VK), g d ds = some (d', e) → Sub Z H → H a = some o → One c Z H d a o → vs.length = ds.length → (∀ (i : Nat) d v, ds[i]? = some d → vs[i]? = some v → RF c Z d v) →
  (∀ o' v, One c Z H d' a o' → RF c Z e v → Q v (upd H a o')) → r (.ref a) vs H Q
def tyOf : D → String
  | .lst _ => "list"
  | .dct _ => "dict"
  | _ => ""
def mMut (g : G) (Tn : String) (i : Nat) (ms : List (M T)) : M T := fun s => match tre s i with
  | some (d0, 1) => if tyOf d0 = Tn ∧ mutb d0 = true ∧ Tn ≠ "" then (match evm ms s with
    | .ok ts s1 => match tre s1 i with
      | some (d, 1) => match g d (ts.map (·.1)) with
        | some (d', e) => .ok (e, 0) (s1.set (loc s1 i) (.ow d' 1))
        | none => .no
      | _ => .no
    | .ex x s1 => .ex x s1
    | .no => .no) else .no
  | _ => .no
theorem mMut_rd {g : G} {Tn : String} {r : V → List V → Hp → VK → Prop} {i : Nat} {ms : List (M T)} {Q : VK} (hr : RuM c r g) (hg : ∀ d ds x, g d ds = some x → mutb d = true) (hi : i < L) (h : rd c L W (mMut g Tn i ms) σ H Q) : tBM c.K Tn r (tVar i) (tMs c L W ms) σ H Q := by
  obtain ⟨Z, vc, vx, st, tx, fp, w, h⟩ := h
  cases q0 : tre st i with
  | none => simp only [mMut, q0] at h; exact h.elim
  | some t0 =>
    obtain ⟨d0, n0⟩ := t0
    match n0, q0 with
    | 0, q0 => simp only [mMut, q0] at h; exact h.elim
    | n + 2, q0 => simp only [mMut, q0] at h; exact h.elim
    | 1, q0 =>
      simp only [mMut, q0] at h
      split at h
      · rename_i hd0
        obtain ⟨hd0, hm0, hne⟩ := hd0
        obtain ⟨a, o, e1, ha, ho, _, _, _⟩ := wl_mut w hi q0 hm0
        refine ⟨.ref a, e1, ?_, tMs_run w ?_⟩
        · cases d0 with
          | lst xs =>
            obtain ⟨vs, rfl, _, _⟩ := ho
            exact .inl ⟨hd0.symm, vs, .inl (.inl ha)⟩
          | dct kvs =>
            obtain ⟨vs, rfl, _, _⟩ := ho
            exact .inr (.inr (.inl ⟨hd0.symm, .inl ⟨vs, ha⟩⟩))
          | _ => exact absurd hd0.symm hne
        · cases q : evm ms st with
          | no => simp only [q] at h; exact h
          | ex x s => simp only [q] at h; exact h
          | ok ts s1 =>
            simp only [q] at h
            intro Z1 H1 vs fp1 t1 hl w1
            obtain ⟨Z2, g2, w2, t2, rf⟩ := Wl.frz w1 w.hvc hl
            cases q2 : tre s1 i with
            | none => simp only [q2] at h; exact h.elim
            | some t5 =>
              obtain ⟨d, n⟩ := t5
              match n, q2 with
              | 0, q2 => simp only [q2] at h; exact h.elim
              | n + 2, q2 => simp only [q2] at h; exact h.elim
              | 1, q2 =>
                simp only [q2] at h
                cases q3 : g d (ts.map (·.1)) with
                | none => simp only [q3] at h; exact h.elim
                | some x =>
                  obtain ⟨d', e⟩ := x
                  simp only [q3] at h
                  obtain ⟨a', o', e1', ha', ho', _, _, k⟩ := wl_mut w2 hi q2 (hg _ _ _ q3)
                  rw [e1] at e1'
                  cases e1'
                  refine hr Z2 H1 a o' d d' e vs (ts.map (·.1)) Q q3 w2.sub ha' ho' (by simp [hl]) rf fun o2 v h1 h2 => ?_
                  obtain ⟨fp3, t3, w3⟩ := k d' o2 h1
                  exact h Z2 _ v fp3 ((t1.trans t2).trans t3) (w3.pushF h2)
      · exact h.elim
end

section
variable {X : Cx} {c : Zc} {L : Nat} {W : WX} {pos : Pos}
theorem zo_tm {e : Expr} {m : M T} (h : ZE X c L W e m) : ZO X c L W e (.tm m) := h
theorem zg_tm {e : Expr} {m : M T} (h : ZE X c L W e m) : ZG X c L W e (.tm m) := h
/-- a built-in function, a built-in type called -/
theorem ze_cb {x : Str} {id : String} {e : Expr} {es : List Expr} {os : List Opd} {p : Pos} {r : List V → Hp → VK → Prop} {f : F} (hc : CallR X (.builtin id) r) (hr : RuZ c r f) (hg : Gl X x) (hm : X.mg x = none) (hv : bootBuiltins x = some (.builtin id)) (ha : ZOs X c L W (e :: es) os) (hL : okL L os = true := by rfl)
    (hn : x ≠ "__name__" := by decide) (hdb : (x == ("__debug__" : Str)) = false := by decide) (he : starEach (e :: es) X.env = (false, eval e X.env) :: starEach es X.env := by rfl) (hpl : (backTo pos (starEach es X.env)).any (·.1) = false := by rfl) : ZE X c L W (.Call (.Name x p) (e :: es) [] pos) (mOp f os) :=
  PE.imp (pe_callB hc hg hm hv ha hn hdb he hpl) fun σ H Q h => run_op hr (okL_mem hL) h
theorem ze_ct {x : Str} {Tn : String} {e : Expr} {es : List Expr} {os : List Opd} {p : Pos} {r : List V → Hp → VK → Prop} {f : F} (hc : CallR X (.type Tn) r) (hr : RuZ c r f) (hg : Gl X x) (hm : X.mg x = none) (hv : bootBuiltins x = some (.type Tn)) (ha : ZOs X c L W (e :: es) os) (hL : okL L os = true := by rfl)
    (hn : x ≠ "__name__" := by decide) (hdb : (x == ("__debug__" : Str)) = false := by decide) (he : starEach (e :: es) X.env = (false, eval e X.env) :: starEach es X.env := by rfl) (hpl : (backTo pos (starEach es X.env)).any (·.1) = false := by rfl) : ZE X c L W (.Call (.Name x p) (e :: es) [] pos) (mOp f os) :=
  PE.imp (pe_callTy hc hg hm hv ha hn hdb he hpl) fun σ H Q h => run_op hr (okL_mem hL) h
/-- a[lo:hi] -/
abbrev ZP (X : Cx) (c : Zc) (L : Nat) (W : WX) (e : Option Expr) (m : Option (M T)) : Prop := PO X e (tP c L W m)
theorem zp_no : ZP X c L W none none := po_none
theorem zp_is {e : Expr} {m : M T} (h : ZE X c L W e m) : ZP X c L W (some e) (some m) := po_some h
theorem ze_sl {e : Expr} {lo hi : Option Expr} {o : Opd} {ml mh : Option (M T)} {p2 : Pos} (hK : c.K = X.K) (he : ZO X c L W e o) (hl : ZP X c L W lo ml) (hh : ZP X c L W hi mh) (hL : okL L [o] = true := by rfl) : ZE X c L W (.Subscript e (.Slice lo hi none p2) pos) (mSl o ml mh) :=
  PE.imp (pe_slice (slAll hK) he hl hh) fun σ H Q h => mSl_rd hL h
/-- s.m(..), s a text -/
theorem ze_bm {id : String} {name : Str} {r : V → List V → Hp → VK → Prop} {f : F} {o e : Expr} {es : List Expr} {oo : Opd} {ms : List (M T)} {apos cpos : Pos} (slot : Slot "str" name id) (hty : typeOf (.builtin id) = pure (.type "method_descriptor")) (hm : MtR X id r) (hr : RuZ c (rMt1 r) f) (ho : ZO X c L W o oo) (ha : ZA X c L W (e :: es) ms)
    (hL : okL L [oo] = true := by rfl) (hbase : attributeBase o name X.env (eval o X.env) = eval o X.env := by rfl)
    (hfew : ((backTo cpos (starEach (e :: es) X.env)).all (fun x => !x.1) && (backToKw cpos (keywordEach [] X.env)).all (fun x => x.1.isSome) && decide ((e :: es).length + ([] : List Keyword).length + (if ([] : List Keyword).isEmpty then 0 else 1) < 30)) = true := by rfl)
    (hline : (apos.endLine == cpos.line) = true := by rfl) (hs : starEach (e :: es) X.env = (false, eval e X.env) :: starEach es X.env := by rfl) (hplain : (backTo cpos (starEach es X.env)).any (·.1) = false := by rfl) : ZE X c L W (.Call (.Attribute o name apos) (e :: es) [] cpos) (mBm f oo ms) :=
  PE.imp (pe_bm PySem.F.plainAttrs_str slot hty hm ho ha hbase hfew hline hs hplain) fun σ H Q h => mBm_rd hr hL h
theorem ze_bm0 {id : String} {name : Str} {r : V → List V → Hp → VK → Prop} {f : F} {o : Expr} {oo : Opd} {apos cpos : Pos} (slot : Slot "str" name id) (hty : typeOf (.builtin id) = pure (.type "method_descriptor")) (hm : MtR X id r) (hr : RuZ c (rMt1 r) f) (ho : ZO X c L W o oo)
    (hL : okL L [oo] = true := by rfl) (hbase : attributeBase o name X.env (eval o X.env) = eval o X.env := by rfl) (hline : (apos.endLine == cpos.line) = true := by rfl) : ZE X c L W (.Call (.Attribute o name apos) [] [] cpos) (mBm f oo []) :=
  PE.imp (pe_bm0 PySem.F.plainAttrs_str slot hty hm ho hbase hline) fun σ H Q h => mBm_rd (K := X.K) (o := oo) (ms := []) hr hL h
/-- x.m(..), x a slot's own object -/
theorem ze_mut {Tn id : String} {name x : Str} {i : Nat} {r : V → List V → Hp → VK → Prop} {g : G} {e : Expr} {es : List Expr} {ms : List (M T)} {px apos cpos : Pos} (hK : c.K = X.K) (pa : PlainAttrs Tn) (slot : Slot Tn name id) (hty : typeOf (.builtin id) = pure (.type "method_descriptor")) (hm : MtR X id r) (hr : RuM c r g) (hgm : ∀ d ds x, g d ds = some x → mutb d = true)
    (hv : PE X (.Name x px) (tVar i)) (ha : ZA X c L W (e :: es) ms) (hi : i < L := by decide) (hbase : attributeBase (.Name x px) name X.env (eval (.Name x px) X.env) = eval (.Name x px) X.env := by rfl)
    (hfew : ((backTo cpos (starEach (e :: es) X.env)).all (fun x => !x.1) && (backToKw cpos (keywordEach [] X.env)).all (fun x => x.1.isSome) && decide ((e :: es).length + ([] : List Keyword).length + (if ([] : List Keyword).isEmpty then 0 else 1) < 30)) = true := by rfl)
    (hline : (apos.endLine == cpos.line) = true := by rfl) (hs : starEach (e :: es) X.env = (false, eval e X.env) :: starEach es X.env := by rfl) (hplain : (backTo cpos (starEach es X.env)).any (·.1) = false := by rfl) : ZE X c L W (.Call (.Attribute (.Name x px) name apos) (e :: es) [] cpos) (mMut g Tn i ms) :=
  PE.imp (pe_bm pa slot hty hm hv ha hbase hfew hline hs hplain) fun σ H Q h => hK ▸ mMut_rd hr hgm hi h
theorem ze_mut0 {Tn id : String} {name x : Str} {i : Nat} {r : V → List V → Hp → VK → Prop} {g : G} {px apos cpos : Pos} (hK : c.K = X.K) (pa : PlainAttrs Tn) (slot : Slot Tn name id) (hty : typeOf (.builtin id) = pure (.type "method_descriptor")) (hm : MtR X id r) (hr : RuM c r g) (hgm : ∀ d ds x, g d ds = some x → mutb d = true)
    (hv : PE X (.Name x px) (tVar i)) (hi : i < L := by decide) (hbase : attributeBase (.Name x px) name X.env (eval (.Name x px) X.env) = eval (.Name x px) X.env := by rfl) (hline : (apos.endLine == cpos.line) = true := by rfl) : ZE X c L W (.Call (.Attribute (.Name x px) name apos) [] [] cpos) (mMut g Tn i []) :=
  PE.imp (pe_bm0 pa slot hty hm hv hbase hline) fun σ H Q h => hK ▸ (mMut_rd (ms := []) hr hgm hi h : tBM c.K Tn r (tVar i) (tMs c L W []) σ H Q)
/-- a op b op' c of ints -/
theorem ze_ch {op op' : CmpOp} {g g' : Int → Int → Bool} {a b d : Expr} {ma mb md : M T} (ho : OpR X (compareOp op) (rI0 fun i j => .bl (g i j))) (ho' : OpR X (compareOp op') (rI0 fun i j => .bl (g' i j))) (ha : ZE X c L W a ma) (hb : ZE X c L W b mb) (hd : ZE X c L W d md) (hm : lastMarks [op, op'] [b, d] = false := by with_unfolding_all rfl) : ZE X c L W (.Compare a [op, op'] [b, d] pos) (mCh g g' ma mb md) :=
  PE.imp (pe_chain ho ho' ha hb hd hm) fun σ H Q h => mCh_rd h
theorem zt_ch {op op' : CmpOp} {g g' : Int → Int → Bool} {a b d : Expr} {ma mb md : M T} (ho : OpR X (compareOp op) (rI0 fun i j => .bl (g i j))) (ho' : OpR X (compareOp op') (rI0 fun i j => .bl (g' i j))) (ha : ZE X c L W a ma) (hb : ZE X c L W b mb) (hd : ZE X c L W d md) (hm : lastMarks [op, op'] [b, d] = false := by with_unfolding_all rfl) : ZT X c L W (.Compare a [op, op'] [b, d] pos) (mB (mCh g g' ma mb md)) :=
  PT.imp (pt_chain ho ho' ha hb hd hm) fun σ H Q h => mCh_rd (mB_rd h)
/-- a, b = x, y -/
theorem zs_par {i j : Nat} {x y : Str} {a b : Expr} {ma mb : M T} {px py pt pt2 : Pos} {kt k2} (hc : X.calm = true) (hN : X.N.Nodup) (hi : X.N[i]? = some x) (hj : X.N[j]? = some y) (hij : i ≠ j) (hx : X.env.scope.names.lookup x = some .local) (hy : X.env.scope.names.lookup y = some .local) (ha : ZA X c L W [a, b] [ma, mb])
    (hw : swappedStores [.Tuple [.Name x px, .Name y py] kt pt] (.Tuple [a, b] k2 pt2) X.env = pure (some [x, y]) := by first | rfl | kernel_rfl) (hs : swapsWithSole [.Tuple [.Name x px, .Name y py] kt pt] (.Tuple [a, b] k2 pt2) pos.line X.env = pure false := by first | rfl | kernel_rfl) (hiL : i < L := by decide) (hjL : j < L := by decide) :
    ZS X c L W (.Assign [.Tuple [.Name x px, .Name y py] kt pt] (.Tuple [a, b] k2 pt2) pos) (mPar i j ma mb) :=
  PS.imp (ps_par hc hN hi hj hij hx hy ha hw hs) fun _ _ _ h => mPar_rd hiL hjL hij h

/-! keywords, in the parameters' order -/
abbrev ZK (X : Cx) (c : Zc) (L : Nat) (W : WX) (es : List Keyword) (as : List Ag) : Prop := PK X es (tAs c L W as)
theorem zk_nil : ZK X c L W [] [] := pk_nil
theorem zk_cons {nm : Option Str} {kpos : Pos} {e : Expr} {kws : List Keyword} {m : Ag} {ms : List Ag} (ha : ZG X c L W e m) (hr : ZK X c L W kws ms) : ZK X c L W (⟨nm, e, kpos⟩ :: kws) (m :: ms) := pk_cons ha hr
abbrev KB (K : PySem.W.Frag) (fd : FuncData) (ps ks : List Str) (ds : List Value) (dvs : List V) : Prop := KBinds K fd ps ks (fun us ws => us ++ ws ++ ds) fun vs zs => vs ++ zs ++ dvs
theorem run_kw {k : Nat} {f : Addr} {fd : FuncData} {ps ks : List Str} {ds : List Value} {dvs : List V} {sp : Sp} {pins : List (Addr × Obj)} {σ : St} {H : Hp} {s : Shared} {Q : VK} {us ws : List Value} {vs zs : List V} (tk : Takes X W) (F0 : FnG X.prog X.w X.K X.mg X.base k f fd ps sp) (hr : Rg k X.A) (hb : KB X.K fd ps ks ds dvs)
    (I : Inv X pins σ H s) (r : Vals vs us) (rz : Vals zs ws) (h : sp (vs ++ zs ++ dvs) H Q (fun cls d H' => W cls d σ H')) : wpAny (model X.prog X.w) X.A (call (.ref f) us (ks.zip ws)) (EP X pins σ Q) X.xe s := run_gk tk F0 hr hb I r rz h
theorem ze_kw0 {k np : Nat} {f : Addr} {fd : FuncData} {ps ks : List Str} {fn : Fn} {x : Str} {p : Pos} {kws : List Keyword} {as : List Ag} {ds : List Value} {dds : List D} {dvs : List V} (tk : Takes X W) (F0 : FnG X.prog X.w X.K X.mg X.base k f fd ps (spZ c np fn)) (hr : Rg k X.A) (hg : Gl X x) (hm : X.mg x = some (.ref f)) (hk : PySem.W.keepIn X.K (.ref f) = true)
    (hb : KB X.K fd ps ks ds dvs) (hdd : Paired (fun d v => ∀ Z, RF c Z d v) dds dvs) (ha : ZK X c L W kws as) (hnp : as.length + dds.length = np := by rfl) (hL : okA L as = true := by rfl) (hdb : (x == ("__debug__" : Str)) = false := by decide)
    (hall : (backToKw pos (keywordEach kws X.env)).all (·.1.isSome) = true := by rfl) (hks : (backToKw pos (keywordEach kws X.env)).filterMap (·.1) = ks := by rfl)
    (hpl : ((backTo pos (starEach [] X.env)).any (·.1) || (backToKw pos (keywordEach kws X.env)).any (·.1.isNone)) = false := by rfl) : ZE X c L W (.Call (.Name x p) [] kws pos) (mCall fn as dds) := by
  refine ⟨fun pins s σ H Q I h => wpAny_Call_Name_kw (ld_glob I hg hm ?_ hdb)⟩
  refine PySem.W.callWith_KW0 (h₀ := X.base) I.ok.mod.kin hk hall (thn (ha.run pos pins s σ H _ I (mCall_rd hL hnp hdd h)) fun ws s1 ⟨zs, H1, I1, rz, q⟩ => ⟨I1.kIn, ?_⟩) hpl
  rw [hks]
  exact run_kw (us := []) (vs := []) tk F0 hr hb I1 .nil rz q
theorem ze_kw {k np : Nat} {f : Addr} {fd : FuncData} {ps ks : List Str} {fn : Fn} {x : Str} {p : Pos} {e : Expr} {es : List Expr} {kws : List Keyword} {as bs : List Ag} {ds : List Value} {dds : List D} {dvs : List V} (tk : Takes X W) (F0 : FnG X.prog X.w X.K X.mg X.base k f fd ps (spZ c np fn)) (hr : Rg k X.A) (hg : Gl X x) (hm : X.mg x = some (.ref f)) (hk : PySem.W.keepIn X.K (.ref f) = true)
    (hb : KB X.K fd ps ks ds dvs) (hdd : Paired (fun d v => ∀ Z, RF c Z d v) dds dvs) (ha : ZGs X c L W (e :: es) as) (hkw : ZK X c L W kws bs) (hnp : (as ++ bs).length + dds.length = np := by rfl) (hL : okA L (as ++ bs) = true := by rfl) (hdb : (x == ("__debug__" : Str)) = false := by decide)
    (hall : (backToKw pos (keywordEach kws X.env)).all (·.1.isSome) = true := by rfl) (hks : (backToKw pos (keywordEach kws X.env)).filterMap (·.1) = ks := by rfl) (he : starEach (e :: es) X.env = (false, eval e X.env) :: starEach es X.env := by rfl)
    (hpl : ((backTo pos (starEach (e :: es) X.env)).any (·.1) || (backToKw pos (keywordEach kws X.env)).any (·.1.isNone)) = false := by rfl) : ZE X c L W (.Call (.Name x p) (e :: es) kws pos) (mCall fn (as ++ bs) dds) := by
  refine ⟨fun pins s σ H Q I h => wpAny_Call_Name_kw (ld_glob I hg hm ?_ hdb)⟩
  refine PySem.W.callWith_KW (h₀ := X.base) I.ok.mod.kin hk hall (thn (ha.run pos pins s σ H _ I (tAs_app (mCall_rd hL hnp hdd h))) fun us s1 ⟨vs, H1, I1, r, q⟩ => ?_) hpl he
  refine thn (hkw.run pos pins s1 σ H1 _ I1 q) fun ws s2 ⟨zs, H2, I2, rz, q2⟩ => ⟨I2.kIn, ?_⟩
  rw [hks]
  exact run_kw tk F0 hr hb I2 r rz q2
/-- how keywords bind, no default -/
theorem kb_of {K : PySem.W.Frag} {x qual : Str} {st : Stmt} {f : Addr} {fd : FuncData} {ps ks : List Str} (F0 : Fun K x qual st f fd)
    (h : ∀ (kV doc pm : Value) (an : Option Addr) (cdv ct : Value) (us ws : List Value), (us ++ ws).length = ps.length → bindArgs (PySem.W.fnOf x qual (defArgs st) (defBody st) (defScope st) .none kV doc pm an cdv ct) ⟨us, ks.zip ws⟩ = pure (ps.zip (us ++ ws))) : KB K fd ps ks [] [] := by
  obtain ⟨oc, od, kV, doc, pm, an, cdv, ct, osl, rfl, lk, hcd⟩ := F0.ex
  exact ⟨fun s us ws _ hl => by rw [List.append_nil] at hl ⊢; exact .of_eq (h kV doc pm an cdv ct us ws hl), fun r rz => by rw [List.append_nil, List.append_nil]; exact r.append rz⟩
end
end Z

namespace Z
open PySem L2
open PyProof.Rows (envOfC)
/-! ### defs of the module, by facts; promises by name -/
def Bd (c : Zc) (fd : FuncData) (ps : List Str) (dd : List D) : Prop := ∃ (ds : List Value) (dvs : List V), Binds c.K fd ps ds ∧ Vals dvs ds ∧ Paired (fun d v => ∀ Z, RF c Z d v) dd dvs
def Bk (c : Zc) (fd : FuncData) (ps ks : List Str) (dd : List D) : Prop := ∃ (ds : List Value) (dvs : List V), KB c.K fd ps ks ds dvs ∧ Paired (fun d v => ∀ Z, RF c Z d v) dd dvs
/-- what the top has written under that name: a def, how it binds -/
structure Df (c : Zc) (mg : Str → Option Value) (x : Str) (st : Stmt) (ps : List Str) (dds : List (List D)) (kks : List (List Str × List D)) : Prop where
  ex : ∃ (f : Addr) (fd : FuncData), FunX c.K x x st f fd ∧ mg x = some (.ref f) ∧ (∀ dd ∈ dds, Bd c fd ps dd) ∧ ∀ p ∈ kks, Bk c fd ps p.1 p.2
/-- what a def promises -/
structure Cl (P : Program) (w : World) (c : Zc) (mg : Str → Option Value) (base : Heap) (k : Nat) (x : Str) (ps : List Str) (fn : Fn) (dds : List (List D)) (kks : List (List Str × List D)) : Prop where
  ex : ∃ (f : Addr) (fd : FuncData), FnG P w c.K mg base k f fd ps (spZ c ps.length fn) ∧ mg x = some (.ref f) ∧ PySem.W.keepIn c.K (.ref f) = true ∧ (∀ dd ∈ dds, Bd c fd ps dd) ∧ ∀ p ∈ kks, Bk c fd ps p.1 p.2
section
variable {P : Program} {w : World} {c : Zc} {mg : Str → Option Value} {base : Heap}
theorem cl_of {x : Str} {st : Stmt} {N ps : List Str} {dds : List (List D)} {kks : List (List Str × List D)} {k : Nat} {body : M Fl} (D0 : Df c mg x st ps dds kks) (S0 : FnScope N ps (defScope st)) (hn : ps.length ≤ N.length)
    (hb : ∀ (f : Addr) (cdv : Value) (A : Around) (outer : List Env) (s : Shared) (H : Hp) (E : XK) (W : WX), Rg k (A.deeper (envOfC x (defScope st) s.heap.objs.size f cdv)) → Takes (cxOf (L2.CX P w) P w c.K mg base N x (defScope st) f cdv A outer s H E) W →
      ZSs (cxOf (L2.CX P w) P w c.K mg base N x (defScope st) f cdv A outer s H E) c N.length W (defBody st) body) : Cl P w c mg base (k + 1) x ps (fnOf N.length body) dds kks := by
  obtain ⟨f, fd, F0, hm, h1, h2⟩ := D0.ex
  exact ⟨f, fd, ok_fn F0 S0 hn (hb f), hm, F0.kp, h1, h2⟩
end
section
variable {K : PySem.W.Frag} {c : Zc} {h : Heap} {mg : Str → Option Value}
theorem df_mk {x : Str} {st : Stmt} {ps : List Str} {dds : List (List D)} {kks : List (List Str × List D)} {f : Addr} {oc : Value} {od an : Option Addr} {osl : Array (Option Value)} {kV doc pm cdv ct : Value} (X0 : c.K.In h) (G0 : h.Ns PySem.mainGlobals mg) (a : PySem.W.nsIn c.K PySem.mainGlobals x = some (some (.ref f)))
    (l : c.K.lookup f = some ⟨oc, od, .func (PySem.W.fnOf x x (defArgs st) (defBody st) (defScope st) .none kV doc pm an cdv ct), osl⟩) (cc : PySem.W.codeIn c.K cdv x = true) (kk : PySem.W.keepIn c.K (.ref f) = true)
    (hb : ∀ fd, Fun c.K x x st f fd → (∀ dd ∈ dds, Bd c fd ps dd) ∧ ∀ p ∈ kks, Bk c fd ps p.1 p.2) : Df c mg x st ps dds kks := by
  have F0 := fun_mk (st := st) l cc kk
  exact ⟨f, _, fx F0, PySem.W.mg_of X0 G0 a, hb _ F0⟩
theorem bd_of {x : Str} {st : Stmt} {ps : List Str} {f : Addr} {fd : FuncData} (F0 : Fun c.K x x st f fd) (hh : ∀ (kV doc pm : Value) (an : Option Addr) (cdv ct : Value) (us : List Value), us.length = ps.length → bindArgs (PySem.W.fnOf x x (defArgs st) (defBody st) (defScope st) .none kV doc pm an cdv ct) ⟨us, []⟩ = pure (ps.zip us)) : Bd c fd ps [] :=
  ⟨[], [], F0.binds hh, .nil, .nil⟩
theorem bk_of {x : Str} {st : Stmt} {ps ks : List Str} {f : Addr} {fd : FuncData} (F0 : Fun c.K x x st f fd)
    (hh : ∀ (kV doc pm : Value) (an : Option Addr) (cdv ct : Value) (us ws : List Value), (us ++ ws).length = ps.length → bindArgs (PySem.W.fnOf x x (defArgs st) (defBody st) (defScope st) .none kV doc pm an cdv ct) ⟨us, ks.zip ws⟩ = pure (ps.zip (us ++ ws))) : Bk c fd ps ks [] :=
  ⟨[], [], kb_of F0 hh, .nil⟩
end
section
variable {X : Cx} {c : Zc} {L : Nat} {W : WX} {pos : Pos}
theorem zc_ca {k j : Nat} {ps : List Str} {fn : Fn} {dds : List (List D)} {kks : List (List Str × List D)} {x : Str} {p : Pos} {e : Expr} {es : List Expr} {as : List Ag} (dd : List D) (tk : Takes X W) (C0 : Cl X.prog X.w c X.mg X.base k x ps fn dds kks) (hr : Rg j X.A) (hkj : k ≤ j) (hd : dd ∈ dds) (ha : ZGs X c L W (e :: es) as) (hK : c.K = X.K := by rfl)
    (hg : Gl X x := by rfl) (hnp : as.length + dd.length = ps.length := by rfl) (hL : okA L as = true := by rfl) (hdb : (x == ("__debug__" : Str)) = false := by decide)
    (he : starEach (e :: es) X.env = (false, eval e X.env) :: starEach es X.env := by rfl) (hpl : (backTo pos (starEach es X.env)).any (·.1) = false := by rfl) : ZE X c L W (.Call (.Name x p) (e :: es) [] pos) (mCall fn as dd) := by
  obtain ⟨K0, cl0⟩ := c
  cases hK
  obtain ⟨f, fd, F0, hm, hk, h1, _⟩ := C0.ex
  obtain ⟨ds, dvs, b1, b2, b3⟩ := h1 dd hd
  exact ze_call tk F0 (hr.mono hkj) hg hm hk b1 b2 b3 ha hnp hL hdb he hpl
theorem zc_ca0 {k j : Nat} {ps : List Str} {fn : Fn} {dds : List (List D)} {kks : List (List Str × List D)} {x : Str} {p : Pos} (dd : List D) (tk : Takes X W) (C0 : Cl X.prog X.w c X.mg X.base k x ps fn dds kks) (hr : Rg j X.A) (hkj : k ≤ j) (hd : dd ∈ dds) (hK : c.K = X.K := by rfl)
    (hg : Gl X x := by rfl) (hnp : dd.length = ps.length := by rfl) (hdb : (x == ("__debug__" : Str)) = false := by decide) : ZE X c L W (.Call (.Name x p) [] [] pos) (mCall fn [] dd) := by
  obtain ⟨K0, cl0⟩ := c
  cases hK
  obtain ⟨f, fd, F0, hm, hk, h1, _⟩ := C0.ex
  obtain ⟨ds, dvs, b1, b2, b3⟩ := h1 dd hd
  exact ze_call0 tk F0 (hr.mono hkj) hg hm hk b1 b2 b3 hnp hdb
theorem zc_kw0 {k j : Nat} {ps ks : List Str} {fn : Fn} {dds : List (List D)} {kks : List (List Str × List D)} {x : Str} {p : Pos} {kws : List Keyword} {as : List Ag} (dd : List D) (tk : Takes X W) (C0 : Cl X.prog X.w c X.mg X.base k x ps fn dds kks) (hr : Rg j X.A) (hkj : k ≤ j) (hd : (ks, dd) ∈ kks) (ha : ZK X c L W kws as) (hK : c.K = X.K := by rfl)
    (hg : Gl X x := by rfl) (hnp : as.length + dd.length = ps.length := by rfl) (hL : okA L as = true := by rfl) (hdb : (x == ("__debug__" : Str)) = false := by decide)
    (hall : (backToKw pos (keywordEach kws X.env)).all (·.1.isSome) = true := by rfl) (hks : (backToKw pos (keywordEach kws X.env)).filterMap (·.1) = ks := by rfl)
    (hpl : ((backTo pos (starEach [] X.env)).any (·.1) || (backToKw pos (keywordEach kws X.env)).any (·.1.isNone)) = false := by rfl) : ZE X c L W (.Call (.Name x p) [] kws pos) (mCall fn as dd) := by
  obtain ⟨K0, cl0⟩ := c
  cases hK
  obtain ⟨f, fd, F0, hm, hk, _, h1⟩ := C0.ex
  obtain ⟨ds, dvs, b1, b3⟩ := h1 _ hd
  exact ze_kw0 tk F0 (hr.mono hkj) hg hm hk b1 b3 ha hnp hL hdb hall hks hpl
theorem zc_kw {k j : Nat} {ps ks : List Str} {fn : Fn} {dds : List (List D)} {kks : List (List Str × List D)} {x : Str} {p : Pos} {e : Expr} {es : List Expr} {kws : List Keyword} {as bs : List Ag} (dd : List D) (tk : Takes X W) (C0 : Cl X.prog X.w c X.mg X.base k x ps fn dds kks) (hr : Rg j X.A) (hkj : k ≤ j) (hd : (ks, dd) ∈ kks) (ha : ZGs X c L W (e :: es) as) (hkw : ZK X c L W kws bs) (hK : c.K = X.K := by rfl)
    (hg : Gl X x := by rfl) (hnp : (as ++ bs).length + dd.length = ps.length := by rfl) (hL : okA L (as ++ bs) = true := by rfl) (hdb : (x == ("__debug__" : Str)) = false := by decide)
    (hall : (backToKw pos (keywordEach kws X.env)).all (·.1.isSome) = true := by rfl) (hks : (backToKw pos (keywordEach kws X.env)).filterMap (·.1) = ks := by rfl) (he : starEach (e :: es) X.env = (false, eval e X.env) :: starEach es X.env := by rfl)
    (hpl : ((backTo pos (starEach (e :: es) X.env)).any (·.1) || (backToKw pos (keywordEach kws X.env)).any (·.1.isNone)) = false := by rfl) : ZE X c L W (.Call (.Name x p) (e :: es) kws pos) (mCall fn (as ++ bs) dd) := by
  obtain ⟨K0, cl0⟩ := c
  cases hK
  obtain ⟨f, fd, F0, hm, hk, _, h1⟩ := C0.ex
  obtain ⟨ds, dvs, b1, b3⟩ := h1 _ hd
  exact ze_kw tk F0 (hr.mono hkj) hg hm hk b1 b3 ha hkw hnp hL hdb hall hks he hpl
/-! ### names in short -/
theorem vE (i : Nat) {x : Str} (hN : X.N[i]? = some x := by rfl) (hv : Vis X.env.scope x := by first | exact Or.inl rfl | exact Or.inr (Or.inl rfl) | exact Or.inr (Or.inr rfl)) (hi : i < L := by decide) (hd : (x == ("__debug__" : Str)) = false := by decide) (hcd : (x == ("__classdict__" : Str)) = false := by decide) : ZE X c L W (.Name x pos) (mNm i) := ze_nm hN hv hi hd hcd
theorem vO (i : Nat) {x : Str} (hN : X.N[i]? = some x := by rfl) (hv : Vis X.env.scope x := by first | exact Or.inl rfl | exact Or.inr (Or.inl rfl) | exact Or.inr (Or.inr rfl)) (hd : (x == ("__debug__" : Str)) = false := by decide) (hcd : (x == ("__classdict__" : Str)) = false := by decide) : ZO X c L W (.Name x pos) (.nm i) := zo_nm hN hv hd hcd
theorem vG (i : Nat) {x : Str} (hN : X.N[i]? = some x := by rfl) (hv : Vis X.env.scope x := by first | exact Or.inl rfl | exact Or.inr (Or.inl rfl) | exact Or.inr (Or.inr rfl)) (hd : (x == ("__debug__" : Str)) = false := by decide) (hcd : (x == ("__classdict__" : Str)) = false := by decide) : ZG X c L W (.Name x pos) (.bo i) := zg_bo hN hv hd hcd
theorem ze_gl {x : Str} {v : V} {u : Value} {d : D} (hm : X.mg x = some u) (r : RelV v u) (h : ∀ Z, RF c Z d v) (hg : Gl X x := by rfl) (hd : (x == ("__debug__" : Str)) = false := by decide) : ZE X c L W (.Name x pos) (mC d) := ze_c (pe_glob hg hm r hd) h
/-- what stands under a global name -/
def Gv (c : Zc) (mg : Str → Option Value) (x : Str) (d : D) : Prop := ∃ (v : V) (u : Value), mg x = some u ∧ RelV v u ∧ ∀ Z, RF c Z d v
theorem ze_gv {x : Str} {d : D} (h : Gv c X.mg x d) (hg : Gl X x := by rfl) (hd : (x == ("__debug__" : Str)) = false := by decide) : ZE X c L W (.Name x pos) (mC d) := by
  obtain ⟨v, u, h1, h2, h3⟩ := h
  exact ze_gl h1 h2 h3 hg hd
theorem zp_nm {i : Nat} {x : Str} (hN : X.N.Nodup) (hi : X.N[i]? = some x := by rfl) (hx : Loc X.env.scope x := by first | exact Or.inl rfl | exact Or.inr rfl) (hf : X.fn x = true ∨ X.env.scope.names.lookup x = some .local := by first | exact .inl rfl | exact .inr rfl) : PG X (.Name x pos) (gName i) := pg_name hN hi hx hf
theorem vS (i : Nat) {x : Str} {e : Expr} {m : M T} {pos' : Pos} (hN : X.N.Nodup) (he : ZE X c L W e m) (hi : X.N[i]? = some x := by rfl) (hx : Loc X.env.scope x := by first | exact Or.inl rfl | exact Or.inr rfl) (hL : i < L := by decide) (hs : swapsWith e (some (.Name x pos')) pos.line X.env = pure false := by rfl)
    (hf : X.fn x = true ∨ X.env.scope.names.lookup x = some .local := by first | exact .inl rfl | exact .inr rfl) : ZS X c L W (.Assign [.Name x pos'] e pos) (mAsg i m) := zs_asg hN hi hx he hL hs hf
/-! ### built-ins -/
theorem b_len {e : Expr} {o : Opd} {p : Pos} (hm : X.mg "len" = none) (ha : ZO X c L W e o) (hK : c.K = X.K := by rfl) (hg : Gl X "len" := by rfl) (hL : okL L [o] = true := by rfl) (he : starEach [e] X.env = [(false, eval e X.env)] := by rfl) : ZE X c L W (.Call (.Name "len" p) [e] [] pos) (mOp fLen [o]) :=
  ze_cb (crLen hK) ruLen hg hm PySem.boot_len (zos_cons ha zos_nil he) hL (he := he)
theorem b_abs {e : Expr} {o : Opd} {p : Pos} (hm : X.mg "abs" = none) (ha : ZO X c L W e o) (hg : Gl X "abs" := by rfl) (hL : okL L [o] = true := by rfl) (he : starEach [e] X.env = [(false, eval e X.env)] := by rfl) : ZE X c L W (.Call (.Name "abs" p) [e] [] pos) (mOp fAbs [o]) :=
  ze_cb call_abs ruAbs hg hm (by decide +kernel) (zos_cons ha zos_nil he) hL (he := he)
theorem b_all {e : Expr} {o : Opd} {p : Pos} (hm : X.mg "all" = none) (ha : ZO X c L W e o) (hK : c.K = X.K := by rfl) (hc : X.calm = true := by rfl) (hg : Gl X "all" := by rfl) (hL : okL L [o] = true := by rfl) (he : starEach [e] X.env = [(false, eval e X.env)] := by rfl) : ZE X c L W (.Call (.Name "all" p) [e] [] pos) (mOp fAll [o]) :=
  ze_cb (hK ▸ cr_all hc) ruAll hg hm (by decide +kernel) (zos_cons ha zos_nil he) hL (he := he)
theorem b_any {e : Expr} {o : Opd} {p : Pos} (hm : X.mg "any" = none) (ha : ZO X c L W e o) (hK : c.K = X.K := by rfl) (hc : X.calm = true := by rfl) (hg : Gl X "any" := by rfl) (hL : okL L [o] = true := by rfl) (he : starEach [e] X.env = [(false, eval e X.env)] := by rfl) : ZE X c L W (.Call (.Name "any" p) [e] [] pos) (mOp fAny [o]) :=
  ze_cb (hK ▸ cr_any hc) ruAny hg hm (by decide +kernel) (zos_cons ha zos_nil he) hL (he := he)
theorem b_int {e : Expr} {o : Opd} {p : Pos} (hm : X.mg "int" = none) (ha : ZO X c L W e o) (hg : Gl X "int" := by rfl) (hL : okL L [o] = true := by rfl) (he : starEach [e] X.env = [(false, eval e X.env)] := by rfl) : ZE X c L W (.Call (.Name "int" p) [e] [] pos) (mOp fInt [o]) :=
  ze_ct call_int1 ruInt hg hm (by decide +kernel) (zos_cons ha zos_nil he) hL (he := he)
theorem b_list {e : Expr} {o : Opd} {p : Pos} (hm : X.mg "list" = none) (ha : ZO X c L W e o) (hK : c.K = X.K := by rfl) (hg : Gl X "list" := by rfl) (hL : okL L [o] = true := by rfl) (he : starEach [e] X.env = [(false, eval e X.env)] := by rfl) : ZE X c L W (.Call (.Name "list" p) [e] [] pos) (mOp fList [o]) :=
  ze_ct (hK ▸ call_list_of) ruList hg hm (by decide +kernel) (zos_cons ha zos_nil he) hL (he := he)
theorem b_tuple {e : Expr} {o : Opd} {p : Pos} (hm : X.mg "tuple" = none) (ha : ZO X c L W e o) (hK : c.K = X.K := by rfl) (hg : Gl X "tuple" := by rfl) (hL : okL L [o] = true := by rfl) (he : starEach [e] X.env = [(false, eval e X.env)] := by rfl) : ZE X c L W (.Call (.Name "tuple" p) [e] [] pos) (mOp fTup [o]) :=
  ze_ct (hK ▸ call_tuple_of) ruTup hg hm (by decide +kernel) (zos_cons ha zos_nil he) hL (he := he)
theorem b_isi {e : Expr} {o : Opd} {p tp : Pos} {tx : Str} {Tn : String} (hm : X.mg "isinstance" = none) (ht : X.mg tx = none) (hb : bootBuiltins tx = some (.type Tn)) (ho : ZO X c L W e o) (hK : c.K = X.K := by rfl) (hg : Gl X "isinstance" := by rfl) (hgt : Gl X tx := by rfl) (hL : okL L [o] = true := by rfl)
    (hn : tx ≠ "__name__" := by decide) (hdb : (tx == ("__debug__" : Str)) = false := by decide)
    (h1 : starEach [e, .Name tx tp] X.env = (false, eval e X.env) :: starEach [.Name tx tp] X.env := by rfl) (h2 : starEach [.Name tx tp] X.env = (false, eval (.Name tx tp) X.env) :: starEach [] X.env := by rfl) (h3 : (backTo pos (starEach [.Name tx tp] X.env)).any (·.1) = false := by rfl) : ZE X c L W (.Call (.Name "isinstance" p) [e, .Name tx tp] [] pos) (mOp (fIsi Tn) [o]) :=
  ze_isi (x := tx) hK hg hm ho (pe_bltn hgt ht hb rfl hn hdb) hL h1 h2 h3
/-! ### text methods -/
theorem m_join {o e : Expr} {oo : Opd} {m : M T} {apos cpos : Pos} (ho : ZO X c L W o oo) (he : ZE X c L W e m) (hK : c.K = X.K := by rfl) (hL : okL L [oo] = true := by rfl) (hbase : attributeBase o "join" X.env (eval o X.env) = eval o X.env := by rfl)
    (hfew : ((backTo cpos (starEach [e] X.env)).all (fun x => !x.1) && (backToKw cpos (keywordEach [] X.env)).all (fun x => x.1.isSome) && decide ([e].length + ([] : List Keyword).length + (if ([] : List Keyword).isEmpty then 0 else 1) < 30)) = true := by rfl)
    (hline : (apos.endLine == cpos.line) = true := by rfl) (hs : starEach [e] X.env = [(false, eval e X.env)] := by rfl) : ZE X c L W (.Call (.Attribute o "join" apos) [e] [] cpos) (mBm fJoin oo [m]) :=
  ze_bm PySem.F.slot_str_join PySem.F.type_str_join (hK ▸ mt_join) ruJoin ho (za_cons he za_nil hs) hL hbase hfew hline hs
theorem m_split {o e : Expr} {oo : Opd} {m : M T} {apos cpos : Pos} (ho : ZO X c L W o oo) (he : ZE X c L W e m) (hL : okL L [oo] = true := by rfl) (hbase : attributeBase o "split" X.env (eval o X.env) = eval o X.env := by rfl)
    (hfew : ((backTo cpos (starEach [e] X.env)).all (fun x => !x.1) && (backToKw cpos (keywordEach [] X.env)).all (fun x => x.1.isSome) && decide ([e].length + ([] : List Keyword).length + (if ([] : List Keyword).isEmpty then 0 else 1) < 30)) = true := by rfl)
    (hline : (apos.endLine == cpos.line) = true := by rfl) (hs : starEach [e] X.env = [(false, eval e X.env)] := by rfl) : ZE X c L W (.Call (.Attribute o "split" apos) [e] [] cpos) (mBm fSplit oo [m]) :=
  ze_bm PySem.F.slot_str_split PySem.F.type_str_split mt_split ruSplit ho (za_cons he za_nil hs) hL hbase hfew hline hs
end
end Z

namespace Z
open PySem L2
theorem mem_ix {α : Type} {l : List α} {i : Nat} {x : α} (h : l[i]? = some x) : x ∈ l := List.mem_of_getElem? h
def fNeg : F
  | [(.int i, _)] => some (.int (-i), 0)
  | _ => none
section
variable {c : Zc}
theorem ruNeg : RuZ c (r1 (rU fun i => .int (-i))) fNeg := by
  intro Z H fp vs ts t Q e s h k
  match ts, e with
  | [(.int i, n)], e =>
    obtain ⟨x, rfl, hx⟩ := tre1 h
    cases e
    exact ⟨i, tre_int hx, kF s k .int⟩
end
end Z

/-! the mirrors run, by simp -/
namespace Z
open PySem L2
/-! what comes behind a first part -/
def thn1 {α β : Type} (f : α → S → R β) : R α → R β
  | .ok a s => f a s
  | .ex x s => .ex x s
  | .no => .no
@[simp] theorem thn1_ok {α β : Type} {f : α → S → R β} {a : α} {s : S} : thn1 f (.ok a s) = f a s := rfl
@[simp] theorem thn1_ex {α β : Type} {f : α → S → R β} {x : Ex} {s : S} : thn1 f (.ex x s) = .ex x s := rfl
@[simp] theorem thn1_no {α β : Type} {f : α → S → R β} : thn1 f .no = .no := rfl
def fromO {α : Type} (s : S) : Option α → R α
  | some a => .ok a s
  | none => .no
@[simp] theorem fromO_some {α : Type} {s : S} {a : α} : fromO s (some a) = .ok a s := rfl
@[simp] theorem fromO_none {α : Type} {s : S} : fromO s (none : Option α) = .no := rfl

/-! slots -/
@[simp] theorem tre_0o {d : D} {n : Nat} {r : S} : tre (.ow d n :: r) 0 = some (d, n) := rfl
theorem loc_def {s : S} {i : Nat} : loc s i = match s[i]? with | some (.pa j) => j | _ => i := rfl
theorem tre_def {s : S} {i : Nat} : tre s i = at' s (loc s i) := rfl
theorem at_def {s : S} {j : Nat} : at' s j = match s[j]? with | some (.ow d n) => some (d, n) | _ => none := rfl

/-! operands -/
def evK1 (h : Option T) : R (List (Option T)) → R (List (Option T)) := thn1 fun hs s => .ok (h :: hs) s
def evK (os : List Opd) : R (Option T) → R (List (Option T)) := thn1 fun h s => evK1 h (evs os s)
@[simp] theorem evK1_ok {h : Option T} {hs : List (Option T)} {s : S} : evK1 h (.ok hs s) = .ok (h :: hs) s := rfl
@[simp] theorem evK1_ex {h : Option T} {x : Ex} {s : S} : evK1 h (.ex x s) = .ex x s := rfl
@[simp] theorem evK_ok {os : List Opd} {h : Option T} {s : S} : evK os (.ok h s) = evK1 h (evs os s) := rfl
@[simp] theorem evK_ex {os : List Opd} {x : Ex} {s : S} : evK os (.ex x s) = .ex x s := rfl
@[simp] theorem evs_nil {s : S} : evs [] s = .ok [] s := rfl
@[simp] theorem evs_cons {o : Opd} {os : List Opd} {s : S} : evs (o :: os) s = evK os (o.ev s) := by
  show evs (o :: os) s = _
  unfold evs evK evK1
  cases o.ev s with
  | no => rfl
  | ex x s => rfl
  | ok h s =>
    show _ = thn1 _ (evs os s)
    simp only
    cases evs os s <;> rfl
def nmK (s : S) : Option T → R (Option T)
  | some _ => .ok none s
  | none => .no
@[simp] theorem nmK_some {s : S} {t : T} : nmK s (some t) = .ok none s := rfl
def tmK : R T → R (Option T) := thn1 fun t s => .ok (some t) s
@[simp] theorem tmK_ok {t : T} {s : S} : tmK (.ok t s) = .ok (some t) s := rfl
@[simp] theorem tmK_ex {x : Ex} {s : S} : tmK (.ex x s) = .ex x s := rfl
@[simp] theorem ev_nm {i : Nat} {s : S} : (Opd.nm i).ev s = nmK s (tre s i) := by
  show (match tre s i with | some _ => _ | none => _) = _
  cases tre s i <;> rfl
@[simp] theorem ev_tm {m : M T} {s : S} : (Opd.tm m).ev s = tmK (m s) := by
  show (match m s with | .ok t s' => _ | .ex x s' => _ | .no => _) = _
  cases m s <;> rfl
def geK (t : Option T) (o : Option (List T)) : Option (List T) := match t, o with
  | some t, some ts => some (t :: ts)
  | _, _ => none
@[simp] theorem geK_some {t : T} {ts : List T} : geK (some t) (some ts) = some (t :: ts) := rfl
@[simp] theorem gets_nil {s : S} : gets [] [] s = some [] := rfl
@[simp] theorem gets_nm {i : Nat} {os : List Opd} {hs : List (Option T)} {s : S} : gets (.nm i :: os) (none :: hs) s = geK (tre s i) (gets os hs s) := by
  show (match tre s i with | some t => _ | none => _) = _
  cases tre s i <;> cases gets os hs s <;> rfl
@[simp] theorem gets_tm {m : M T} {os : List Opd} {t : T} {hs : List (Option T)} {s : S} : gets (.tm m :: os) (some t :: hs) s = geK (some t) (gets os hs s) := by
  show (gets os hs s).map _ = _
  cases gets os hs s <;> rfl
def opK1 (f : F) (s : S) : Option (List T) → R T
  | some ts => fromO s (f ts)
  | none => .no
def opK (f : F) (os : List Opd) : R (List (Option T)) → R T := thn1 fun hs s => opK1 f s (gets os hs s)
@[simp] theorem opK1_some {f : F} {s : S} {ts : List T} : opK1 f s (some ts) = fromO s (f ts) := rfl
@[simp] theorem opK_ok {f : F} {os : List Opd} {hs : List (Option T)} {s : S} : opK f os (.ok hs s) = opK1 f s (gets os hs s) := rfl
@[simp] theorem opK_ex {f : F} {os : List Opd} {x : Ex} {s : S} : opK f os (.ex x s) = .ex x s := rfl
@[simp] theorem mOp_eq {f : F} {os : List Opd} {s : S} : mOp f os s = opK f os (evs os s) := by
  unfold mOp opK
  cases evs os s with
  | no => rfl
  | ex x s => rfl
  | ok hs s =>
    show (match gets os hs s with | some ts => _ | none => _) = opK1 f s (gets os hs s)
    cases gets os hs s with
    | none => rfl
    | some ts =>
      show (match f ts with | some ts => _ | none => _) = fromO s (f ts)
      cases f ts <;> rfl
/-! values one after another -/
def emK1 (t : T) : R (List T) → R (List T) := thn1 fun hs s => .ok (t :: hs) s
def emK (ms : List (M T)) : R T → R (List T) := thn1 fun h s => emK1 h (evm ms s)
@[simp] theorem emK1_ok {h : T} {hs : List T} {s : S} : emK1 h (.ok hs s) = .ok (h :: hs) s := rfl
@[simp] theorem emK1_ex {h : T} {x : Ex} {s : S} : emK1 h (.ex x s) = .ex x s := rfl
@[simp] theorem emK_ok {os : List (M T)} {h : T} {s : S} : emK os (.ok h s) = emK1 h (evm os s) := rfl
@[simp] theorem emK_ex {os : List (M T)} {x : Ex} {s : S} : emK os (.ex x s) = .ex x s := rfl
@[simp] theorem evm_nil {s : S} : evm [] s = .ok [] s := rfl
@[simp] theorem evm_cons {m : M T} {ms : List (M T)} {s : S} : evm (m :: ms) s = emK ms (m s) := by
  show evm (m :: ms) s = _
  unfold evm emK emK1
  cases m s with
  | no => rfl
  | ex x s => rfl
  | ok h s =>
    show _ = thn1 _ (evm ms s)
    simp only
    cases evm ms s <;> rfl
def nmV (s : S) (i : Nat) : Option T → R T
  | some (d, 0) => .ok (d, 0) s
  | some (d, _ + 1) => .ok (d, 0) (s.set (loc s i) (.ow d 0))
  | none => .no
@[simp] theorem nmV_0 {s : S} {i : Nat} {d : D} : nmV s i (some (d, 0)) = .ok (d, 0) s := rfl
@[simp] theorem nmV_1 {s : S} {i : Nat} {d : D} : nmV s i (some (d, 1)) = .ok (d, 0) (s.set (loc s i) (.ow d 0)) := rfl
@[simp] theorem mNm_eq {i : Nat} {s : S} : mNm i s = nmV s i (tre s i) := by
  unfold mNm nmV
  cases tre s i with
  | none => rfl
  | some t =>
    obtain ⟨d, n⟩ := t
    cases n <;> rfl
@[simp] theorem mC_eq {d : D} {s : S} : mC d s = .ok (d, 0) s := rfl
def tuK : R (List T) → R T := thn1 fun ts s => .ok (.tup (ts.map (·.1)), 0) s
def lsK : R (List T) → R T := thn1 fun ts s => .ok (.lst (ts.map (·.1)), 1) s
@[simp] theorem tuK_ok {ts : List T} {s : S} : tuK (.ok ts s) = .ok (.tup (ts.map (·.1)), 0) s := rfl
@[simp] theorem lsK_ok {ts : List T} {s : S} : lsK (.ok ts s) = .ok (.lst (ts.map (·.1)), 1) s := rfl
@[simp] theorem tuK_ex {x : Ex} {s : S} : tuK (.ex x s) = .ex x s := rfl
@[simp] theorem lsK_ex {x : Ex} {s : S} : lsK (.ex x s) = .ex x s := rfl
@[simp] theorem mTup_eq {ms : List (M T)} {s : S} : mTup ms s = tuK (evm ms s) := by unfold mTup tuK; cases evm ms s <;> rfl
@[simp] theorem mLst_eq {ms : List (M T)} {s : S} : mLst ms s = lsK (evm ms s) := by unfold mLst lsK; cases evm ms s <;> rfl
/-! tests -/
def bK : R T → R Bool
  | .ok (.bl b, _) s => .ok b s
  | .ok _ _ => .no
  | .ex x s => .ex x s
  | .no => .no
@[simp] theorem bK_ok {b : Bool} {n : Nat} {s : S} : bK (.ok (.bl b, n) s) = .ok b s := rfl
@[simp] theorem bK_ex {x : Ex} {s : S} : bK (.ex x s) = .ex x s := rfl
@[simp] theorem mB_eq {m : M T} {s : S} : mB m s = bK (m s) := by
  unfold mB bK
  cases m s with
  | ok t s => obtain ⟨d, n⟩ := t; cases d <;> rfl
  | _ => rfl
def trK1 (s : S) : Option (List T) → R Bool
  | some [t] => fromO s (truT t)
  | _ => .no
def trK (o : Opd) : R (List (Option T)) → R Bool := thn1 fun hs s => trK1 s (gets [o] hs s)
@[simp] theorem trK1_some {s : S} {t : T} : trK1 s (some [t]) = fromO s (truT t) := rfl
@[simp] theorem trK_ok {o : Opd} {hs : List (Option T)} {s : S} : trK o (.ok hs s) = trK1 s (gets [o] hs s) := rfl
@[simp] theorem trK_ex {o : Opd} {x : Ex} {s : S} : trK o (.ex x s) = .ex x s := rfl
@[simp] theorem mTru_eq {o : Opd} {s : S} : mTru o s = trK o (evs [o] s) := by
  unfold mTru trK
  cases evs [o] s with
  | no => rfl
  | ex x s => rfl
  | ok hs s =>
    show _ = trK1 s (gets [o] hs s)
    simp only
    cases gets [o] hs s with
    | none => rfl
    | some ts =>
      match ts with
      | [] => rfl
      | [t] =>
        show (match truT t with | some b => _ | none => _) = fromO s (truT t)
        cases truT t <;> rfl
      | _ :: _ :: _ => rfl
@[simp] theorem truT_non {n : Nat} : truT (.non, n) = some false := rfl
@[simp] theorem truT_bl {b : Bool} {n : Nat} : truT (.bl b, n) = some b := rfl
@[simp] theorem truT_int {i : Int} {n : Nat} : truT (.int i, n) = some (i != 0) := rfl
@[simp] theorem truT_lst {xs : List D} {n : Nat} : truT (.lst xs, n) = some (!xs.isEmpty) := rfl
@[simp] theorem truT_tup {xs : List D} {n : Nat} : truT (.tup xs, n) = some (!xs.isEmpty) := rfl
@[simp] theorem truT_rol {xs : List D} {n : Nat} : truT (.rol xs, n) = some (!xs.isEmpty) := rfl
def anK (b : M Bool) : R Bool → R Bool
  | .ok true s => b s
  | r => r
def orK (b : M Bool) : R Bool → R Bool
  | .ok false s => b s
  | r => r
def noK : R Bool → R Bool
  | .ok b s => .ok (!b) s
  | r => r
@[simp] theorem anK_t {b : M Bool} {s : S} : anK b (.ok true s) = b s := rfl
@[simp] theorem anK_f {b : M Bool} {s : S} : anK b (.ok false s) = .ok false s := rfl
@[simp] theorem anK_ex {b : M Bool} {x : Ex} {s : S} : anK b (.ex x s) = .ex x s := rfl
@[simp] theorem orK_t {b : M Bool} {s : S} : orK b (.ok true s) = .ok true s := rfl
@[simp] theorem orK_f {b : M Bool} {s : S} : orK b (.ok false s) = b s := rfl
@[simp] theorem orK_ex {b : M Bool} {x : Ex} {s : S} : orK b (.ex x s) = .ex x s := rfl
@[simp] theorem noK_ok {b : Bool} {s : S} : noK (.ok b s) = .ok (!b) s := rfl
@[simp] theorem noK_ex {x : Ex} {s : S} : noK (.ex x s) = .ex x s := rfl
@[simp] theorem mAndT_eq {a b : M Bool} {s : S} : mAndT a b s = anK b (a s) := by
  unfold mAndT anK
  cases a s with
  | ok k s => cases k <;> rfl
  | _ => rfl
@[simp] theorem mOrT_eq {a b : M Bool} {s : S} : mOrT a b s = orK b (a s) := by
  unfold mOrT orK
  cases a s with
  | ok k s => cases k <;> rfl
  | _ => rfl
@[simp] theorem mNotT_eq {a : M Bool} {s : S} : mNotT a s = noK (a s) := by unfold mNotT noK; cases a s <;> rfl
def anV (b : M T) : R T → R T
  | .ok (.bl true, _) s => b s
  | .ok (.bl false, _) s => .ok (.bl false, 0) s
  | .ok _ _ => .no
  | r => r
def orV (b : M T) : R T → R T
  | .ok (.bl false, _) s => b s
  | .ok (.bl true, _) s => .ok (.bl true, 0) s
  | .ok _ _ => .no
  | r => r
def noV : R T → R T
  | .ok (.bl b, _) s => .ok (.bl (!b), 0) s
  | .ok _ _ => .no
  | r => r
@[simp] theorem anV_t {b : M T} {n : Nat} {s : S} : anV b (.ok (.bl true, n) s) = b s := rfl
@[simp] theorem anV_f {b : M T} {n : Nat} {s : S} : anV b (.ok (.bl false, n) s) = .ok (.bl false, 0) s := rfl
@[simp] theorem anV_ex {b : M T} {x : Ex} {s : S} : anV b (.ex x s) = .ex x s := rfl
@[simp] theorem orV_t {b : M T} {n : Nat} {s : S} : orV b (.ok (.bl true, n) s) = .ok (.bl true, 0) s := rfl
@[simp] theorem orV_f {b : M T} {n : Nat} {s : S} : orV b (.ok (.bl false, n) s) = b s := rfl
@[simp] theorem orV_ex {b : M T} {x : Ex} {s : S} : orV b (.ex x s) = .ex x s := rfl
@[simp] theorem noV_ok {b : Bool} {n : Nat} {s : S} : noV (.ok (.bl b, n) s) = .ok (.bl (!b), 0) s := rfl
@[simp] theorem mAnd_eq {a b : M T} {s : S} : mAnd a b s = anV b (a s) := by
  unfold mAnd anV
  cases a s with
  | ok t s =>
    obtain ⟨d, n⟩ := t
    cases d with
    | bl k => cases k <;> rfl
    | _ => rfl
  | _ => rfl
@[simp] theorem mOr_eq {a b : M T} {s : S} : mOr a b s = orV b (a s) := by
  unfold mOr orV
  cases a s with
  | ok t s =>
    obtain ⟨d, n⟩ := t
    cases d with
    | bl k => cases k <;> rfl
    | _ => rfl
  | _ => rfl
@[simp] theorem mNot_eq {a : M T} {s : S} : mNot a s = noV (a s) := by
  unfold mNot noV
  cases a s with
  | ok t s =>
    obtain ⟨d, n⟩ := t
    cases d <;> rfl
  | _ => rfl
def ifK {α : Type} (a b : M α) : R Bool → R α
  | .ok true s => a s
  | .ok false s => b s
  | .ex x s => .ex x s
  | .no => .no
@[simp] theorem ifK_t {α : Type} {a b : M α} {s : S} : ifK a b (.ok true s) = a s := rfl
@[simp] theorem ifK_f {α : Type} {a b : M α} {s : S} : ifK a b (.ok false s) = b s := rfl
@[simp] theorem ifK_ex {α : Type} {a b : M α} {x : Ex} {s : S} : ifK a b (.ex x s) = .ex x s := rfl
theorem ifK_ok {α : Type} {a b : M α} {k : Bool} {s : S} : ifK a b (.ok k s) = if k = true then a s else b s := by cases k <;> rfl
@[simp] theorem mIf_eq {t : M Bool} {a b : M T} {s : S} : mIf t a b s = ifK a b (t s) := by
  unfold mIf ifK
  cases t s with
  | ok k s => cases k <;> rfl
  | _ => rfl
@[simp] theorem mIfS_eq {t : M Bool} {a b : M Fl} {s : S} : mIfS t a b s = ifK a b (t s) := by
  unfold mIfS ifK
  cases t s with
  | ok k s => cases k <;> rfl
  | _ => rfl
def ntK {α : Type} (f : Int → S → R α) : R Int → R α := thn1 f
def chK2 (g' : Int → Int → Bool) (j : Int) : R Int → R T := thn1 fun k s => .ok (.bl (g' j k), 0) s
def chK1 (g g' : Int → Int → Bool) (d : M T) (i : Int) : R Int → R T := thn1 fun j s => if g i j = true then chK2 g' j (asI (d s)) else .ok (.bl false, 0) s
def chK (g g' : Int → Int → Bool) (b d : M T) : R Int → R T := thn1 fun i s => chK1 g g' d i (asI (b s))
@[simp] theorem asI_ok {i : Int} {n : Nat} {s : S} : asI (.ok (.int i, n) s) = .ok i s := rfl
@[simp] theorem asI_ex {x : Ex} {s : S} : asI (.ex x s) = .ex x s := rfl
@[simp] theorem chK_ok {g g' : Int → Int → Bool} {b d : M T} {i : Int} {s : S} : chK g g' b d (.ok i s) = chK1 g g' d i (asI (b s)) := rfl
@[simp] theorem chK1_ok {g g' : Int → Int → Bool} {d : M T} {i j : Int} {s : S} : chK1 g g' d i (.ok j s) = if g i j = true then chK2 g' j (asI (d s)) else .ok (.bl false, 0) s := rfl
@[simp] theorem chK2_ok {g' : Int → Int → Bool} {j k : Int} {s : S} : chK2 g' j (.ok k s) = .ok (.bl (g' j k), 0) s := rfl
@[simp] theorem mCh_eq {g g' : Int → Int → Bool} {a b d : M T} {s : S} : mCh g g' a b d s = chK g g' b d (asI (a s)) := by
  unfold mCh chK
  cases asI (a s) with
  | no => rfl
  | ex x s => rfl
  | ok i s =>
    show _ = chK1 g g' d i (asI (b s))
    unfold chK1
    simp only
    cases asI (b s) with
    | no => rfl
    | ex x s => rfl
    | ok j s =>
      show (if g i j = true then _ else _) = (if g i j = true then chK2 g' j (asI (d s)) else _)
      unfold chK2
      cases asI (d s) <;> rfl
/-! statements -/
def asK (i : Nat) : R T → R Fl := thn1 fun t s => if i < s.length then .ok .nx (s.set i (.ow t.1 t.2)) else .no
@[simp] theorem asK_ok {i : Nat} {t : T} {s : S} : asK i (.ok t s) = if i < s.length then .ok .nx (s.set i (.ow t.1 t.2)) else .no := rfl
@[simp] theorem asK_ex {i : Nat} {x : Ex} {s : S} : asK i (.ex x s) = .ex x s := rfl
@[simp] theorem mAsg_eq {i : Nat} {m : M T} {s : S} : mAsg i m s = asK i (m s) := by unfold mAsg asK; cases m s <;> rfl
def tgK : Option S → R Fl
  | some s => .ok .nx s
  | none => .no
@[simp] theorem tgK_some {s : S} : tgK (some s) = .ok .nx s := rfl
def afK (tg : Tg) : R T → R Fl := thn1 fun t s => tgK (tg.set t.1 s)
@[simp] theorem afK_ok {tg : Tg} {t : T} {s : S} : afK tg (.ok t s) = tgK (tg.set t.1 s) := rfl
@[simp] theorem afK_ex {tg : Tg} {x : Ex} {s : S} : afK tg (.ex x s) = .ex x s := rfl
@[simp] theorem mAsgF_eq {tg : Tg} {m : M T} {s : S} : mAsgF tg m s = afK tg (m s) := by
  unfold mAsgF afK
  cases m s with
  | ok t s =>
    show _ = tgK (tg.set t.1 s)
    simp only
    cases tg.set t.1 s <;> rfl
  | _ => rfl
@[simp] theorem tgset_nm {i : Nat} {d : D} {s : S} : Tg.set (.nm i) d s = if i < s.length then some (s.set i (.ow d 0)) else none := rfl
@[simp] theorem tgset_tp {is : List Nat} {ds : List D} {s : S} : Tg.set (.tp is) (.tup ds) s = setsF is ds s := rfl
@[simp] theorem setsF_nil {s : S} : setsF [] [] s = some s := rfl
@[simp] theorem setsF_cons {i : Nat} {is : List Nat} {d : D} {ds : List D} {s : S} : setsF (i :: is) (d :: ds) s = if i < s.length then setsF is ds (s.set i (.ow d 0)) else none := rfl
def exK : R T → R Fl := thn1 fun _ s => .ok .nx s
def reK : R T → R Fl := thn1 fun t s => .ok (.rt t) s
@[simp] theorem exK_ok {t : T} {s : S} : exK (.ok t s) = .ok .nx s := rfl
@[simp] theorem exK_ex {x : Ex} {s : S} : exK (.ex x s) = .ex x s := rfl
@[simp] theorem reK_ok {t : T} {s : S} : reK (.ok t s) = .ok (.rt t) s := rfl
@[simp] theorem reK_ex {x : Ex} {s : S} : reK (.ex x s) = .ex x s := rfl
@[simp] theorem mExpr_eq {m : M T} {s : S} : mExpr m s = exK (m s) := by unfold mExpr exK; cases m s <;> rfl
@[simp] theorem mRet_eq {m : M T} {s : S} : mRet m s = reK (m s) := by unfold mRet reK; cases m s <;> rfl
@[simp] theorem mRetN_eq {s : S} : mRetN s = .ok (.rt (.non, 0)) s := rfl
@[simp] theorem mNx_eq {s : S} : mNx s = .ok .nx s := rfl
@[simp] theorem mBk_eq {s : S} : mBk s = .ok .bk s := rfl
@[simp] theorem mCt_eq {s : S} : mCt s = .ok .ct s := rfl
def sqK (b : M Fl) : R Fl → R Fl
  | .ok .nx s => b s
  | r => r
@[simp] theorem sqK_nx {b : M Fl} {s : S} : sqK b (.ok .nx s) = b s := rfl
@[simp] theorem sqK_rt {b : M Fl} {t : T} {s : S} : sqK b (.ok (.rt t) s) = .ok (.rt t) s := rfl
@[simp] theorem sqK_bk {b : M Fl} {s : S} : sqK b (.ok .bk s) = .ok .bk s := rfl
@[simp] theorem sqK_ct {b : M Fl} {s : S} : sqK b (.ok .ct s) = .ok .ct s := rfl
@[simp] theorem sqK_ex {b : M Fl} {x : Ex} {s : S} : sqK b (.ex x s) = .ex x s := rfl
@[simp] theorem mSeq_eq {a b : M Fl} {s : S} : mSeq a b s = sqK b (a s) := by
  unfold mSeq sqK
  cases a s with
  | ok f s => cases f <;> rfl
  | _ => rfl
def paK (i j : Nat) : R (List T) → R Fl
  | .ok [t, u] s => if i < s.length ∧ j < s.length then .ok .nx ((s.set j (.ow u.1 u.2)).set i (.ow t.1 t.2)) else .no
  | .ok _ _ => .no
  | .ex x s => .ex x s
  | .no => .no
@[simp] theorem paK_ok {i j : Nat} {t u : T} {s : S} : paK i j (.ok [t, u] s) = if i < s.length ∧ j < s.length then .ok .nx ((s.set j (.ow u.1 u.2)).set i (.ow t.1 t.2)) else .no := rfl
@[simp] theorem paK_ex {i j : Nat} {x : Ex} {s : S} : paK i j (.ex x s) = .ex x s := rfl
@[simp] theorem mPar_eq {i j : Nat} {a b : M T} {s : S} : mPar i j a b s = paK i j (evm [a, b] s) := by
  unfold mPar paK
  cases evm [a, b] s with
  | ok ts s =>
    match ts with
    | [] => rfl
    | [_] => rfl
    | [_, _] => rfl
    | _ :: _ :: _ :: _ => rfl
  | _ => rfl
def seK3 (s : S) (l : Nat) : Option D → R Fl
  | some d => .ok .nx (s.set l (.ow d 1))
  | none => .no
def seK2 (i : Nat) (v : D) (s : S) : Option (List T) → Option T → R Fl
  | some [k], some (d, 1) => seK3 s (loc s i) (setD d k.1 v)
  | _, _ => .no
def seK1 (i : Nat) (o : Opd) (v : D) : R (List (Option T)) → R Fl := thn1 fun hs s => seK2 i v s (gets [o] hs s) (tre s i)
def seK0 (i : Nat) (o : Opd) (v : D) (s : S) : Option T → R Fl
  | some _ => seK1 i o v (evs [o] s)
  | none => .no
def seK (i : Nat) (o : Opd) : R T → R Fl := thn1 fun t s => seK0 i o t.1 s (tre s i)
@[simp] theorem seK_ok {i : Nat} {o : Opd} {t : T} {s : S} : seK i o (.ok t s) = seK0 i o t.1 s (tre s i) := rfl
@[simp] theorem seK_ex {i : Nat} {o : Opd} {x : Ex} {s : S} : seK i o (.ex x s) = .ex x s := rfl
@[simp] theorem seK0_some {i : Nat} {o : Opd} {v : D} {s : S} {t : T} : seK0 i o v s (some t) = seK1 i o v (evs [o] s) := rfl
@[simp] theorem seK1_ok {i : Nat} {o : Opd} {v : D} {hs : List (Option T)} {s : S} : seK1 i o v (.ok hs s) = seK2 i v s (gets [o] hs s) (tre s i) := rfl
@[simp] theorem seK1_ex {i : Nat} {o : Opd} {v : D} {x : Ex} {s : S} : seK1 i o v (.ex x s) = .ex x s := rfl
@[simp] theorem seK2_some {i : Nat} {v : D} {s : S} {k : T} {d : D} : seK2 i v s (some [k]) (some (d, 1)) = seK3 s (loc s i) (setD d k.1 v) := rfl
@[simp] theorem seK3_some {s : S} {l : Nat} {d : D} : seK3 s l (some d) = .ok .nx (s.set l (.ow d 1)) := rfl
@[simp] theorem mSet_eq {i : Nat} {o : Opd} {m : M T} {s : S} : mSet i o m s = seK i o (m s) := by
  unfold mSet seK
  cases m s with
  | no => rfl
  | ex x s => rfl
  | ok t s =>
    show _ = seK0 i o t.1 s (tre s i)
    simp only
    cases tre s i with
    | none => rfl
    | some t0 =>
      show _ = seK1 i o t.1 (evs [o] s)
      unfold seK1
      simp only
      cases evs [o] s with
      | no => rfl
      | ex x s => rfl
      | ok hs s =>
        show _ = seK2 i t.1 s (gets [o] hs s) (tre s i)
        simp only
        cases gets [o] hs s with
        | none => rfl
        | some ks =>
          match ks with
          | [] => rfl
          | [k] =>
            cases tre s i with
            | none => rfl
            | some td =>
              obtain ⟨d, n⟩ := td
              match n with
              | 0 => rfl
              | 1 =>
                show (match setD d k.1 t.1 with | some d' => _ | none => _) = seK3 s (loc s i) (setD d k.1 t.1)
                cases setD d k.1 t.1 <;> rfl
              | _ + 2 => rfl
          | _ :: _ :: _ => rfl
end Z

namespace Z
open PySem L2
/-! slices, methods -/
def ptK : R T → R (Option Int)
  | .ok (.int i, _) s => .ok (some i) s
  | .ok _ _ => .no
  | .ex x s => .ex x s
  | .no => .no
@[simp] theorem ptK_ok {i : Int} {n : Nat} {s : S} : ptK (.ok (.int i, n) s) = .ok (some i) s := rfl
@[simp] theorem mPart_none {s : S} : mPart none s = .ok none s := rfl
@[simp] theorem mPart_some {m : M T} {s : S} : mPart (some m) s = ptK (m s) := by
  show (match m s with | .ok (.int i, _) s' => R.ok (some i) s' | .ok _ _ => .no | .ex x s' => .ex x s' | .no => .no) = _
  unfold ptK
  cases m s with
  | ok t s => obtain ⟨d, n⟩ := t; cases d <;> rfl
  | _ => rfl
def slK3 (l u : Option Int) (s : S) : Option T → R T
  | some t => fromO s (slD l u t)
  | none => .no
@[simp] theorem slK3_some {l u : Option Int} {s : S} {t : T} : slK3 l u s (some t) = fromO s (slD l u t) := rfl
def slK2 (o : Opd) (hs : List (Option T)) (l : Option Int) : R (Option Int) → R T := thn1 fun u s => slK3 l u s (get1 o hs s)
def slK1 (o : Opd) (hi : Option (M T)) (hs : List (Option T)) : R (Option Int) → R T := thn1 fun l s => slK2 o hs l (mPart hi s)
def slK (o : Opd) (lo hi : Option (M T)) : R (List (Option T)) → R T := thn1 fun hs s => slK1 o hi hs (mPart lo s)
@[simp] theorem slK_ok {o : Opd} {lo hi : Option (M T)} {hs : List (Option T)} {s : S} : slK o lo hi (.ok hs s) = slK1 o hi hs (mPart lo s) := rfl
@[simp] theorem slK1_ok {o : Opd} {hi : Option (M T)} {hs : List (Option T)} {l : Option Int} {s : S} : slK1 o hi hs (.ok l s) = slK2 o hs l (mPart hi s) := rfl
@[simp] theorem slK2_ok {o : Opd} {hs : List (Option T)} {l u : Option Int} {s : S} : slK2 o hs l (.ok u s) = slK3 l u s (get1 o hs s) := rfl
@[simp] theorem get1_nm {i : Nat} {s : S} : get1 (.nm i) [none] s = tre s i := by
  unfold get1
  simp only [gets_nm, gets_nil]
  cases tre s i <;> rfl
@[simp] theorem get1_tm {m : M T} {t : T} {s : S} : get1 (.tm m) [some t] s = some t := rfl
@[simp] theorem mSl_eq {o : Opd} {lo hi : Option (M T)} {s : S} : mSl o lo hi s = slK o lo hi (evs [o] s) := by
  unfold mSl slK
  cases evs [o] s with
  | no => rfl
  | ex x s => rfl
  | ok hs s =>
    show _ = slK1 o hi hs (mPart lo s)
    unfold slK1
    simp only
    cases mPart lo s with
    | no => rfl
    | ex x s => rfl
    | ok l s =>
      show _ = slK2 o hs l (mPart hi s)
      unfold slK2
      simp only
      cases mPart hi s with
      | no => rfl
      | ex x s => rfl
      | ok u s =>
        show _ = slK3 l u s (get1 o hs s)
        simp only
        cases get1 o hs s with
        | none => rfl
        | some t =>
          show (match slD l u t with | some t' => _ | none => _) = fromO s (slD l u t)
          cases slD l u t <;> rfl
def bmK2 (f : F) (t : T) : R (List T) → R T := thn1 fun ts s => fromO s (f (t :: ts.map fun t => (t.1, 0)))
def bmK1 (f : F) (ms : List (M T)) (s : S) : Option T → R T
  | some t => if isStr t.1 = true then bmK2 f t (evm ms s) else .no
  | none => .no
def bmK (f : F) (o : Opd) (ms : List (M T)) : R (List (Option T)) → R T := thn1 fun hs s => bmK1 f ms s (get1 o hs s)
@[simp] theorem bmK_ok {f : F} {o : Opd} {ms : List (M T)} {hs : List (Option T)} {s : S} : bmK f o ms (.ok hs s) = bmK1 f ms s (get1 o hs s) := rfl
@[simp] theorem bmK1_some {f : F} {ms : List (M T)} {s : S} {a : Str} {n : Nat} : bmK1 f ms s (some (.str a, n)) = bmK2 f (.str a, n) (evm ms s) := rfl
@[simp] theorem bmK2_ok {f : F} {t : T} {ts : List T} {s : S} : bmK2 f t (.ok ts s) = fromO s (f (t :: ts.map fun t => (t.1, 0))) := rfl
@[simp] theorem mBm_eq {f : F} {o : Opd} {ms : List (M T)} {s : S} : mBm f o ms s = bmK f o ms (evs [o] s) := by
  unfold mBm bmK
  cases evs [o] s with
  | no => rfl
  | ex x s => rfl
  | ok hs s =>
    show _ = bmK1 f ms s (get1 o hs s)
    simp only
    cases get1 o hs s with
    | none => rfl
    | some t =>
      show (if isStr t.1 = true then _ else _) = (if isStr t.1 = true then bmK2 f t (evm ms s) else _)
      unfold bmK2
      cases evm ms s with
      | ok ts s =>
        show (if isStr t.1 = true then (match f (t :: ts.map fun t => (t.1, 0)) with | some t' => _ | none => _) else _) = (if isStr t.1 = true then fromO s (f (t :: ts.map fun t => (t.1, 0))) else _)
        cases f (t :: ts.map fun t => (t.1, 0)) <;> rfl
      | _ => rfl
def muK3 (s : S) (l : Nat) : Option (D × D) → R T
  | some (d, e) => .ok (e, 0) (s.set l (.ow d 1))
  | none => .no
def muK2 (g : G) (i : Nat) (ts : List T) (s : S) : Option T → R T
  | some (d, 1) => muK3 s (loc s i) (g d (ts.map (·.1)))
  | _ => .no
def muK1 (g : G) (i : Nat) : R (List T) → R T := thn1 fun ts s => muK2 g i ts s (tre s i)
def muK (g : G) (Tn : String) (i : Nat) (ms : List (M T)) (s : S) : Option T → R T
  | some (d0, 1) => if tyOf d0 = Tn ∧ mutb d0 = true ∧ Tn ≠ "" then muK1 g i (evm ms s) else .no
  | _ => .no
@[simp] theorem muK_lst {g : G} {i : Nat} {ms : List (M T)} {s : S} {xs : List D} : muK g "list" i ms s (some (.lst xs, 1)) = muK1 g i (evm ms s) := rfl
@[simp] theorem muK_dct {g : G} {i : Nat} {ms : List (M T)} {s : S} {xs : List (Key × D)} : muK g "dict" i ms s (some (.dct xs, 1)) = muK1 g i (evm ms s) := rfl
@[simp] theorem muK1_ok {g : G} {i : Nat} {ts : List T} {s : S} : muK1 g i (.ok ts s) = muK2 g i ts s (tre s i) := rfl
@[simp] theorem muK1_ex {g : G} {i : Nat} {x : Ex} {s : S} : muK1 g i (.ex x s) = .ex x s := rfl
@[simp] theorem muK2_some {g : G} {i : Nat} {ts : List T} {s : S} {d : D} : muK2 g i ts s (some (d, 1)) = muK3 s (loc s i) (g d (ts.map (·.1))) := rfl
@[simp] theorem muK3_some {s : S} {l : Nat} {d e : D} : muK3 s l (some (d, e)) = .ok (e, 0) (s.set l (.ow d 1)) := rfl
@[simp] theorem mMut_eq {g : G} {Tn : String} {i : Nat} {ms : List (M T)} {s : S} : mMut g Tn i ms s = muK g Tn i ms s (tre s i) := by
  unfold mMut
  cases tre s i with
  | none => rfl
  | some t =>
    obtain ⟨d0, n⟩ := t
    match n with
    | 0 => rfl
    | _ + 2 => rfl
    | 1 =>
      show (if tyOf d0 = Tn ∧ mutb d0 = true ∧ Tn ≠ "" then _ else _) = (if tyOf d0 = Tn ∧ mutb d0 = true ∧ Tn ≠ "" then muK1 g i (evm ms s) else _)
      by_cases hc : tyOf d0 = Tn ∧ mutb d0 = true ∧ Tn ≠ ""
      · rw [if_pos hc, if_pos hc]
        unfold muK1
        cases evm ms s with
        | ok ts s1 =>
          show _ = muK2 g i ts s1 (tre s1 i)
          simp only
          cases tre s1 i with
          | none => rfl
          | some t =>
            obtain ⟨d, n⟩ := t
            match n with
            | 0 => rfl
            | _ + 2 => rfl
            | 1 =>
              show _ = muK3 s1 (loc s1 i) (g d (ts.map (·.1)))
              simp only
              cases g d (ts.map (·.1)) <;> rfl
        | _ => rfl
      · rw [if_neg hc, if_neg hc]
/-! calls -/
def boK (s : S) (i : Nat) : Option T → R Tk
  | some (d, 0) => .ok ((d, 0), none) s
  | some (d, n + 1) => .ok ((d, n + 1), some (loc s i)) (s.set (loc s i) .un)
  | none => .no
@[simp] theorem boK_0 {s : S} {i : Nat} {d : D} : boK s i (some (d, 0)) = .ok ((d, 0), none) s := rfl
@[simp] theorem boK_1 {s : S} {i : Nat} {d : D} : boK s i (some (d, 1)) = .ok ((d, 1), some (loc s i)) (s.set (loc s i) .un) := rfl
@[simp] theorem boK_2 {s : S} {i : Nat} {d : D} : boK s i (some (d, 2)) = .ok ((d, 2), some (loc s i)) (s.set (loc s i) .un) := rfl
def atK : R T → R Tk := thn1 fun t s => .ok (t, none) s
@[simp] theorem atK_ok {t : T} {s : S} : atK (.ok t s) = .ok (t, none) s := rfl
@[simp] theorem atK_ex {x : Ex} {s : S} : atK (.ex x s) = .ex x s := rfl
@[simp] theorem agev_bo {i : Nat} {s : S} : (Ag.bo i).ev s = boK s i (tre s i) := by
  show (match tre s i with | some (d, 0) => _ | some (d, n + 1) => _ | none => _) = _
  cases tre s i with
  | none => rfl
  | some t =>
    obtain ⟨d, n⟩ := t
    cases n <;> rfl
@[simp] theorem agev_tm {m : M T} {s : S} : (Ag.tm m).ev s = atK (m s) := by
  show (match m s with | .ok t s' => _ | .ex x s' => _ | .no => _) = _
  cases m s <;> rfl
def tkK (tk : Tk) : Option (List Tk × S) → Option (List Tk × S)
  | some (tks, s) => some (tk :: tks, s)
  | none => none
def tkB0 (as : List Ag) (hs : List (Option T)) (s : S) (i : Nat) : Option T → Option (List Tk × S)
  | some (d, 0) => tkK ((d, 0), none) (takes as hs s)
  | some (d, n + 1) => tkK ((d, n + 1), some (loc s i)) (takes as hs (s.set (loc s i) .un))
  | none => none
@[simp] theorem tkK_some {tk : Tk} {tks : List Tk} {s : S} : tkK tk (some (tks, s)) = some (tk :: tks, s) := rfl
@[simp] theorem tkB0_0 {as : List Ag} {hs : List (Option T)} {s : S} {i : Nat} {d : D} : tkB0 as hs s i (some (d, 0)) = tkK ((d, 0), none) (takes as hs s) := rfl
@[simp] theorem tkB0_1 {as : List Ag} {hs : List (Option T)} {s : S} {i : Nat} {d : D} : tkB0 as hs s i (some (d, 1)) = tkK ((d, 1), some (loc s i)) (takes as hs (s.set (loc s i) .un)) := rfl
@[simp] theorem tkB0_2 {as : List Ag} {hs : List (Option T)} {s : S} {i : Nat} {d : D} : tkB0 as hs s i (some (d, 2)) = tkK ((d, 2), some (loc s i)) (takes as hs (s.set (loc s i) .un)) := rfl
@[simp] theorem takes_nil {s : S} : takes [] [] s = some ([], s) := rfl
@[simp] theorem takes_tm {m : M T} {as : List Ag} {t : T} {hs : List (Option T)} {s : S} : takes (.tm m :: as) (some t :: hs) s = tkK (t, none) (takes as hs s) := by
  show (match takes as hs s with | some (tks, s2) => some ((t, none) :: tks, s2) | none => none) = _
  cases takes as hs s with
  | none => rfl
  | some z => rfl
@[simp] theorem takes_bo {i : Nat} {as : List Ag} {hs : List (Option T)} {s : S} : takes (.bo i :: as) (none :: hs) s = tkB0 as hs s i (tre s i) := by
  rw [takes]
  cases tre s i with
  | none => rfl
  | some t =>
    obtain ⟨d, n⟩ := t
    cases n with
    | zero => show (match takes as hs s with | some (tks, s2) => _ | none => _) = tkK _ (takes as hs s); cases takes as hs s <;> rfl
    | succ n => show (match takes as hs (s.set (loc s i) .un) with | some (tks, s2) => _ | none => _) = tkK _ (takes as hs (s.set (loc s i) .un)); cases takes as hs (s.set (loc s i) .un) <;> rfl
def eoK1 : Option (List Tk × S) → R (List Tk)
  | some (tks, s) => .ok tks s
  | none => .no
def eoK (as : List Ag) : R (List (Option T)) → R (List Tk) := thn1 fun hs s => eoK1 (takes as hs s)
@[simp] theorem eoK1_some {tks : List Tk} {s : S} : eoK1 (some (tks, s)) = .ok tks s := rfl
@[simp] theorem eoK_ok {as : List Ag} {hs : List (Option T)} {s : S} : eoK as (.ok hs s) = eoK1 (takes as hs s) := rfl
@[simp] theorem eoK_ex {as : List Ag} {x : Ex} {s : S} : eoK as (.ex x s) = .ex x s := rfl
@[simp] theorem op_tm {m : M T} : Ag.op (.tm m) = .tm m := rfl
@[simp] theorem op_bo {i : Nat} : Ag.op (.bo i) = .nm i := rfl
@[simp] theorem eva_eq {as : List Ag} {s : S} : eva as s = eoK as (evs (as.map Ag.op) s) := by
  unfold eva eoK
  cases evs (as.map Ag.op) s with
  | no => rfl
  | ex x s => rfl
  | ok hs s =>
    show (match takes as hs s with | some (tks, s2) => _ | none => _) = eoK1 (takes as hs s)
    cases takes as hs s <;> rfl
@[simp] theorem putb_nil {ts : List T} {s : S} : putb [] ts s = some s := by cases ts <;> rfl
@[simp] theorem putb_none {t t' : T} {r : List Tk} {ts : List T} {s : S} : putb ((t, none) :: r) (t' :: ts) s = putb r ts s := rfl
def pbK (r : List Tk) (t : T) (ts : List T) (s : S) (j : Nat) : Option Ce → Option S
  | some .un => putb r ts (s.set j (.ow t.1 t.2))
  | _ => none
@[simp] theorem pbK_some {r : List Tk} {t : T} {ts : List T} {s : S} {j : Nat} : pbK r t ts s j (some .un) = putb r ts (s.set j (.ow t.1 t.2)) := rfl
@[simp] theorem putb_some {t t' : T} {j : Nat} {r : List Tk} {ts : List T} {s : S} : putb ((t, some j) :: r) (t' :: ts) s = pbK r t' ts s j s[j]? := by
  show (match s[j]? with | some .un => _ | _ => _) = _
  cases s[j]? with
  | none => rfl
  | some x => cases x <;> rfl
def caK2 (t : T) : Option S → R T
  | some s => .ok t s
  | none => .no
def caX2 (x : Ex) : Option S → R T
  | some s => .ex x s
  | none => .no
@[simp] theorem caK2_some {t : T} {s : S} : caK2 t (some s) = .ok t s := rfl
@[simp] theorem caX2_some {x : Ex} {s : S} : caX2 x (some s) = .ex x s := rfl
def caK1 (tks : List Tk) (s : S) : Fr → R T
  | .ok t ts' => caK2 t (putb tks ts' s)
  | .ex x ts' => caX2 x (putb tks ts' s)
  | .no => .no
@[simp] theorem caK1_ok {tks : List Tk} {s : S} {t : T} {ts : List T} : caK1 tks s (.ok t ts) = caK2 t (putb tks ts s) := rfl
@[simp] theorem caK1_ex {tks : List Tk} {s : S} {x : Ex} {ts : List T} : caK1 tks s (.ex x ts) = caX2 x (putb tks ts s) := rfl
def caK (fn : Fn) (ds : List D) : R (List Tk) → R T := thn1 fun tks s => caK1 tks s (fn (tks.map (·.1) ++ ds.map fun d => (d, 0)))
@[simp] theorem caK_ok {fn : Fn} {ds : List D} {tks : List Tk} {s : S} : caK fn ds (.ok tks s) = caK1 tks s (fn (tks.map (·.1) ++ ds.map fun d => (d, 0))) := rfl
@[simp] theorem caK_ex {fn : Fn} {ds : List D} {x : Ex} {s : S} : caK fn ds (.ex x s) = .ex x s := rfl
@[simp] theorem mCall_eq {fn : Fn} {as : List Ag} {ds : List D} {s : S} : mCall fn as ds s = caK fn ds (eva as s) := by
  unfold mCall caK
  cases eva as s with
  | no => rfl
  | ex x s => rfl
  | ok tks s =>
    show _ = caK1 tks s (fn (tks.map (·.1) ++ ds.map fun d => (d, 0)))
    unfold caK1
    simp only
    cases fn (tks.map (·.1) ++ ds.map fun d => (d, 0)) with
    | no => rfl
    | ok t ts =>
      show (match putb tks ts s with | some s2 => _ | none => _) = caK2 t (putb tks ts s)
      cases putb tks ts s <;> rfl
    | ex t ts =>
      show (match putb tks ts s with | some s2 => _ | none => _) = caX2 t (putb tks ts s)
      cases putb tks ts s <;> rfl
def fnK1 (t : T) : Option (List T) → Fr
  | some ts => .ok t ts
  | none => .no
def fnX1 (t : Ex) : Option (List T) → Fr
  | some ts => .ex t ts
  | none => .no
@[simp] theorem fnK1_some {t : T} {ts : List T} : fnK1 t (some ts) = .ok t ts := rfl
@[simp] theorem fnX1_some {t : Ex} {ts : List T} : fnX1 t (some ts) = .ex t ts := rfl
def fnK (L : Nat) : R Fl → Fr
  | .ok .nx s => fnK1 (.non, 0) (cells (s.drop L))
  | .ok (.rt t) s => fnK1 t (cells (s.drop L))
  | .ex x s => fnX1 x (cells (s.drop L))
  | _ => .no
@[simp] theorem fnK_nx {L : Nat} {s : S} : fnK L (.ok .nx s) = fnK1 (.non, 0) (cells (s.drop L)) := rfl
@[simp] theorem fnK_rt {L : Nat} {t : T} {s : S} : fnK L (.ok (.rt t) s) = fnK1 t (cells (s.drop L)) := rfl
@[simp] theorem fnK_ex {L : Nat} {x : Ex} {s : S} : fnK L (.ex x s) = fnX1 x (cells (s.drop L)) := rfl
theorem fnOf_eq {L : Nat} {body : M Fl} {ts : List T} : fnOf L body ts = fnK L (body (st0 L ts)) := by
  unfold fnOf fnK
  cases body (st0 L ts) with
  | no => rfl
  | ex x s =>
    show (match cells (s.drop L) with | some ts' => _ | none => _) = fnX1 x (cells (s.drop L))
    cases cells (s.drop L) <;> rfl
  | ok f s =>
    cases f with
    | nx =>
      show (match cells (s.drop L) with | some ts' => _ | none => _) = fnK1 (.non, 0) (cells (s.drop L))
      cases cells (s.drop L) <;> rfl
    | rt t =>
      show (match cells (s.drop L) with | some ts' => _ | none => _) = fnK1 t (cells (s.drop L))
      cases cells (s.drop L) <;> rfl
    | _ => rfl
@[simp] theorem cells_nil : cells [] = some [] := rfl
def ceK (t : T) : Option (List T) → Option (List T)
  | some ts => some (t :: ts)
  | none => none
@[simp] theorem ceK_some {t : T} {ts : List T} : ceK t (some ts) = some (t :: ts) := rfl
@[simp] theorem cells_ow {d : D} {n : Nat} {r : S} : cells (.ow d n :: r) = ceK (d, n) (cells r) := by
  show (cells r).map _ = _
  cases cells r <;> rfl
@[simp] theorem parS_nil {L k : Nat} : parS L k [] = [] := rfl
@[simp] theorem parS_0 {L k : Nat} {d : D} {ts : List T} : parS L k ((d, 0) :: ts) = .ow d 0 :: parS L (k + 1) ts := rfl
@[simp] theorem parS_1 {L k : Nat} {d : D} {ts : List T} : parS L k ((d, 1) :: ts) = .pa (L + k) :: parS L (k + 1) ts := rfl
@[simp] theorem parS_2 {L k : Nat} {d : D} {ts : List T} : parS L k ((d, 2) :: ts) = .pa (L + k) :: parS L (k + 1) ts := rfl
/-! what is walked -/
def itK : R T → R (List D) := thn1 fun t s => fromO s (itsOf t.1)
@[simp] theorem itK_ok {t : T} {s : S} : itK (.ok t s) = fromO s (itsOf t.1) := rfl
@[simp] theorem itK_ex {x : Ex} {s : S} : itK (.ex x s) = .ex x s := rfl
@[simp] theorem mIts_eq {m : M T} {s : S} : mIts m s = itK (m s) := by
  unfold mIts itK
  cases m s with
  | ok t s =>
    show _ = fromO s (itsOf t.1)
    simp only
    cases itsOf t.1 <;> rfl
  | _ => rfl
@[simp] theorem itsOf_lst {xs : List D} : itsOf (.lst xs) = some xs := rfl
@[simp] theorem itsOf_tup {xs : List D} : itsOf (.tup xs) = some xs := rfl
@[simp] theorem itsOf_rol {xs : List D} : itsOf (.rol xs) = some xs := rfl
def sl (a : Str) : List Nat := a.cps.toList
def chS (k : Nat) : D := .str ⟨#[k]⟩
@[simp] theorem itsOf_str {a : Str} : itsOf (.str a) = some ((sl a).map chS) := rfl
def r1K2 (s : S) : Option Int → R (List D)
  | some j => .ok (rngL 0 j.toNat) s
  | none => .no
def r1K1 (s : S) : Option (List T) → R (List D)
  | some ts => r1K2 s (int1 ts)
  | none => .no
def r1K (o : Opd) : R (List (Option T)) → R (List D) := thn1 fun hs s => r1K1 s (gets [o] hs s)
@[simp] theorem r1K_ok {o : Opd} {hs : List (Option T)} {s : S} : r1K o (.ok hs s) = r1K1 s (gets [o] hs s) := rfl
@[simp] theorem r1K1_some {s : S} {ts : List T} : r1K1 s (some ts) = r1K2 s (int1 ts) := rfl
@[simp] theorem r1K2_some {s : S} {j : Int} : r1K2 s (some j) = .ok (rngL 0 j.toNat) s := rfl
@[simp] theorem mRng1_eq {o : Opd} {s : S} : mRng1 o s = r1K o (evs [o] s) := by
  unfold mRng1 r1K
  cases evs [o] s with
  | ok hs s =>
    show _ = r1K1 s (gets [o] hs s)
    simp only
    cases gets [o] hs s with
    | none => rfl
    | some ts =>
      show _ = r1K2 s (int1 ts)
      simp only
      cases int1 ts <;> rfl
  | _ => rfl
def r2K2 (s : S) : Option (Int × Int) → R (List D)
  | some (i, j) => .ok (rngL i (j - i).toNat) s
  | none => .no
def r2K1 (s : S) : Option (List T) → R (List D)
  | some ts => r2K2 s (int2 ts)
  | none => .no
def r2K (o p : Opd) : R (List (Option T)) → R (List D) := thn1 fun hs s => r2K1 s (gets [o, p] hs s)
@[simp] theorem r2K_ok {o p : Opd} {hs : List (Option T)} {s : S} : r2K o p (.ok hs s) = r2K1 s (gets [o, p] hs s) := rfl
@[simp] theorem r2K1_some {s : S} {ts : List T} : r2K1 s (some ts) = r2K2 s (int2 ts) := rfl
@[simp] theorem r2K2_some {s : S} {i j : Int} : r2K2 s (some (i, j)) = .ok (rngL i (j - i).toNat) s := rfl
@[simp] theorem mRng2_eq {o p : Opd} {s : S} : mRng2 o p s = r2K o p (evs [o, p] s) := by
  unfold mRng2 r2K
  cases evs [o, p] s with
  | ok hs s =>
    show _ = r2K1 s (gets [o, p] hs s)
    simp only
    cases gets [o, p] hs s with
    | none => rfl
    | some ts =>
      show _ = r2K2 s (int2 ts)
      simp only
      cases int2 ts <;> rfl
  | _ => rfl
def enK : R T → R (List D)
  | .ok (.lst xs, _) s => .ok (enumD xs) s
  | .ok _ _ => .no
  | .ex x s => .ex x s
  | .no => .no
@[simp] theorem enK_ok {xs : List D} {n : Nat} {s : S} : enK (.ok (.lst xs, n) s) = .ok (enumD xs) s := rfl
@[simp] theorem mEnum_eq {m : M T} {s : S} : mEnum m s = enK (m s) := by
  unfold mEnum enK
  cases m s with
  | ok t s => obtain ⟨d, n⟩ := t; cases d <;> rfl
  | _ => rfl
def foK (tg : Tg) (body : M Fl) : R (List D) → R Fl := thn1 fun items s => forL tg body items s
@[simp] theorem foK_ok {tg : Tg} {body : M Fl} {items : List D} {s : S} : foK tg body (.ok items s) = forL tg body items s := rfl
@[simp] theorem foK_ex {tg : Tg} {body : M Fl} {x : Ex} {s : S} : foK tg body (.ex x s) = .ex x s := rfl
@[simp] theorem mFor_eq {tg : Tg} {mi : M (List D)} {body : M Fl} {s : S} : mFor tg mi body s = foK tg body (mi s) := by unfold mFor foK; cases mi s <;> rfl
@[simp] theorem mYes_eq {s : S} : mYes s = .ok true s := rfl
def lcK1 : R (List D) → R T
  | .ok acc s => .ok (.lst acc, 1) s
  | _ => .no
@[simp] theorem lcK1_ok {acc : List D} {s : S} : lcK1 (.ok acc s) = .ok (.lst acc, 1) s := rfl
def lcK (us : List Nat) (tg : Tg) (t : M Bool) (m : M T) : R (List D) → R T := thn1 fun items s => lcK1 (lcL us tg t m items [] (wipeS s us))
@[simp] theorem lcK_ok {us : List Nat} {tg : Tg} {t : M Bool} {m : M T} {items : List D} {s : S} : lcK us tg t m (.ok items s) = lcK1 (lcL us tg t m items [] (wipeS s us)) := rfl
@[simp] theorem mLc_eq {us : List Nat} {tg : Tg} {mi : M (List D)} {t : M Bool} {m : M T} {s : S} : mLc us tg mi t m s = lcK us tg t m (mi s) := by
  unfold mLc lcK
  cases mi s with
  | ok items s =>
    show _ = lcK1 (lcL us tg t m items [] (wipeS s us))
    simp only
    cases lcL us tg t m items [] (wipeS s us) <;> rfl
  | _ => rfl
@[simp] theorem wipeS_nil {s : S} : wipeS s [] = s := rfl
@[simp] theorem wipeS_cons {s : S} {v : Nat} {vs : List Nat} : wipeS s (v :: vs) = (wipeS s vs).set v .un := rfl

/-! ### loops by an invariant -/
theorem lcL_run {us : List Nat} {tg : Tg} {t : M Bool} {m : M T} {I : List D → List D → S → Prop}
    (h : ∀ d ds acc s, I (d :: ds) acc s → ∃ s1 b s2, tg.set d s = some s1 ∧ t s1 = .ok b s2 ∧ (b = false → I ds acc (wipeS s2 us)) ∧ (b = true → ∃ y s3, m s2 = .ok y s3 ∧ acc.length < big ∧ I ds (acc ++ [y.1]) (wipeS s3 us))) :
    ∀ {items acc : List D} {s : S}, I items acc s → ∃ acc' s', lcL us tg t m items acc s = .ok acc' s' ∧ I [] acc' s'
  | [], acc, s, hi => ⟨acc, s, rfl, hi⟩
  | d :: ds, acc, s, hi => by
    obtain ⟨s1, b, s2, e1, e2, k1, k2⟩ := h d ds acc s hi
    cases b with
    | false =>
      obtain ⟨acc', s', e, q⟩ := lcL_run h (k1 rfl)
      exact ⟨acc', s', by simp only [lcL, e1, e2]; exact e, q⟩
    | true =>
      obtain ⟨y, s3, e3, hb, k3⟩ := k2 rfl
      obtain ⟨acc', s', e, q⟩ := lcL_run h k3
      exact ⟨acc', s', by simp only [lcL, e1, e2, e3, if_pos hb]; exact e, q⟩
/-- what is told of each item alone: p whether it is taken, g what it gives; nothing else changes -/
theorem lcL_pure {us : List Nat} {tg : Tg} {t : M Bool} {m : M T} {p : D → Bool} {g : D → D} {s : S} : ∀ {items acc : List D}, (∀ d ∈ items, ∃ s1 s2, tg.set d s = some s1 ∧ t s1 = .ok (p d) s2 ∧ (p d = false → wipeS s2 us = s) ∧ (p d = true → ∃ n s3, m s2 = .ok (g d, n) s3 ∧ wipeS s3 us = s)) →
    acc.length + items.length ≤ big → lcL us tg t m items acc s = .ok (acc ++ (items.filter p).map g) s
  | [], acc, h, hb => by simp [lcL]
  | d :: ds, acc, h, hb => by
    obtain ⟨s1, s2, e1, e2, k1, k2⟩ := h d List.mem_cons_self
    have hd : ∀ x ∈ ds, _ := fun x hx => h x (List.mem_cons_of_mem _ hx)
    cases q : p d with
    | false =>
      rw [q] at e2
      simp only [lcL, e1, e2, k1 q]
      rw [lcL_pure hd (by simp at hb; omega), List.filter_cons_of_neg (by simp [q])]
    | true =>
      rw [q] at e2
      obtain ⟨n, s3, e3, k3⟩ := k2 q
      have hl : acc.length < big := by simp at hb; omega
      simp only [lcL, e1, e2, e3, if_pos hl, k3]
      rw [lcL_pure hd (by simp at hb ⊢; omega), List.filter_cons_of_pos (by simp [q])]
      simp
theorem forL_run {tg : Tg} {body : M Fl} {I : List D → S → Prop} {P : R Fl → Prop} (h : ∀ d ds s, I (d :: ds) s → ∃ s1, tg.set d s = some s1 ∧ match body s1 with
      | .ok .nx s2 => I ds s2
      | .ok .ct s2 => I ds s2
      | .ok .bk s2 => P (.ok .nx s2)
      | .ok (.rt t) s2 => P (.ok (.rt t) s2)
      | .ex x s2 => P (.ex x s2)
      | .no => False) (hz : ∀ s, I [] s → P (.ok .nx s)) : ∀ {items : List D} {s : S}, I items s → P (forL tg body items s)
  | [], s, hi => hz s hi
  | d :: ds, s, hi => by
    obtain ⟨s1, e1, k⟩ := h d ds s hi
    simp only [forL, e1]
    cases q : body s1 with
    | no => rw [q] at k; exact k.elim
    | ex x s2 => rw [q] at k; exact k
    | ok f s2 =>
      rw [q] at k
      cases f with
      | nx => exact forL_run h hz k
      | ct => exact forL_run h hz k
      | bk => exact k
      | rt t => exact k
/-- the loop that always goes on -/
theorem forL_nx {tg : Tg} {body : M Fl} {I : List D → S → Prop} (h : ∀ d ds s, I (d :: ds) s → ∃ s1 s2, tg.set d s = some s1 ∧ (body s1 = .ok .nx s2 ∨ body s1 = .ok .ct s2) ∧ I ds s2) {items : List D} {s : S} (hi : I items s) : ∃ s', forL tg body items s = .ok .nx s' ∧ I [] s' := by
  refine forL_run (P := fun r => ∃ s', r = .ok .nx s' ∧ I [] s') (fun d ds s hi => ?_) (fun s hi => ⟨s, rfl, hi⟩) hi
  obtain ⟨s1, s2, e1, e2, k⟩ := h d ds s hi
  rcases e2 with e2 | e2 <;> exact ⟨s1, e1, by rw [e2]; exact k⟩
/-- while, by a measure -/
theorem whL_run {t : M Bool} {body : M Fl} {I : Nat → S → Prop} {P : R Fl → Prop} (hP : ¬ P .no) (h : ∀ k s, I k s → match t s with
      | .ok false s1 => P (.ok .nx s1)
      | .ok true s1 => (match body s1 with
        | .ok .nx s2 => ∃ j, j < k ∧ I j s2
        | .ok .ct s2 => ∃ j, j < k ∧ I j s2
        | .ok .bk s2 => P (.ok .nx s2)
        | .ok (.rt t) s2 => P (.ok (.rt t) s2)
        | .ex x s2 => P (.ex x s2)
        | .no => False)
      | .ex x s1 => P (.ex x s1)
      | .no => False) : ∀ {k n : Nat} {s : S}, k < n → I k s → P (whL t body n s) := by
  intro k n
  induction n generalizing k with
  | zero => intro s hk; omega
  | succ n ih =>
    intro s hk hi
    have z := h k s hi
    unfold whL
    cases q : t s with
    | no => rw [q] at z; exact z.elim
    | ex x s1 => rw [q] at z; exact z
    | ok b s1 =>
      rw [q] at z
      cases b with
      | false => exact z
      | true =>
        simp only at z ⊢
        cases q2 : body s1 with
        | no => rw [q2] at z; exact z.elim
        | ex x s2 => rw [q2] at z; exact z
        | ok f s2 =>
          rw [q2] at z
          cases f with
          | nx => obtain ⟨j, hj, k⟩ := z; exact ih (by omega) k
          | ct => obtain ⟨j, hj, k⟩ := z; exact ih (by omega) k
          | bk => exact z
          | rt t => exact z
theorem mWhile_run {t : M Bool} {body : M Fl} {I : Nat → S → Prop} {P : R Fl → Prop} (hP : ¬ P .no) (h : ∀ k s, I k s → match t s with
      | .ok false s1 => P (.ok .nx s1)
      | .ok true s1 => (match body s1 with
        | .ok .nx s2 => ∃ j, j < k ∧ I j s2
        | .ok .ct s2 => ∃ j, j < k ∧ I j s2
        | .ok .bk s2 => P (.ok .nx s2)
        | .ok (.rt t) s2 => P (.ok (.rt t) s2)
        | .ex x s2 => P (.ex x s2)
        | .no => False)
      | .ex x s1 => P (.ex x s1)
      | .no => False) {k : Nat} {s : S} (hi : I k s) : P (mWhile t body s) := by
  have z := whL_run hP h (Nat.lt_succ_self k) hi
  rw [mWhile_eq (n := k + 1) rfl fun e => hP (e ▸ z)]
  exact z
end Z

namespace Z
open PySem L2
/-! ### the operations on known data -/
@[simp] theorem fOr_some {f g : F} {ts : List T} {t : T} (h : f ts = some t) : fOr f g ts = some t := by unfold fOr; rw [h]
theorem fOr_none {f g : F} {ts : List T} (h : f ts = none) : fOr f g ts = g ts := by unfold fOr; rw [h]
@[simp] theorem fAdd_i {i j : Int} {n m : Nat} : fAdd [(.int i, n), (.int j, m)] = some (.int (i + j), 0) := rfl
@[simp] theorem fAdd_s {a b : Str} {n m : Nat} : fAdd [(.str a, n), (.str b, m)] = if a.length + b.length ≤ big then some (.str (a ++ b), 0) else none := by
  show fOr _ _ _ = _
  rw [fOr_none rfl]
  by_cases h : a.length + b.length ≤ big
  · rw [if_pos h]
    exact fOr_some (by show (if _ then _ else _) = _; rw [if_pos h])
  · rw [if_neg h, fOr_none (by show (if _ then _ else _) = _; rw [if_neg h])]
    rfl
@[simp] theorem fAdd_l {xs ys : List D} {n m : Nat} : fAdd [(.lst xs, n), (.lst ys, m)] = if n ≤ 1 ∧ m ≤ 1 ∧ xs.length + ys.length ≤ big then some (.lst (xs ++ ys), 1) else none := by
  show fOr _ _ _ = _
  rw [fOr_none rfl, fOr_none rfl]
  by_cases h : n ≤ 1 ∧ m ≤ 1 ∧ xs.length + ys.length ≤ big
  · rw [if_pos h]
    exact fOr_some (by show (if _ then _ else _) = _; rw [if_pos h])
  · rw [if_neg h, fOr_none (by show (if _ then _ else _) = _; rw [if_neg h])]
    rfl
@[simp] theorem fAdd_t {xs ys : List D} {n m : Nat} : fAdd [(.tup xs, n), (.tup ys, m)] = if n = 0 ∧ m = 0 ∧ xs.length + ys.length ≤ big then some (.tup (xs ++ ys), 0) else none := rfl
@[simp] theorem fSub_i {i j : Int} {n m : Nat} : fSub [(.int i, n), (.int j, m)] = some (.int (i - j), 0) := rfl
@[simp] theorem fMul_i {i j : Int} {n m : Nat} (h : CMul i j) : fMul [(.int i, n), (.int j, m)] = some (.int (i * j), 0) := by
  exact fOr_some (by show (if _ then _ else _) = _; rw [if_pos h])
@[simp] theorem cmul_l {i : Int} {j : Int} (h : -18446744073709551616 < i ∧ i < 18446744073709551616) : CMul i j := .inl h
@[simp] theorem cmul_r {i : Int} {j : Int} (h : -18446744073709551616 < j ∧ j < 18446744073709551616) : CMul i j := .inr h
@[simp] theorem fMod_i {i j : Int} {n m : Nat} (h : 0 < j) : fMod [(.int i, n), (.int j, m)] = some (.int (i % j), 0) := by
  show (if _ then _ else _) = _
  rw [if_pos h]
@[simp] theorem fDiv_i {i j : Int} {n m : Nat} (h : 0 < j) (h2 : j < 1073741824) : fDiv [(.int i, n), (.int j, m)] = some (.int (i / j), 0) := by
  show (if _ then _ else _) = _
  rw [if_pos ⟨h, h2⟩]
@[simp] theorem fPow_i {i j : Int} {n m : Nat} (h : 0 ≤ j) (h2 : j ≤ 1000000) (h3 : i.natAbs < 18446744073709551616) : fPow [(.int i, n), (.int j, m)] = some (.int (i ^ j.toNat), 0) := by
  show (if _ then _ else _) = _
  rw [if_pos ⟨h, h2, h3⟩]
@[simp] theorem fNeg_i {i : Int} {n : Nat} : fNeg [(.int i, n)] = some (.int (-i), 0) := rfl
@[simp] theorem fLt_i {i j : Int} {n m : Nat} : fLt [(.int i, n), (.int j, m)] = some (.bl (decide (i < j)), 0) := rfl
@[simp] theorem fLe_i {i j : Int} {n m : Nat} : fLe [(.int i, n), (.int j, m)] = some (.bl (decide (i ≤ j)), 0) := rfl
@[simp] theorem fGt_i {i j : Int} {n m : Nat} : fGt [(.int i, n), (.int j, m)] = some (.bl (decide (j < i)), 0) := rfl
@[simp] theorem fGe_i {i j : Int} {n m : Nat} : fGe [(.int i, n), (.int j, m)] = some (.bl (decide (j ≤ i)), 0) := rfl
@[simp] theorem fInt_i {i : Int} {n : Nat} : fInt [(.int i, n)] = some (.int i, 0) := rfl
@[simp] theorem fInt_b {b : Bool} {n : Nat} : fInt [(.bl b, n)] = some (.int (if b then 1 else 0), 0) := rfl
@[simp] theorem fAbs_i {i : Int} {n : Nat} : fAbs [(.int i, n)] = some (.int (if i < 0 then -i else i), 0) := rfl
@[simp] theorem fLen_l {xs : List D} {n : Nat} : fLen [(.lst xs, n)] = some (.int xs.length, 0) := rfl
@[simp] theorem fLen_r {xs : List D} {n : Nat} : fLen [(.rol xs, n)] = some (.int xs.length, 0) := rfl
@[simp] theorem fLen_t {xs : List D} {n : Nat} : fLen [(.tup xs, n)] = some (.int xs.length, 0) := rfl
@[simp] theorem fLen_d {xs : List (Key × D)} {n : Nat} : fLen [(.dct xs, n)] = some (.int xs.length, 0) := rfl
@[simp] theorem fLen_s {a : Str} {n : Nat} : fLen [(.str a, n)] = if a.length ≤ big then some (.int a.length, 0) else none := by
  show Option.map _ (if _ then _ else _) = _
  split <;> rfl
def ixK (o : Option D) : Option T := o.map fun d => (d, 0)
@[simp] theorem ixK_some {d : D} : ixK (some d) = some (d, 0) := rfl
@[simp] theorem fIx_l {xs : List D} {i : Int} {n m : Nat} (h : n ≤ 1) : fIx [(.lst xs, n), (.int i, m)] = ixK (atI xs i) := by
  show (if _ then _ else _) = _
  rw [if_pos h]
  rfl
@[simp] theorem fIx_t {xs : List D} {i : Int} {n m : Nat} (h : n ≤ 1) : fIx [(.tup xs, n), (.int i, m)] = ixK (atI xs i) := by
  show (if _ then _ else _) = _
  rw [if_pos h]
  rfl
@[simp] theorem fIx_r {xs : List D} {i : Int} {n m : Nat} (h : n ≤ 1) : fIx [(.rol xs, n), (.int i, m)] = ixK (atI xs i) := by
  show (if _ then _ else _) = _
  rw [if_pos h]
  rfl
@[simp] theorem fIx_s {a : Str} {i : Int} {n m : Nat} (h : n ≤ 1) (h2 : a.length ≤ big) : fIx [(.str a, n), (.int i, m)] = ixK ((atI (sl a) i).map chS) := by
  show (if _ then _ else _) = _
  rw [if_pos h]
  show Option.map _ (if _ then _ else _) = _
  rw [if_pos h2]
  rfl
theorem atI_ok {α : Type} {xs : List α} {i : Int} (h0 : 0 ≤ i) (h1 : i < xs.length) : atI xs i = some (xs[i.toNat]'(by omega)) := by
  unfold atI ixN
  rw [if_pos h0, if_pos h1]
  exact List.getElem?_eq_getElem _
@[simp] theorem atI_0 {α : Type} {a : α} {r : List α} : atI (a :: r) 0 = some a := by
  rw [atI_ok (by omega) (by simp)]; rfl
@[simp] theorem atI_1 {α : Type} {a b : α} {r : List α} : atI (a :: b :: r) 1 = some b := by
  rw [atI_ok (by omega) (by simp; omega)]; rfl
@[simp] theorem atI_2 {α : Type} {a b d : α} {r : List α} : atI (a :: b :: d :: r) 2 = some d := by
  rw [atI_ok (by omega) (by simp; omega)]; rfl
@[simp] theorem atI_3 {α : Type} {a b d e : α} {r : List α} : atI (a :: b :: d :: e :: r) 3 = some e := by
  rw [atI_ok (by omega) (by simp; omega)]; rfl
@[simp] theorem atI_m1 {α : Type} {a : α} {r : List α} : atI (r ++ [a]) (-1) = some a := by
  unfold atI ixN
  have : ((-(((r ++ [a]).length : Nat) : Int)) ≤ -1) := by simp; omega
  simp only [if_neg (by decide : ¬ (0 : Int) ≤ -1), if_pos this]
  have e : (-1 + (((r ++ [a]).length : Nat) : Int)).toNat = r.length := by simp; omega
  show (r ++ [a])[(-1 + (((r ++ [a]).length : Nat) : Int)).toNat]? = some a
  rw [e]
  simp
def sdK (o : Option Nat) (xs : List D) (v : D) : Option D := o.map fun j => .lst (xs.set j v)
@[simp] theorem sdK_some {j : Nat} {xs : List D} {v : D} : sdK (some j) xs v = some (.lst (xs.set j v)) := rfl
@[simp] theorem setD_l {xs : List D} {i : Int} {v : D} : setD (.lst xs) (.int i) v = sdK (ixN xs.length i) xs v := rfl
theorem ixN_ok {n : Nat} {i : Int} (h0 : 0 ≤ i) (h1 : i < n) : ixN n i = some i.toNat := by
  unfold ixN
  rw [if_pos h0, if_pos h1]
@[simp] theorem ixN_0 {n : Nat} : ixN (n + 1) 0 = some 0 := ixN_ok (by omega) (by omega)
@[simp] theorem ixN_1 {n : Nat} : ixN (n + 2) 1 = some 1 := ixN_ok (by omega) (by omega)
@[simp] theorem ixN_2 {n : Nat} : ixN (n + 3) 2 = some 2 := ixN_ok (by omega) (by omega)
@[simp] theorem ixN_3 {n : Nat} : ixN (n + 4) 3 = some 3 := ixN_ok (by omega) (by omega)
@[simp] theorem slD_l {xs : List D} {n : Nat} {l u : Option Int} (h : n ≤ 1) : slD l u (.lst xs, n) = some (.lst (cutD xs l u), 1) := by
  show (if _ then _ else _) = _
  rw [if_pos h]
@[simp] theorem slD_r {xs : List D} {n : Nat} {l u : Option Int} : slD l u (.rol xs, n) = some (.lst (cutD xs l u), 1) := rfl
@[simp] theorem slD_t {xs : List D} {l u : Option Int} : slD l u (.tup xs, 0) = some (.tup (cutD xs l u), 0) := rfl
@[simp] theorem slD_s {a : Str} {n : Nat} {l u : Option Int} (h : a.length ≤ big) : slD l u (.str a, n) = some (.str (cutS a l u), 0) := by
  show (if _ then _ else _) = _
  rw [if_pos h]
@[simp] theorem int1_i {j : Int} {n : Nat} (h1 : -(2 ^ 62) ≤ j) (h2 : j < 2 ^ 62) : int1 [(.int j, n)] = some j := by
  show (if _ then _ else _) = _
  rw [if_pos ⟨h1, h2⟩]
@[simp] theorem int2_i {i j : Int} {n m : Nat} (h1 : -(2 ^ 62) ≤ i) (h2 : i < 2 ^ 62) (h3 : -(2 ^ 62) ≤ j) (h4 : j < 2 ^ 62) : int2 [(.int i, n), (.int j, m)] = some (i, j) := by
  show (if _ then _ else _) = _
  rw [if_pos ⟨h1, h2, h3, h4⟩]
end Z

namespace Z
open PySem L2
/-! ### texts of plain signs, lists of them -/
def asc (s : Str) : Bool := (sl s).all fun k => decide (k < 128)
@[simp] theorem sl_len (s : Str) : (sl s).length = s.length := by
  show s.cps.toList.length = s.cps.size
  simp
theorem asc_mem {s : Str} (h : asc s = true) {k : Nat} (hk : k ∈ sl s) : k < 128 := of_decide_eq_true (List.all_eq_true.mp h k hk)
theorem asc_of {s : Str} (h : ∀ k ∈ sl s, k < 128) : asc s = true := List.all_eq_true.mpr fun k hk => decide_eq_true (h k hk)
theorem asc_strOk {s : Str} (h : asc s = true) : PyData.strOk s = true := by
  unfold PyData.strOk
  rw [← Array.all_toList]
  exact List.all_eq_true.mpr fun k hk => decide_eq_true (Nat.lt_trans (asc_mem h hk) (by decide))
theorem asc_app {a b : Str} (ha : asc a = true) (hb : asc b = true) : asc (a ++ b) = true := by
  refine asc_of fun k hk => ?_
  have hk : k ∈ (a.cps ++ b.cps).toList := hk
  rw [Array.toList_append] at hk
  rcases List.mem_append.mp hk with h | h
  · exact asc_mem ha h
  · exact asc_mem hb h
theorem asc_cut {a : Str} {l u : Option Int} (ha : asc a = true) : asc (cutS a l u) = true := by
  refine asc_of fun k hk => ?_
  have hk : k ∈ (cutS a l u).cps.toList := hk
  unfold cutS at hk
  rw [List.toList_toArray] at hk
  exact asc_mem ha (List.mem_of_mem_drop (List.mem_of_mem_take hk))
theorem asc_one {k : Nat} (h : k < 128) : asc ⟨#[k]⟩ = true := by
  refine asc_of fun j hj => ?_
  have hj : j ∈ (#[k] : Array Nat).toList := hj
  have : j = k := by simpa using hj
  rw [this]; exact h
theorem app_len (a b : Str) : (a ++ b).length = a.length + b.length := by
  show (a.cps ++ b.cps).size = _
  rw [Array.size_append]; rfl
theorem cut_len (a : Str) (l u : Option Int) : (cutS a l u).length ≤ a.length := by
  show ((List.take _ (List.drop _ a.cps.toList)).toArray).size ≤ a.cps.size
  simp
  omega
theorem one_len (k : Nat) : (⟨#[k]⟩ : Str).length = 1 := rfl
theorem toPs_strs : ∀ ss : List Str, toPs (ss.map D.str) = some (ss.map PyData.str)
  | [] => by simp [toPs]
  | s :: ss => by simp [toPs, toP, toPs_strs ss]
theorem depth_strs : ∀ ss : List Str, PyData.depthAll (ss.map PyData.str) = 0
  | [] => rfl
  | s :: ss => by simp [PyData.depthAll, PyData.depth, depth_strs ss]
theorem can_strs : ∀ {ss : List Str}, (∀ s ∈ ss, asc s = true) → PyData.canLayAll0 (ss.map PyData.str) = true
  | [], _ => rfl
  | s :: ss, h => by
    show (PyData.strOk s && PyData.canLayAll0 (ss.map PyData.str)) = true
    rw [asc_strOk (h s List.mem_cons_self), can_strs fun t ht => h t (List.mem_cons_of_mem _ ht)]
    rfl
theorem shaped_strs {ss : List Str} (h : ∀ s ∈ ss, asc s = true) : SeqAt.shaped (.list (ss.map PyData.str)) = true := by
  show (PyData.canLayAll0 (ss.map PyData.str) && decide (PyData.depthAll (ss.map PyData.str) + 1 ≤ 64)) = true
  rw [can_strs h, depth_strs]
  rfl
theorem eqv_strs : ∀ ss tt : List Str, PyData.eqvAll (ss.map PyData.str) (tt.map PyData.str) = decide (ss = tt)
  | [], [] => by simp [PyData.eqvAll]
  | [], _ :: _ => by simp [PyData.eqvAll]
  | _ :: _, [] => by simp [PyData.eqvAll]
  | s :: ss, t :: tt => by
    simp only [List.map_cons, PyData.eqvAll, PyData.eqv, eqv_strs ss tt, List.cons.injEq, Bool.decide_and]
    congr 1
theorem eqD_strs {ss tt : List Str} (h1 : ∀ s ∈ ss, asc s = true) (h2 : ∀ s ∈ tt, asc s = true) : eqD (.lst (ss.map D.str)) (.lst (tt.map D.str)) = some (decide (ss = tt)) := by
  unfold eqD
  have e : eqS (.lst (ss.map D.str)) (.lst (tt.map D.str)) = none := rfl
  rw [e]
  show eqP _ _ = _
  unfold eqP
  have e1 : ∀ ss : List Str, toP (.lst (ss.map D.str)) = some (.list (ss.map PyData.str)) := fun ss => by
    simp [toP, toPs_strs]
  rw [e1, e1]
  simp only
  rw [if_pos ⟨shaped_strs h1, shaped_strs h2⟩]
  show some (PyData.eqvAll _ _) = _
  rw [eqv_strs]
@[simp] theorem fEq_i {i j : Int} {n m : Nat} : fEq [(.int i, n), (.int j, m)] = some (.bl (decide (i = j)), 0) := by
  simp [fEq, eqD, eqS, scV, scal]
@[simp] theorem fNe_i {i j : Int} {n m : Nat} : fNe [(.int i, n), (.int j, m)] = some (.bl (!decide (i = j)), 0) := by
  simp [fNe, eqD, eqS, scV, scal]
@[simp] theorem fEq_b {i j : Bool} {n m : Nat} : fEq [(.bl i, n), (.bl j, m)] = some (.bl (decide (i = j)), 0) := by
  simp [fEq, eqD, eqS, scV, scal]
@[simp] theorem fNe_b {i j : Bool} {n m : Nat} : fNe [(.bl i, n), (.bl j, m)] = some (.bl (!decide (i = j)), 0) := by
  simp [fNe, eqD, eqS, scV, scal]
@[simp] theorem fEq_s {i j : Str} {n m : Nat} : fEq [(.str i, n), (.str j, m)] = some (.bl (decide (i = j)), 0) := by
  simp [fEq, eqD, eqS, scV, scal]
@[simp] theorem fNe_s {i j : Str} {n m : Nat} : fNe [(.str i, n), (.str j, m)] = some (.bl (!decide (i = j)), 0) := by
  simp [fNe, eqD, eqS, scV, scal]
theorem fEq_of {x y : D} {n m : Nat} {b : Bool} (h : eqD x y = some b) : fEq [(x, n), (y, m)] = some (.bl b, 0) := by
  show Option.map _ (eqD x y) = _
  rw [h]; rfl
theorem fNe_of {x y : D} {n m : Nat} {b : Bool} (h : eqD x y = some b) : fNe [(x, n), (y, m)] = some (.bl (!b), 0) := by
  show Option.map _ (eqD x y) = _
  rw [h]; rfl
@[simp] theorem fEq_nil {n m : Nat} : fEq [(.lst [], n), (.lst [], m)] = some (.bl true, 0) := fEq_of (by decide)
theorem scVs_strs : ∀ ss : List Str, scVs (ss.map D.str) = some (ss.map V.str)
  | [] => rfl
  | s :: ss => by simp [scVs, scV, scVs_strs ss]
theorem inV_strs (a : Str) (ss : List Str) : inV (.str a) (ss.map V.str) = decide (a ∈ ss) := by
  unfold inV
  induction ss with
  | nil => simp
  | cons s ss ih =>
    rw [List.map_cons, List.any_cons, ih]
    show (s == a || _) = _
    by_cases h : s = a
    · subst h; simp
    · have h' : a ≠ s := fun e => h e.symm
      simp [h, h']
theorem inQ_strs (a : Str) (ss : List Str) : inQ (.str a) (ss.map D.str) = some (decide (a ∈ ss)) := by
  unfold inQ
  rw [scVs_strs]
  show some (inV (.str a) (ss.map V.str)) = _
  rw [inV_strs]
theorem fIn_of {x y : D} {n m : Nat} {b : Bool} (h : inD x y = some b) : fIn [(x, n), (y, m)] = some (.bl b, 0) := by
  show Option.map _ (inD x y) = _
  rw [h]; rfl
theorem fNotIn_of {x y : D} {n m : Nat} {b : Bool} (h : inD x y = some b) : fNotIn [(x, n), (y, m)] = some (.bl (!b), 0) := by
  show Option.map _ (inD x y) = _
  rw [h]; rfl
theorem inD_sign (k : Nat) (b : Str) : inD (chS k) (.str b) = some (decide (k ∈ sl b)) := rfl
@[simp] theorem fIn_sign {k : Nat} {b : Str} {n m : Nat} : fIn [(chS k, n), (.str b, m)] = some (.bl (decide (k ∈ sl b)), 0) := rfl
@[simp] theorem fNotIn_sign {k : Nat} {b : Str} {n m : Nat} : fNotIn [(chS k, n), (.str b, m)] = some (.bl (!decide (k ∈ sl b)), 0) := rfl
theorem scVs_ints : ∀ ss : List Int, scVs (ss.map D.int) = some (ss.map V.int)
  | [] => rfl
  | s :: ss => by simp [scVs, scV, scVs_ints ss]
theorem inV_ints (a : Int) (ss : List Int) : inV (.int a) (ss.map V.int) = decide (a ∈ ss) := by
  unfold inV
  induction ss with
  | nil => simp
  | cons s ss ih =>
    rw [List.map_cons, List.any_cons, ih]
    show (s == a || _) = _
    by_cases h : s = a
    · subst h; simp
    · have h' : a ≠ s := fun e => h e.symm
      simp [h, h']
theorem inQ_ints (a : Int) (ss : List Int) : inQ (.int a) (ss.map D.int) = some (decide (a ∈ ss)) := by
  unfold inQ
  rw [scVs_ints]
  show some (inV (.int a) (ss.map V.int)) = _
  rw [inV_ints]
/-! a text of signs -/
def sigs (cs : List Nat) : List Str := cs.map fun k => ⟨#[k]⟩
theorem map_chS (cs : List Nat) : cs.map chS = (sigs cs).map D.str := by
  unfold sigs
  rw [List.map_map]
  rfl
theorem strsOf_map : ∀ ss : List Str, strsOf (ss.map D.str) = some ss
  | [] => rfl
  | s :: ss => by simp [strsOf, strsOf_map ss]
theorem joinL_nil : ∀ cs : List Nat, TL.joinL [] (cs.map fun k => [k]) = cs
  | [] => rfl
  | [_] => rfl
  | a :: b :: r => by
    show a :: TL.joinL [] ((b :: r).map fun k => [k]) = _
    rw [joinL_nil (b :: r)]
theorem join_sigs (cs : List Nat) : Txt.join Str.empty (sigs cs) = ⟨cs.toArray⟩ := by
  have e := SX.join_S [] (cs.map fun k => [k])
  rw [joinL_nil] at e
  have e2 : (cs.map fun k => [k]).map SX.S = sigs cs := by
    rw [List.map_map]
    rfl
  rw [e2] at e
  exact e
theorem sigs_len (cs : List Nat) : ((sigs cs).map (·.length)).sum = cs.length := by
  induction cs with
  | nil => rfl
  | cons a cs ih =>
    show 1 + ((sigs cs).map (·.length)).sum = _
    rw [ih]
    simp
    omega
theorem fJoin_sigs {cs : List Nat} {n m : Nat} (h : cs.length ≤ big) : fJoin [(.str Str.empty, n), (.lst (cs.map chS), m)] = some (.str ⟨cs.toArray⟩, 0) := by
  show joinF _ _ = _
  unfold joinF
  rw [map_chS, strsOf_map]
  simp only
  rw [sigs_len, if_pos, join_sigs]
  show cs.length + (sigs cs).length * 0 ≤ big
  omega
theorem fSplit_of {a b : Str} {ss : List Str} {n m : Nat} (h : (b.length == 0) = false ∧ a.length + 2 ≤ big) (e : Txt.split a b = ss) : fSplit [(.str a, n), (.str b, m)] = some (.lst (ss.map D.str), 1) := by
  show (if _ then _ else _) = _
  rw [if_pos h, e]
end Z

namespace Z
open PySem L2
/-! ### drawing from a box of three ints -/
structure Bx where
  a : Int
  b : Int
  d : Int
def bx (b : Bx) : D := .lst [.int b.a, .int b.b, .int b.d]
def tk1 (b : Bx) : Int := (b.b + 104729 * (b.d + 1)) * 69623 % 2147483647
def tk2 (b : Bx) : Int := (tk1 b * 48271 + 30103) % 2147483629 + 1
def tkR (b : Bx) (m : Int) : Int := if 0 < b.a then b.a % m else (tk1 b * 2147483647 + tk2 b) / 8191 % m
def tkB (b : Bx) (m : Int) : Bx := if 0 < b.a then ⟨b.a / m, b.b, b.d⟩ else ⟨b.a, tk2 b, b.d + 1⟩
theorem tk_ge {b : Bx} {m : Int} (h : 0 < m) : 0 ≤ tkR b m := by
  unfold tkR
  split <;> exact Int.emod_nonneg _ (by omega)
theorem tk_lt {b : Bx} {m : Int} (h : 0 < m) : tkR b m < m := by
  unfold tkR
  split <;> exact Int.emod_lt_of_pos _ h
def TakeOk (fn : Fn) : Prop := ∀ (b : Bx) (m : Int), 0 < m → m < 1073741824 → fn [(bx b, 1), (.int m, 0)] = .ok (.int (tkR b m), 0) [(bx (tkB b m), 1), (.int m, 0)]
def BoxOk (fn : Fn) : Prop := ∀ (ns : List Int) (k : Int), 0 ≤ k → ∃ b, fn [(.rol (ns.map D.int), 0), (.int k, 0)] = .ok (bx b, 1) [(.rol (ns.map D.int), 0), (.int k, 0)]
theorem atI_map {α β : Type} {xs : List α} {f : α → β} {i : Int} (h0 : 0 ≤ i) (h1 : i < xs.length) : ∃ x ∈ xs, atI (xs.map f) i = some (f x) := by
  refine ⟨xs[i.toNat]'(by omega), List.getElem_mem _, ?_⟩
  rw [atI_ok h0 (by simpa using h1)]
  simp
/-- a constant text's or list's item that is drawn -/
theorem atI_mem {α : Type} {xs : List α} {i : Int} (h0 : 0 ≤ i) (h1 : i < xs.length) : ∃ x ∈ xs, atI xs i = some x :=
  ⟨_, List.getElem_mem _, atI_ok h0 h1⟩
theorem rngL_cons {lo : Int} {n : Nat} : rngL lo (n + 1) = .int lo :: rngL (lo + 1) n := by
  unfold rngL
  rw [List.range_succ_eq_map, List.map_cons, List.map_map]
  refine congr (congrArg _ (by simp)) (List.map_congr_left fun i _ => ?_)
  show D.int _ = D.int _
  congr 1
  show lo + ((i + 1 : Nat) : Int) = lo + 1 + (i : Nat)
  omega
@[simp] theorem rngL_zero {lo : Int} : rngL lo 0 = [] := rfl
@[simp] theorem rngL_len {lo : Int} {n : Nat} : (rngL lo n).length = n := by simp [rngL]
theorem tk_lo {b : Bx} {m : Int} (h : 0 < m) : (-4611686018427387904 : Int) ≤ tkR b m := by have := tk_ge (b := b) h; omega
theorem tk_hi {b : Bx} {m : Int} (h : 0 < m) (h2 : m ≤ 4611686018427387904) : tkR b m < 4611686018427387904 := by have := tk_lt (b := b) h; omega
theorem blsOf_map : ∀ bs : List Bool, blsOf (bs.map D.bl) = some bs
  | [] => rfl
  | b :: bs => by simp [blsOf, blsOf_map bs]
theorem fAll_map {bs : List Bool} {n : Nat} : fAll [(.lst (bs.map D.bl), n)] = some (.bl (bs.all id), 0) := by
  show Option.map _ (blsOf _) = _
  rw [blsOf_map]; rfl
theorem fAny_map {bs : List Bool} {n : Nat} : fAny [(.lst (bs.map D.bl), n)] = some (.bl (bs.any id), 0) := by
  show Option.map _ (blsOf _) = _
  rw [blsOf_map]; rfl
@[simp] theorem fIsi_bb {b : Bool} {n : Nat} : fIsi "bool" [(.bl b, n)] = some (.bl true, 0) := by
  have e : kitB "bool" "bool" = some true := by decide +kernel
  unfold fIsi
  simp only [tyN, e]
  rfl
@[simp] theorem isStr_s {a : Str} : isStr (.str a) = true := rfl
@[simp] theorem atI_i10 {α : Type} {x y : α} {p : Prop} [Decidable p] : atI [x, y] (if p then 1 else 0) = some (if p then y else x) := by
  split <;> simp
/-! ### a comprehension's turn -/
def lsK2 (us : List Nat) : R T → Option (Option D × S)
  | .ok y s => some (some y.1, wipeS s us)
  | _ => none
def lsK1 (us : List Nat) (m : M T) : R Bool → Option (Option D × S)
  | .ok true s => lsK2 us (m s)
  | .ok false s => some (none, wipeS s us)
  | _ => none
def lsK0 (us : List Nat) (t : M Bool) (m : M T) : Option S → Option (Option D × S)
  | some s => lsK1 us m (t s)
  | none => none
def lcStep (us : List Nat) (tg : Tg) (t : M Bool) (m : M T) (d : D) (s : S) : Option (Option D × S) := lsK0 us t m (tg.set d s)
@[simp] theorem lsK2_ok {us : List Nat} {y : T} {s : S} : lsK2 us (.ok y s) = some (some y.1, wipeS s us) := rfl
@[simp] theorem lsK1_t {us : List Nat} {m : M T} {s : S} : lsK1 us m (.ok true s) = lsK2 us (m s) := rfl
@[simp] theorem lsK1_f {us : List Nat} {m : M T} {s : S} : lsK1 us m (.ok false s) = some (none, wipeS s us) := rfl
theorem lsK1_b {us : List Nat} {m : M T} {b : Bool} {s : S} : lsK1 us m (.ok b s) = if b = true then lsK2 us (m s) else some (none, wipeS s us) := by cases b <;> rfl
@[simp] theorem lsK0_some {us : List Nat} {t : M Bool} {m : M T} {s : S} : lsK0 us t m (some s) = lsK1 us m (t s) := rfl
theorem lcStep_eq {us : List Nat} {tg : Tg} {t : M Bool} {m : M T} {d : D} {s : S} : lcStep us tg t m d s = lsK0 us t m (tg.set d s) := rfl
theorem lcL_step {us : List Nat} {tg : Tg} {t : M Bool} {m : M T} {d : D} {ds acc : List D} {s s' : S} {o : Option D} (h : lcStep us tg t m d s = some (o, s')) (hb : acc.length < big) : lcL us tg t m (d :: ds) acc s = lcL us tg t m ds (acc ++ o.toList) s' := by
  unfold lcStep at h
  cases q : tg.set d s with
  | none => rw [q] at h; cases h
  | some s1 =>
    rw [q] at h
    have h : lsK1 us m (t s1) = some (o, s') := h
    cases q2 : t s1 with
    | no => rw [q2] at h; cases h
    | ex x s2 => rw [q2] at h; cases h
    | ok b s2 =>
      rw [q2] at h
      cases b with
      | false =>
        cases h
        simp only [lcL, q, q2, Option.toList_none, List.append_nil]
      | true =>
        have h : lsK2 us (m s2) = some (o, s') := h
        cases q3 : m s2 with
        | no => rw [q3] at h; cases h
        | ex x s2 => rw [q3] at h; cases h
        | ok y s3 =>
          rw [q3] at h
          cases h
          simp only [lcL, q, q2, q3, if_pos hb, Option.toList_some]
/-- each turn told alone, nothing else changes -/
theorem lcL_fm {α : Type} {us : List Nat} {tg : Tg} {t : M Bool} {m : M T} {c : α → D} (p : α → Bool) (g : α → D) {s : S} : ∀ {xs : List α} {acc : List D}, (∀ x ∈ xs, lcStep us tg t m (c x) s = some (if p x = true then some (g x) else none, s)) → acc.length + xs.length ≤ big →
    lcL us tg t m (xs.map c) acc s = .ok (acc ++ (xs.filter p).map g) s
  | [], acc, _, _ => by simp [lcL]
  | x :: xs, acc, h, hb => by
    rw [List.map_cons, lcL_step (h x List.mem_cons_self) (by simp at hb; omega), lcL_fm p g (fun y hy => h y (List.mem_cons_of_mem _ hy)) (by split <;> simp at hb ⊢ <;> omega)]
    by_cases q : p x = true
    · rw [if_pos q, List.filter_cons_of_pos q]; simp
    · rw [if_neg q, List.filter_cons_of_neg q]; simp
theorem lcL_mp {α : Type} {us : List Nat} {tg : Tg} {t : M Bool} {m : M T} {c : α → D} (g : α → D) {s : S} {xs : List α} (h : ∀ x ∈ xs, lcStep us tg t m (c x) s = some (some (g x), s)) (hb : xs.length ≤ big) : lcL us tg t m (xs.map c) [] s = .ok (xs.map g) s := by
  rw [lcL_fm (fun _ => true) g (by simpa using h) (by simpa using hb)]
  congr 1
  rw [List.nil_append, List.filter_eq_self.mpr fun _ _ => rfl]
/-- with a state: an invariant -/
theorem lcL_inv {α : Type} {us : List Nat} {tg : Tg} {t : M Bool} {m : M T} {c : α → D} {I : List α → List D → S → Prop} (h : ∀ x r acc s, I (x :: r) acc s → acc.length < big ∧ ∃ o s', lcStep us tg t m (c x) s = some (o, s') ∧ I r (acc ++ o.toList) s') :
    ∀ {xs : List α} {acc : List D} {s : S}, I xs acc s → ∃ acc' s', lcL us tg t m (xs.map c) acc s = .ok acc' s' ∧ I [] acc' s'
  | [], acc, s, hi => ⟨acc, s, rfl, hi⟩
  | x :: r, acc, s, hi => by
    obtain ⟨hb, o, s', e, k⟩ := h x r acc s hi
    obtain ⟨acc', s2, e2, k2⟩ := lcL_inv h k
    exact ⟨acc', s2, by rw [List.map_cons, lcL_step e hb]; exact e2, k2⟩
def rng (lo : Int) : Nat → List Int
  | 0 => []
  | n + 1 => lo :: rng (lo + 1) n
theorem rngL_map : ∀ {n : Nat} {lo : Int}, rngL lo n = (rng lo n).map D.int
  | 0, _ => rfl
  | n + 1, lo => by rw [rngL_cons, rngL_map]; rfl
theorem rng_len : ∀ {n : Nat} {lo : Int}, (rng lo n).length = n
  | 0, _ => rfl
  | n + 1, lo => by simp [rng, rng_len (n := n)]
theorem rng_mem : ∀ {n : Nat} {lo i : Int}, i ∈ rng lo n → lo ≤ i ∧ i < lo + n
  | 0, _, _, h => nomatch h
  | n + 1, lo, i, h => by
    rcases List.mem_cons.mp h with h | h
    · omega
    · have := rng_mem h; omega
end Z

namespace Z
open PySem L2
theorem cutD_map {α β : Type} {f : α → β} {xs : List α} {l u : Option Int} : cutD (xs.map f) l u = (cutD xs l u).map f := by
  unfold cutD
  rw [List.length_map, List.map_take, List.map_drop]
theorem cutD_mem {α : Type} {xs : List α} {l u : Option Int} {x : α} (h : x ∈ cutD xs l u) : x ∈ xs := List.mem_of_mem_drop (List.mem_of_mem_take h)
theorem cutD_le {α : Type} {xs : List α} {l u : Option Int} : (cutD xs l u).length ≤ xs.length := by
  unfold cutD
  simp
  omega
theorem cutD_first {α : Type} {xs : List α} {k : Nat} : cutD xs none (some (k : Int)) = xs.take k := by
  unfold cutD
  rw [HT.sIx_none, HT.sIx_nat, List.drop_zero, Nat.sub_zero, Nat.min_comm]
  by_cases h : k ≤ xs.length
  · rw [Nat.min_eq_right h]
  · rw [Nat.min_eq_left (by omega), List.take_of_length_le (by omega), List.take_of_length_le (by omega)]
end Z

namespace Z
open PySem L2
open PyProof.Rows (envOfC)
/-! ### constants of the module -/
def litV : D → Value → Bool
  | .non, .none => true
  | .bl a, .bool b => a == b
  | .int a, .int b _ => a == b
  | .str a, .str b _ => a == b
  | _, _ => false
theorem litV_ok {c : Zc} {d : D} {u : Value} (h : litV d u = true) : ∃ v, RelV v u ∧ ∀ Z, RF c Z d v := by
  unfold litV at h
  split at h
  · exact ⟨.non, rfl, fun _ => .non⟩
  · have := beq_iff_eq.mp h; subst this; exact ⟨.bl _, rfl, fun _ => .bl⟩
  · have := beq_iff_eq.mp h; subst this; exact ⟨.int _, ⟨_, rfl⟩, fun _ => .int⟩
  · have := beq_iff_eq.mp h; subst this; exact ⟨.str _, ⟨_, rfl⟩, fun _ => .str⟩
  · cases h
def litL : List D → List Value → Bool
  | [], [] => true
  | d :: ds, u :: us => litV d u && litL ds us
  | _, _ => false
theorem litL_ok {c : Zc} : ∀ {ds : List D} {us : List Value}, litL ds us = true → ∃ vs, Vals vs us ∧ ds.length = vs.length ∧ ∀ Z (i : Nat) d w, ds[i]? = some d → vs[i]? = some w → RF c Z d w
  | [], [], _ => ⟨[], .nil, rfl, fun Z i d w h => by simp at h⟩
  | d :: ds, u :: us, h => by
    obtain ⟨h1, h2⟩ := Bool.and_eq_true_iff.mp h
    obtain ⟨v, r1, f1⟩ := litV_ok (c := c) h1
    obtain ⟨vs, r2, l2, f2⟩ := litL_ok (c := c) h2
    refine ⟨v :: vs, .cons r1 r2, by simp [l2], fun Z i d w hd hw => ?_⟩
    cases i with
    | zero => cases hd; cases hw; exact f1 Z
    | succ i => exact f2 Z i d w (by simpa using hd) (by simpa using hw)
  | [], _ :: _, h => by cases h
  | _ :: _, [], h => by cases h
section
variable {c : Zc} {h : Heap} {mg : Str → Option Value}
theorem gv_lit {x : Str} {d : D} {u : Value} (X0 : c.K.In h) (G0 : h.Ns mainGlobals mg) (a : PySem.W.nsIn c.K mainGlobals x = some (some u)) (hl : litV d u = true) : Gv c mg x d := by
  obtain ⟨v, h1, h2⟩ := litV_ok (c := c) hl
  exact ⟨v, u, PySem.W.mg_of X0 G0 a, h1, h2⟩
theorem gv_tup {x : Str} {ds : List D} {p : Addr} {od : Option Addr} {its : Array Value} {n : Nat} {sl : Array (Option Value)} (X0 : c.K.In h) (G0 : h.Ns mainGlobals mg) (a : PySem.W.nsIn c.K mainGlobals x = some (some (.ref p))) (l : c.K.lookup p = some ⟨.type "tuple", od, .seq its n, sl⟩)
    (hz : its.size ≤ sizeLine) (hl : litL ds its.toList = true) : Gv c mg x (.tup ds) := by
  obtain ⟨vs, h1, h2, h3⟩ := litL_ok (c := c) hl
  exact ⟨.ref p, _, PySem.W.mg_of X0 G0 a, rfl, fun Z => .tup (.inr ⟨_, its, n, l, rfl, rfl, hz, h1⟩) h2 (h3 Z)⟩
end
/-! ### the end -/
theorem z_end {l : PySem.W.OpenLaw} {q : Program} {loose : List Str} {XP : (Str → Option Value) → Heap → Prop} {YP : World → Heap → Prop} {d : DefRec} {K : Params → PySem.W.Frag} {cl : World → Str → Option Addr} {k : Nat} {x : Str} {fn : Fn} (hn : l.most = some 63) (hdf : d.params.defaults = []) (hr : Rg k callerA)
    (hY : ∀ (w : World) (h : Heap), YP w h → (K w.params).In h)
    (F0 : ∀ (w : World) (mg : Str → Option Value) (fa : Addr) (h : Heap), (K w.params).In h → h.Ns mainGlobals mg → mg d.name = some (.ref fa) → ∃ fd : FuncData, (∀ (s : Shared) (u : Value), BindsTo s fd ⟨[u], []⟩ [(x, u)]) ∧
      ∀ base : Heap, (K w.params).In base → base.Ns mainGlobals mg → FnG l.prog w (K w.params) mg base k fa fd [x] (spZ ⟨K w.params, cl w⟩ 1 fn))
    (hfn : ∀ ns : List Int, ns.length ≤ 63 → ∃ ts, fn [(.rol (ns.map D.int), 0)] = .ok (.bl true, 0) ts) :
    PySem.W.WalkO q loose XP YP l.row.toRowW d [] (fun f vs => PySem.call f vs) := by
  refine Att.attach_call hn hdf fun w s0 s1 mg mb fa o pm cd doc a vs ns G Y _ _ _ hmg hobj hints hlen hg => ?_
  have KX := hY w _ Y
  obtain ⟨fd, hbd, hF⟩ := F0 w mg fa _ KX G.T.g hmg
  refine law_g KX G.T.g G.T.b G.T.builtins G.T.nolimit hg hobj hints (Nat.le_trans hlen (by decide)) hr hF hbd fun H _ hS => ?_
  have hl := hlen
  obtain ⟨ts, e⟩ := hfn ns hl
  have rf : RF ⟨K w.params, cl w⟩ H (.rol (ns.map D.int)) (.ref a) := .rol hS (by simp) fun i d v h1 h2 => by
    rw [List.getElem?_map] at h1 h2
    cases q : ns[i]? with
    | none => rw [q] at h1; cases h1
    | some j => rw [q] at h1 h2; cases h1; cases h2; exact .int
  refine ⟨H, [(.rol (ns.map D.int), 0)], [], rfl, ⟨fun a o e => .inl e, ⟨[], [], rfl, ⟨rf, rfl⟩, rfl⟩, .nil, fun a h => nomatch h⟩, ?_⟩
  rw [e]
  intro Z' H' v fp' s' a'
  obtain ⟨f, g, ef, l1, l2⟩ := LR.split (by
    have := a'.lr.len
    simp only [List.length_append, List.length_cons, List.length_nil] at this ⊢
    omega) a'.lr
  obtain ⟨v', ev, r⟩ := LR.of_one l2
  cases ev
  obtain ⟨r, _⟩ := r
  cases r
  rfl
end Z

namespace Z
open PySem L2
open PySem.Spec PyProof.Rows
/-! ### lists changed by their methods -/
def gApp : G
  | .lst xs, [x] => if xs.length < big then some (.lst (xs ++ [x]), .non) else none
  | _, _ => none
def gExt : G
  | .lst xs, [.lst ys] => if xs.length + ys.length ≤ big then some (.lst (xs ++ ys), .non) else none
  | _, _ => none
def gPop : G
  | .lst xs, [] => (xs[xs.length - 1]?).map fun x => (.lst xs.dropLast, x)
  | _, _ => none
def gPopAt : G
  | .lst xs, [.int i] => if 0 ≤ i ∧ i < 2 ^ 62 then (xs[i.toNat]?).map fun x => (.lst (xs.eraseIdx i.toNat), x) else none
  | _, _ => none
def gClr : G
  | .lst _, [] => some (.lst [], .non)
  | _, _ => none
theorem gmut {g : G} (h : ∀ d ds x, g d ds = some x → ∃ xs, d = .lst xs) : ∀ d ds x, g d ds = some x → mutb d = true := fun d ds x e => by
  obtain ⟨xs, rfl⟩ := h d ds x e
  rfl
theorem gApp_m : ∀ d ds x, gApp d ds = some x → mutb d = true := gmut fun d ds x e => by
  unfold gApp at e
  split at e
  · exact ⟨_, rfl⟩
  · cases e
theorem gExt_m : ∀ d ds x, gExt d ds = some x → mutb d = true := gmut fun d ds x e => by
  unfold gExt at e
  split at e
  · exact ⟨_, rfl⟩
  · cases e
theorem gPop_m : ∀ d ds x, gPop d ds = some x → mutb d = true := gmut fun d ds x e => by
  unfold gPop at e
  split at e
  · exact ⟨_, rfl⟩
  · cases e
theorem gPopAt_m : ∀ d ds x, gPopAt d ds = some x → mutb d = true := gmut fun d ds x e => by
  unfold gPopAt at e
  split at e
  · exact ⟨_, rfl⟩
  · cases e
theorem gClr_m : ∀ d ds x, gClr d ds = some x → mutb d = true := gmut fun d ds x e => by
  unfold gClr at e
  split at e
  · exact ⟨_, rfl⟩
  · cases e
section
variable {c : Zc} {Z H : Hp}
theorem items_one {d : D} {v : V} (r : RF c Z d v) : ∀ (i : Nat) a w, [d][i]? = some a → [v][i]? = some w → RF c Z a w := fun i a w h1 h2 => by
  cases i with
  | zero => cases h1; cases h2; exact r
  | succ i => simp at h1
theorem ruApp : RuM c rAppend gApp := by
  intro Z H a o d d' e vs ds Q eg s ha ho hl hx k
  unfold gApp at eg
  split at eg
  · rename_i xs x
    split at eg
    · rename_i hb
      cases eg
      obtain ⟨ws, rfl, l, f⟩ := ho
      match vs, hl with
      | [v], _ =>
        refine ⟨a, ws, v, rfl, rfl, ha, Nat.lt_of_lt_of_le (l ▸ hb) big_le, k _ _ ⟨_, rfl, by simp [l], items_app l f (items_one (hx 0 x v rfl rfl))⟩ .non⟩
    · cases eg
  · cases eg
theorem ruExt : RuM c rExtend gExt := by
  intro Z H a o d d' e vs ds Q eg s ha ho hl hx k
  unfold gExt at eg
  split at eg
  · rename_i xs ys
    split at eg
    · rename_i hb
      cases eg
      obtain ⟨ws, rfl, l, f⟩ := ho
      match vs, hl with
      | [v], _ =>
        have r := hx 0 _ v rfl rfl
        cases r with
        | @lst b zs _ hz hlz hxz =>
          refine ⟨a, b, ws, zs, rfl, rfl, ha, s.get hz (fun _ e => nomatch e), Nat.le_trans (by rw [← l, ← hlz]; exact hb) big_le, k _ _ ⟨_, rfl, by simp [l, hlz], items_app l f hxz⟩ .non⟩
    · cases eg
  · cases eg
theorem ruPop : RuM c rPop gPop := by
  intro Z H a o d d' e vs ds Q eg s ha ho hl hx k
  unfold gPop at eg
  split at eg
  · rename_i xs
    cases q : xs[xs.length - 1]? with
    | none => rw [q] at eg; cases eg
    | some x =>
      rw [q] at eg
      cases eg
      obtain ⟨ws, rfl, l, f⟩ := ho
      match vs, hl with
      | [], _ =>
        have hlt := (List.getElem?_eq_some_iff.mp q).1
        have q2 : ws[ws.length - 1]? = some (ws[ws.length - 1]'(by omega)) := List.getElem?_eq_getElem _
        refine ⟨a, ws, _, rfl, rfl, ha, q2, k _ _ ⟨_, rfl, by simp [l], fun i d w h1 h2 => ?_⟩ (f _ _ _ q (by rw [l]; exact q2))⟩
        rw [List.dropLast_eq_take, List.getElem?_take] at h1 h2
        split at h1
        · split at h2
          · exact f i d w h1 h2
          · cases h2
        · cases h1
  · cases eg
theorem ruPopAt : RuM c rPopAt gPopAt := by
  intro Z H a o d d' e vs ds Q eg s ha ho hl hx k
  unfold gPopAt at eg
  split at eg
  · rename_i xs i
    split at eg
    · rename_i hi
      cases q : xs[i.toNat]? with
      | none => rw [q] at eg; cases eg
      | some x =>
        rw [q] at eg
        cases eg
        obtain ⟨ws, rfl, l, f⟩ := ho
        match vs, hl with
        | [v], _ =>
          have r := hx 0 _ v rfl rfl
          cases r
          have hlt := (List.getElem?_eq_some_iff.mp q).1
          have q2 : ws[i.toNat]? = some (ws[i.toNat]'(by omega)) := List.getElem?_eq_getElem _
          refine ⟨a, ws, i, i.toNat, _, rfl, rfl, ha, by omega, by omega, seqIndex_of hi.1 (by omega), q2, k _ _ ⟨_, rfl, by rw [List.length_eraseIdx, List.length_eraseIdx, l], fun j d w h1 h2 => ?_⟩ (f _ _ _ q q2)⟩
          rw [List.getElem?_eraseIdx] at h1 h2
          split at h1
          · rw [if_pos (by assumption)] at h2
            exact f j d w h1 h2
          · rw [if_neg (by assumption)] at h2
            exact f (j + 1) d w h1 h2
    · cases eg
  · cases eg
theorem ruClr : RuM c rClear gClr := by
  intro Z H a o d d' e vs ds Q eg s ha ho hl hx k
  unfold gClr at eg
  split at eg
  · cases eg
    obtain ⟨ws, rfl, l, f⟩ := ho
    match vs, hl with
    | [], _ => exact ⟨a, ws, rfl, rfl, ha, k _ _ ⟨[], rfl, rfl, fun i d w h => by simp at h⟩ .non⟩
  · cases eg
end
/-! ### d[k] -/
theorem ix_dget {X : Cx} (hu : X.A.units + 1 < cLine) : IxR X rDget := by
  intro value slice pins s σ H x y v u Q I rx ry h hs
  obtain ⟨a, w, rfl, g, q⟩ := h
  obtain rfl : v = Value.ref a := rx
  have hT := dict_typeIs I g
  unfold subscriptTail
  refine wpAny_bind ?_
  rw [getitemInPython_of_ne hT.not_modules]
  refine wpAny_bind (wpAny_specialOf hT PySem.F.slot_dict_getitem.lookup ?_)
  have fin : wpAny (model X.prog X.w) X.A (subscripted slice false (.ref a) u) (fun r s₃ => wpAny (model X.prog X.w) X.A (letTemporaryGo value (.ref a) r >>= fun _ => pure r) (EP X pins σ Q) X.xe s₃) X.xe s := by
    rw [hs]
    exact wpAny_operating (d_getItem hu I g ry fun w' s3 I3 rw' => wpAny_bind (wpAny_letTemporaryGo (wpAny_pure ⟨w, H, I3, rw', q⟩)))
  first
    | exact wpAny_pure (wpAny_bind fin)
    | exact wpAny_bind (wpAny_pure (wpAny_bind fin))
    | exact wpAny_bind fin
def fGet : F := fOr fIx fDget
theorem ruGet {c : Zc} : RuZ c (r2 fun x y H Q => rIx c.K x y H Q ∨ rDget x y H Q) fGet := ruOr2 ruIx ruDget
theorem ixAll {X : Cx} {c : Zc} (hK : c.K = X.K) (hu : X.A.units + 1 < cLine) : IxR X (fun x y H Q => rIx c.K x y H Q ∨ rDget x y H Q) := IxR.or (hK ▸ ix_seq) (ix_dget hu)
/-! ### {} and {k: v, ..} -/
def mDn : M T := fun s => .ok (.dct [], 1) s
section
variable {c : Zc} {L : Nat} {W : WX} {vc : Nat → Option V} {Z H Z' H' Z1 H1 : Hp} {σ : L2.St} {vx : List (Option V)} {st tx : S} {fp fp1 : List Addr}
theorem rt_dct {kvs : List (Key × D)} {vs : List (Key × V)} {p : Addr} (hk : kvs.map (·.1) = vs.map (·.1)) (hx : ∀ (i : Nat) d v, (kvs.map (·.2))[i]? = some d → (vs.map (·.2))[i]? = some v → RF c Z d v) : RT c Z (upd H p (.dK vs)) 1 (.dct kvs) (.ref p) [p] :=
  one_rt (d := .dct kvs) ⟨vs, rfl, hk, hx⟩
theorem mDn_rd {Q : VK} (h : rd c L W mDn σ H Q) : tDNewK σ H Q := by
  obtain ⟨Z, vc, vx, st, tx, fp, w, h⟩ := h
  intro p hp
  have al : Al Z H Z (upd H p (.dK [])) [p] := al_new w.sub hp
  exact h Z _ (.ref p) _ (Stp.of_al al) (w.al al (rt_dct (kvs := []) rfl fun i d v h => by simp at h))
/-- pairs of mirrors -/
def pairM : List (M T × M T) → List (M T)
  | [] => []
  | (k, v) :: r => k :: v :: pairM r
def keysOf : List D → Option (List (Key × D))
  | [] => some []
  | k :: v :: r => match kyV k, keysOf r with
    | some ky, some kvs => some ((ky, v) :: kvs)
    | _, _ => none
  | _ => none
/-- what comes of the pairs, from left to right -/
def mergeD (kvs more : List (Key × D)) : List (Key × D) := more.foldl (fun acc kv => putL acc kv.1 kv.2) kvs
def mDs (ps : List (M T × M T)) : M T := fun s => match evm (pairM ps) s with
  | .ok ts s' => match keysOf (ts.map (·.1)) with
    | some kvs => .ok (.dct (mergeD [] kvs), 1) s'
    | none => .no
  | .ex x s' => .ex x s'
  | .no => .no
theorem merge_rel : ∀ {more : List (Key × D)} {more' : List (Key × V)} {kvs : List (Key × D)} {vs : List (Key × V)} {Rl : D → V → Prop}, more.map (·.1) = more'.map (·.1) → (∀ (i : Nat) d v, (more.map (·.2))[i]? = some d → (more'.map (·.2))[i]? = some v → Rl d v) →
    kvs.map (·.1) = vs.map (·.1) → (∀ (i : Nat) d v, (kvs.map (·.2))[i]? = some d → (vs.map (·.2))[i]? = some v → Rl d v) →
    (mergeD kvs more).map (·.1) = (mergeK vs more').map (·.1) ∧ ∀ (i : Nat) d v, ((mergeD kvs more).map (·.2))[i]? = some d → ((mergeK vs more').map (·.2))[i]? = some v → Rl d v
  | [], [], _, _, _, _, _, h1, h2 => ⟨h1, h2⟩
  | (k, d) :: more, (k', v) :: more', kvs, vs, Rl, e, hx, h1, h2 => by
    simp only [List.map_cons, List.cons.injEq] at e
    obtain ⟨e1, e2⟩ := e
    subst e1
    obtain ⟨g1, g2⟩ := put_rel (k := k) h1 h2 (hx 0 d v rfl rfl)
    exact merge_rel (more := more) (more' := more') e2 (fun i d v a b => hx (i + 1) d v (by simpa using a) (by simpa using b)) g1 g2
  | [], _ :: _, _, _, _, e, _, _, _ => by cases e
  | _ :: _, [], _, _, _, e, _, _, _ => by cases e
/-- the dict on top takes other pairs -/
theorem wl_dset {a : Addr} {kvs : List (Key × D)} (w : Wl c L vc Z H σ (vx ++ [some (.ref a)]) st (tx ++ [.ow (.dct kvs) 1]) fp) (hvc : ∀ j v, vc j = some v → L ≤ j ∧ vx[j - L]? = some (some v)) :
    ∃ vs, H a = some (.dK vs) ∧ kvs.map (·.1) = vs.map (·.1) ∧ (∀ (i : Nat) d v, (kvs.map (·.2))[i]? = some d → (vs.map (·.2))[i]? = some v → RF c Z d v) ∧
      ∀ kvs' vs', kvs'.map (·.1) = vs'.map (·.1) → (∀ (i : Nat) d v, (kvs'.map (·.2))[i]? = some d → (vs'.map (·.2))[i]? = some v → RF c Z d v) →
        ∃ fp', Stp fp Z H fp' Z (L2.upd H a (.dK vs')) ∧ Wl c L vc Z (L2.upd H a (.dK vs')) σ (vx ++ [some (.ref a)]) st (tx ++ [.ow (.dct kvs') 1]) fp' := by
  obtain ⟨g, f, e, ⟨v', e', r⟩, w2⟩ := w.pop hvc
  cases e'
  obtain ⟨b, vs, f', e1, h1, h0, h2, h3⟩ := r
  cases e1
  have nd := w.nd
  rw [e] at nd
  have n1 := List.nodup_append.mp nd
  obtain ⟨ef, _, hx⟩ := lr0_inv h2
  subst ef
  rw [h3] at e n1
  have hag : ∀ x ∈ g, x ≠ a := fun x hx q => n1.2.2 x hx a List.mem_cons_self q
  have ha : a ∈ fp := by rw [e]; exact List.mem_append_right _ List.mem_cons_self
  have sb : ∀ o, Sub Z (L2.upd H a o) := fun o b u q => by
    have ne : b ≠ a := fun z => by
      subst z
      rw [w.dj b ha] at q
      cases q
    rw [upd_ne ne]
    exact w.sub b u q
  have n1' : [a].Nodup := by simp
  refine ⟨vs, h1, h0, hx, fun kvs' vs' hk hx' => ⟨g ++ [a], ?_, w2.push (Sm.refl Z) (sb _) (fun x hx => by rw [upd_ne (hag x hx)]) (rt_dct hk hx') (fun x hx hb => hag x hb (List.mem_singleton.mp hx)) w2.dj n1' fun x hx => by rw [List.mem_singleton.mp hx]; exact w.dj a ha⟩⟩
  refine ⟨Sm.refl Z, fun b o q hb _ => ?_, fun b q => ?_, fun b hb => .inl (by rw [e]; exact hb), fun b q => .inl q⟩
  · have ne : b ≠ a := fun z => hb (by rw [z]; exact ha)
    rw [upd_ne ne]; exact q
  · by_cases z : b = a
    · subst z; rw [upd_same]; exact fun z => nomatch z
    · rw [upd_ne z]; exact q
theorem tMs_mono {ms : List (M T)} : ∀ {H : Hp} {P P' : List V → Hp → Prop}, (∀ vs H, P vs H → P' vs H) → tMs c L W ms σ H P → tMs c L W ms σ H P' := by
  induction ms with
  | nil => intro H P P' k h; exact k _ _ h
  | cons m ms ih => intro H P P' k h; exact rd_mono (fun v H1 h1 => ih (fun vs H2 h2 => k _ _ h2) h1) h
theorem tPairs_run : ∀ (ps : List (M T × M T)) {H : Hp} {Q : List (V × V) → Hp → Prop}, tMs c L W (pairM ps) σ H (fun vs H1 => ∀ qs : List (V × V), vs = qs.flatMap (fun q => [q.1, q.2]) → qs.length = ps.length → Q qs H1) → tPairs (ps.map fun p => (rd c L W p.1, rd c L W p.2)) σ H Q
  | [], H, Q, h => h [] rfl rfl
  | (k, v) :: ps, H, Q, h => rd_mono (fun x H1 h1 => rd_mono (fun y H2 h2 => tPairs_run ps (tMs_mono (fun vs H3 h3 qs e l => h3 ((x, y) :: qs) (by rw [e]; rfl) (by simp [l])) h2)) h1) h
theorem kyV_rf {d : D} {v : V} {k : Key} (r : RF c Z d v) (e : kyV d = some k) : v = kV k := kyV_tre (t := (d, 0)) (rf_tre (H := Z) (fp := []) r) e
theorem keysOf_rel : ∀ {ds : List D} {qs : List (V × V)} {kvs : List (Key × D)}, keysOf ds = some kvs → ds.length = (qs.flatMap fun q => [q.1, q.2]).length → (∀ (i : Nat) d v, ds[i]? = some d → (qs.flatMap fun q => [q.1, q.2])[i]? = some v → RF c Z d v) →
    ∃ vs : List (Key × V), qs = vs.map (fun kv => (kV kv.1, kv.2)) ∧ kvs.map (·.1) = vs.map (·.1) ∧ ∀ (i : Nat) d v, (kvs.map (·.2))[i]? = some d → (vs.map (·.2))[i]? = some v → RF c Z d v
  | [], [], kvs, h, _, _ => by
    cases h
    exact ⟨[], rfl, rfl, fun i d v h => by simp at h⟩
  | k :: v :: r, q :: qs, kvs, h, hl, hx => by
    obtain ⟨x, y⟩ := q
    simp only [keysOf] at h
    cases e1 : kyV k with
    | none => rw [e1] at h; cases h
    | some ky =>
      cases e2 : keysOf r with
      | none => rw [e1, e2] at h; cases h
      | some kr =>
        rw [e1, e2] at h
        cases h
        obtain ⟨vs, g1, g2, g3⟩ := keysOf_rel e2 (qs := qs) (by simpa using hl) fun i d v h1 h2 => hx (i + 2) d v (by simpa using h1) (by simpa using h2)
        have rk := kyV_rf (hx 0 k x rfl rfl) e1
        have rv := hx 1 v y rfl rfl
        subst rk
        refine ⟨(ky, y) :: vs, by rw [g1]; rfl, by simp [g2], fun i d v h1 h2 => ?_⟩
        cases i with
        | zero => cases h1; cases h2; exact rv
        | succ i => exact g3 i d v (by simpa using h1) (by simpa using h2)
  | [], _ :: _, _, _, hl, _ => by simp at hl
  | _ :: _ :: _, [], _, _, hl, _ => by simp at hl
  | [_], _, _, h, _, _ => by cases h
theorem keysOf_len : ∀ {ds : List D} {kvs : List (Key × D)}, keysOf ds = some kvs → ds.length = 2 * kvs.length
  | [], kvs, h => by cases h; rfl
  | [_], kvs, h => by cases h
  | k :: v :: r, kvs, h => by
    simp only [keysOf] at h
    cases e1 : kyV k with
    | none => rw [e1] at h; cases h
    | some ky =>
      cases e2 : keysOf r with
      | none => rw [e1, e2] at h; cases h
      | some kr =>
        rw [e1, e2] at h
        cases h
        have := keysOf_len e2
        simp only [List.length_cons]
        omega
theorem pairM_len : ∀ {ps : List (M T × M T)}, (pairM ps).length = 2 * ps.length
  | [] => rfl
  | p :: ps => by simp only [pairM, List.length_cons, pairM_len (ps := ps)]; omega
theorem flat_exists : ∀ {n : Nat} {vs : List V}, vs.length = 2 * n → ∃ qs : List (V × V), vs = qs.flatMap (fun q => [q.1, q.2]) ∧ qs.length = n
  | 0, [], _ => ⟨[], rfl, rfl⟩
  | n + 1, x :: y :: vs, h => by
    obtain ⟨qs, e, l⟩ := flat_exists (n := n) (vs := vs) (by simp at h; omega)
    exact ⟨(x, y) :: qs, by rw [e]; rfl, by simp [l]⟩
  | 0, _ :: _, h => by simp at h
  | n + 1, [], h => by simp at h
  | n + 1, [_], h => by simp at h; omega
theorem mDs_rd {ps : List (M T × M T)} {Q : VK} (hl : ps.length ≤ 15) (h : rd c L W (mDs ps) σ H Q) : tDisp (ps.map fun p => (rd c L W p.1, rd c L W p.2)) σ H Q := by
  obtain ⟨Z, vc, vx, st, tx, fp, w, h⟩ := h
  intro p hp
  have al : Al Z H Z (L2.upd H p (.dK [])) [p] := al_new w.sub hp
  have w1 := w.al (d := .dct []) (n := 1) (v := .ref p) al (rt_dct (kvs := []) rfl fun i d v h => by simp at h)
  refine tPairs_run ps (tMs_run w1 ?_)
  cases q : evm (pairM ps) st with
  | no => simp only [mDs, q] at h; exact h.elim
  | ex x s =>
    simp only [mDs, q] at h
    intro Z1 H1 fp1 cls dd s1 w1 hx
    obtain ⟨g, hg, w2⟩ := w1.pop' w.hvc
    exact h Z1 H1 g cls dd (((Stp.of_al al).trans s1).trans (Stp.less hg)) w2 hx
  | ok ts s =>
    simp only [mDs, q] at h
    intro Z1 H1 vs fp1 s1 hl1 w1 qs eq lq
    cases q2 : keysOf (ts.map (·.1)) with
    | none => simp only [q2] at h; exact h.elim
    | some kvs =>
      simp only [q2] at h
      have hvc1 : ∀ j v, vc j = some v → L ≤ j ∧ (vx ++ [some (V.ref p)])[j - L]? = some (some v) := fun j v e => by
        obtain ⟨a1, a2⟩ := w.hvc j v e
        exact ⟨a1, by rw [List.getElem?_append_left (List.getElem?_eq_some_iff.mp a2).1]; exact a2⟩
      obtain ⟨Z2, g2, w2, s2, rf⟩ := Wl.frz w1 hvc1 hl1
      obtain ⟨vs0, e0, k0, _, kk⟩ := wl_dset w2 w.hvc
      have v0 : vs0 = [] := by
        have := congrArg List.length k0
        simp at this
        exact List.eq_nil_of_length_eq_zero this.symm
      subst v0
      subst eq
      obtain ⟨vs', g1, g3, g4⟩ := keysOf_rel q2 (qs := qs) (by rw [hl1, List.length_map]) rf
      obtain ⟨m1, m2⟩ := merge_rel (Rl := fun d v => RF c Z2 d v) g3 g4 (kvs := []) (vs := []) rfl fun i d v h => by simp at h
      obtain ⟨fp3, s3, w3⟩ := kk (mergeD [] kvs) (mergeK [] vs') m1 m2
      refine ⟨e0, vs', g1, ?_, h Z2 _ (.ref p) fp3 ((((Stp.of_al al).trans s1).trans s2).trans s3) w3⟩
      have : vs'.length = qs.length := by rw [g1, List.length_map]
      omega

/-! ### {k: v for ..} -/
def dcL (us : List Nat) (tg : Tg) (t : M Bool) (mk mv : M T) : List D → List (Key × D) → S → R (List (Key × D))
  | [], acc, s => .ok acc s
  | d :: ds, acc, s => match tg.set d s with
    | none => .no
    | some s1 => match t s1 with
      | .ok false s2 => dcL us tg t mk mv ds acc (wipeS s2 us)
      | .ok true s2 => match evm [mk, mv] s2 with
        | .ok [k, v] s3 => match kyV k.1 with
          | some ky => if acc.length < big then dcL us tg t mk mv ds (putL acc ky v.1) (wipeS s3 us) else .no
          | none => .no
        | _ => .no
      | _ => .no
def mDc (us : List Nat) (tg : Tg) (mi : M (List D)) (t : M Bool) (mk mv : M T) : M T := fun s => match mi s with
  | .ok items s1 => match dcL us tg t mk mv items [] (wipeS s1 us) with
    | .ok acc s2 => .ok (.dct acc, 1) s2
    | _ => .no
  | .ex x s1 => .ex x s1
  | .no => .no
theorem mDc_rd {us : List Nat} {tg : Tg} {g : TG} {mi : M (List D)} {t : M Bool} {mk mv : M T} {Q : VK} (hL : ∀ i ∈ us, i < L) (hg : TgR c L g tg) (hs : ∀ i ∈ tg.slots, i ∈ us) (h : rd c L W (mDc us tg mi t mk mv) σ H Q) :
    tDc (rdI c L W mi) g (rdT c L Wf t) (rd c L Wf mk) (rd c L Wf mv) us σ H Q := by
  obtain ⟨Z, vc, vx, st, tx, fp, w, h⟩ := h
  refine ⟨Z, vc, vx, st, tx, fp, w, ?_⟩
  cases q : mi st with
  | no => simp only [mDc, q] at h; exact h
  | ex x s => simp only [mDc, q] at h; exact h
  | ok items s =>
    simp only [mDc, q] at h
    cases q2 : dcL us tg t mk mv items [] (wipeS s us) with
    | no => simp only [q2] at h; exact h.elim
    | ex x s => simp only [q2] at h; exact h.elim
    | ok accF sF =>
      simp only [q2] at h
      intro Z1 H1 fp1 J s1 w1 it a ha
      have al0 : Al Z1 H1 Z1 (L2.upd H1 a (.dK [])) [a] := al_new w1.sub ha
      have w1a : Wl c L vc Z1 (L2.upd H1 a (.dK [])) σ (vx ++ [some (.ref a)]) s (tx ++ [.ow (.dct []) 1]) (fp1 ++ [a]) := w1.al al0 (rt_dct (kvs := []) rfl fun i d w h => by simp at h)
      obtain ⟨fp0, k0, w0⟩ := w1a.forgets hL
      have s0 : Stp fp1 Z1 H1 fp0 Z1 (L2.upd H1 a (.dK [])) := (Stp.of_al al0).trans (Stp.less k0)
      refine ⟨fun i k H' => k = items.length - i ∧ i ≤ items.length ∧ ∃ Z' st' fp' acc, Stp fp1 Z1 H1 fp' Z' H' ∧ Wl c L vc Z' H' (wipe σ us) (vx ++ [some (.ref a)]) st' (tx ++ [.ow (.dct acc) 1]) fp' ∧ unAt st' us ∧ dcL us tg t mk mv (items.drop i) acc st' = .ok accF sF,
        ⟨items.length, by simp, Nat.zero_le _, Z1, wipeS s us, fp0, [], s0, w0, wipeS_un fun i hi => Nat.lt_of_lt_of_le (hL i hi) w1.hst, q2⟩, ?_⟩
      rintro i k H' ⟨rfl, hi, Z', st', fp', acc, s', w', hu, hr⟩
      by_cases hlt : i < items.length
      · refine .inr ⟨it.go i Z' H' s'.zz w'.sub hlt, fun H2 => ∃ Z' st' fp' acc, Stp fp1 Z1 H1 fp' Z' H2 ∧ Wl c L vc Z' H2 (wipe σ us) (vx ++ [some (.ref a)]) st' (tx ++ [.ow (.dct acc) 1]) fp' ∧ unAt st' us ∧ dcL us tg t mk mv (items.drop (i + 1)) acc st' = .ok accF sF,
          fun H2 hn => ⟨items.length - (i + 1), by omega, rfl, hlt, hn⟩, fun x H2 hy => ?_⟩
        obtain ⟨Z2, al, rf⟩ := it.yld i Z' H' x H2 items[i] s'.zz w'.sub (List.getElem?_eq_getElem hlt) hy
        rw [List.drop_eq_getElem_cons hlt] at hr
        cases q3 : tg.set items[i] st' with
        | none => simp only [dcL, q3] at hr; cases hr
        | some s2 =>
          simp only [dcL, q3] at hr
          have wal := w'.al (d := .non) (n := 0) (v := .non) al ⟨.non, rfl⟩
          obtain ⟨g0, f0, e0, _, w2⟩ := wal.pop w'.hvc
          have sg : Stp fp' Z' H' g0 Z2 H2 := (Stp.of_al al).trans (Stp.less fun a ha => by rw [e0]; exact List.mem_append_left _ ha)
          refine hg w2 rf q3 fun σ3 fp3 h3 w3 hw3 => ?_
          have ew : wipe σ3 us = wipe σ us := (hw3 us hs).trans wipe_wipe
          refine ⟨ew, Z2, vc, _, s2, _, fp3, w3, ?_⟩
          have st3 : Stp fp1 Z1 H1 fp3 Z2 H2 := (s'.trans sg).trans (Stp.less h3)
          cases q4 : t s2 with
          | no => simp only [q4] at hr; cases hr
          | ex x s => simp only [q4] at hr; cases hr
          | ok b s4 =>
            intro Z4 H4 fp4 st4 w4
            have st4' := st3.trans st4
            cases b with
            | false =>
              simp only [q4] at hr
              rw [if_neg Bool.false_ne_true]
              obtain ⟨fp5, k5, w5⟩ := w4.forgets hL
              rw [ew] at w5
              exact ⟨Z4, _, fp5, acc, st4'.trans (Stp.less k5), w5, wipeS_un fun i hi => Nat.lt_of_lt_of_le (hL i hi) w4.hst, hr⟩
            | true =>
              simp only [q4] at hr
              rw [if_pos rfl]
              have run : tMs c L Wf [mk, mv] σ3 H4 fun vs H6 => ∃ y z, vs = [y, z] ∧ ∃ kvs k, y = kV k ∧ H6 a = some (.dK kvs) ∧ kvs.length < sizeLine ∧ ∃ Z' st' fp' acc, Stp fp1 Z1 H1 fp' Z' (L2.upd H6 a (.dK (putK kvs k z))) ∧ Wl c L vc Z' (L2.upd H6 a (.dK (putK kvs k z))) (wipe σ us) (vx ++ [some (.ref a)]) st' (tx ++ [.ow (.dct acc) 1]) fp' ∧ unAt st' us ∧ dcL us tg t mk mv (items.drop (i + 1)) acc st' = .ok accF sF := by
                refine tMs_run w4 ?_
                cases q5 : evm [mk, mv] s4 with
                | no => simp only [q5] at hr; cases hr
                | ex x s => simp only [q5] at hr; cases hr
                | ok ys s6 =>
                  simp only [q5] at hr
                  match ys, hr with
                  | [k, v], hr =>
                    simp only at hr
                    cases q6 : kyV k.1 with
                    | none => simp only [q6] at hr; cases hr
                    | some ky =>
                      simp only [q6] at hr
                      by_cases kb : acc.length < big
                      · rw [if_pos kb] at hr
                        intro Z6 H6 vs6 fp6 st6 hl6 w6
                        obtain ⟨Z7, g7, w7, st7, rf7⟩ := Wl.frz w6 w4.hvc hl6
                        obtain ⟨vs, e8, l8, x8, k8⟩ := wl_dset w7 w.hvc
                        match vs6, hl6, rf7 with
                        | [y, z], _, rf7 =>
                          have ry := kyV_rf (rf7 0 k.1 y rfl rfl) q6
                          have rz := rf7 1 v.1 z rfl rfl
                          obtain ⟨p1, p2⟩ := put_rel (k := ky) l8 x8 rz
                          obtain ⟨fp9, st9, w9⟩ := k8 _ _ p1 p2
                          obtain ⟨fp10, k10, w10⟩ := w9.forgets hL
                          rw [ew] at w10
                          have hlen : vs.length = acc.length := by simpa using (congrArg List.length l8).symm
                          exact ⟨y, z, rfl, vs, ky, ry, e8, Nat.lt_of_lt_of_le (by omega) big_le, Z7, _, fp10, _, (((st4'.trans st6).trans st7).trans st9).trans (Stp.less k10), w10, wipeS_un fun i hi => Nat.lt_of_lt_of_le (hL i hi) w7.hst, hr⟩
                      · rw [if_neg kb] at hr; cases hr
                  | [], hr => cases hr
                  | [_], hr => cases hr
                  | _ :: _ :: _ :: _, hr => cases hr
              refine rd_mono (fun y H5 h5 => rd_mono (fun z H6 h6 => ?_) h5) run
              obtain ⟨y', z', e, h7⟩ := h6
              cases e
              exact h7
      · have e : items.drop i = [] := List.drop_eq_nil_of_le (by omega)
        rw [e] at hr
        cases hr
        exact .inl ⟨it.stop i Z' H' s'.zz w'.sub (by omega), h Z' H' (.ref a) fp' (s1.trans s') (w'.unwipe hu)⟩
end
section
variable {X : Cx} {c : Zc} {L : Nat} {W : WX} {pos : Pos}
theorem ze_dn : ZE X c L W (.Dict [] [] pos) mDn := PE.imp pe_dnewK fun _ _ _ => mDn_rd
abbrev ZPs (X : Cx) (c : Zc) (L : Nat) (W : WX) (pos : Pos) (ks : List (Option Expr)) (vs : List Expr) (ps : List (M T × M T)) : Prop := PPs X pos ks vs (ps.map fun p => (rd c L W p.1, rd c L W p.2))
theorem zps_nil : ZPs X c L W pos [] [] [] := pps_nil
theorem zps_cons {k v : Expr} {ks : List (Option Expr)} {vs : List Expr} {mk mv : M T} {ps : List (M T × M T)} (hk : ZE X c L W k mk) (hv : ZE X c L W v mv) (hr : ZPs X c L W pos ks vs ps) : ZPs X c L W pos (some k :: ks) (v :: vs) ((mk, mv) :: ps) := pps_cons hk hv hr
theorem ze_ds {keys : List (Option Expr)} {values : List Expr} {ps : List (M T × M T)} (h : ZPs X c L W pos keys values ps) (hp : ps.length ≤ 15 := by decide) (hall : keys.all (·.isSome) = true := by rfl) (hl : keys.length = values.length := by rfl) (h0 : keys ≠ [] := by exact fun z => nomatch z)
    (h15 : keys.length ≤ 15 := by decide) : ZE X c L W (.Dict keys values pos) (mDs ps) := PE.imp (pe_disp h hall hl h0 h15) fun _ _ _ => mDs_rd hp
theorem ze_dc {kx vx tg iter : Expr} {ifs : List Expr} {scope : Scope} {own : List (Str × Nat)} {g : TG} {tgz : Tg} {mi : M (List D)} {t : M Bool} {mk mv : M T} (hc : X.calm = true) (hN : X.N.Nodup) (hi : ZI X c L W tg iter mi) (ok : BlkOk X.N X.env.scope scope own)
    (hg : ∀ (s : Shared) (H : Hp) (C : Addr) (cl : List (Str × Addr)) (fp : List Addr), PG (X.blk s H scope (compEnvC scope cl C X.env) fp) tg g) (hz : TgR c L g tgz)
    (ht : ∀ (s : Shared) (H : Hp) (C : Addr) (cl : List (Str × Addr)) (fp : List Addr), PTs (X.blk s H scope (compEnvC scope cl C X.env) fp) ifs (rdT c L Wf t))
    (hk : ∀ (s : Shared) (H : Hp) (C : Addr) (cl : List (Str × Addr)) (fp : List Addr), ZE (X.blk s H scope (compEnvC scope cl C X.env) fp) c L Wf kx mk)
    (he : ∀ (s : Shared) (H : Hp) (C : Addr) (cl : List (Str × Addr)) (fp : List Addr), ZE (X.blk s H scope (compEnvC scope cl C X.env) fp) c L Wf vx mv)
    (hL : ∀ i ∈ own.map (·.2), i < L := by decide) (hsl : ∀ i ∈ tgz.slots, i ∈ own.map (·.2) := by decide) (hs : ∀ x, foldedSetIterable iter X.env x = pure x := by intro _; rfl) :
    ZE X c L W (.DictComp kx vx [⟨tg, iter, ifs, 0⟩] scope pos) (mDc (own.map (·.2)) tgz mi t mk mv) := PE.imp (pe_dc hc hN hi ok hg ht hk he hs) fun _ _ _ q => mDc_rd hL hz hsl q
end
end Z

namespace Z
open PySem L2
open PySem.Spec PyProof.Rows
/-! ### sorted(x, key=str) of texts -/
def strLe (a b : Str) : Bool := PySem.W.dataLe false (fun s => PyData.str s) a b
section
variable {prog : Program} {w : World} {A : Around} {E : Value → Shared → Prop} {s : Shared} {r d : Addr} {T : String} {n : Nat} {P : Nat → Value → Prop} {OK : Heap → Prop}
theorem collect_kdl {Q : List Value → Shared → Prop} (K : PySem.W.KdlSrc prog w T r d n P OK) (hh : A.handled = none) (hok : OK s.heap) (hn : n ≤ sizeLine)
    (hQ : ∀ (h' : Heap) (tk : Nat) (acc : Array Value), (∀ b o, s.heap.get? b = some o → h'.get? b = some o) → s.heap.objs.size ≤ h'.objs.size → ItemsOf P acc n → Q acc.toList { s with heap := h', toks := tk }) :
    wpAny (model prog w) A (collect (.ref r)) Q E s := by
  unfold collect
  refine wpAny_bind (wpAny_runValue (codeAny_builtin F.entry_proto_collect ?_))
  rw [Around.under_plainId F.plain_proto_collect _]
  show wpAny _ A.in1 (newList [] >>= fun l => again (.builtin "list.__iadd__" ⟨[l, .ref r], []⟩)) _ _ s
  refine wpAny_bind (wpAny_newObj_type ?_)
  refine wpAny_pure ⟨plainId_quiet F.plain_list_iadd _, codeAny_builtin F.entry_list_iadd ?_⟩
  rw [Around.under_plainId F.plain_list_iadd _]
  show wpAny _ A.in1 (Builtin.List.listExtendWith (.ref s.heap.objs.size) (.ref r) (.ref s.heap.objs.size)) _ _ _
  have hS : (s.heap.push { cls := .type "list", data := .seq ([] : List Value).toArray }).get? s.heap.objs.size = some { cls := .type "list", data := .seq #[] 0 } := Heap.get?_push_size _ rfl
  have hlt := K.there _ hok
  refine wpAny_mono (PySem.W.kdl_extend (A := A) (R := fun rr s' => rr = .ok (.ret (.ref s.heap.objs.size)) ∧ ∃ (h' : Heap) (tk : Nat) (acc : Array Value) (c' : Nat), s' = { s with heap := h', toks := tk } ∧
      (∀ b o, s.heap.get? b = some o → h'.get? b = some o) ∧ h'.get? s.heap.objs.size = some { cls := .type "list", dict := none, data := .seq acc c', slots := #[] } ∧ ItemsOf P acc n)
    (s := { s with heap := s.heap.push { cls := .type "list", data := .seq ([] : List Value).toArray } }) K hh (K.keep _ _ hok fun b _ o e => Heap.get?_push_of_some _ e) s.heap.objs.size (Nat.ne_of_gt hlt.1) (Nat.ne_of_gt hlt.2) _ 0 hS
    (fun h' tk acc c' hk e hi => ⟨rfl, h', tk, acc, c', rfl, fun b o q => hk b o (Nat.ne_of_lt (Heap.lt_size q)) (Heap.get?_push_of_some _ q), e, hi⟩) hn) (fun fin s' h => ?_) (fun e s' h => ?_)
  · cases fin with
    | done f =>
      obtain ⟨e, h', tk, acc, c', rfl, hk, hS', hi⟩ := h
      cases e
      show wpAny _ A (load s.heap.objs.size >>= _) _ _ _
      exact wpAny_bind (wpAny_load hS' (wpAny_pure (hQ h' tk acc hk (Nat.le_of_lt (Heap.lt_size hS')) hi)))
    | again c' =>
      refine ⟨h.1, codeAny_mono h.2 fun rr s'' hr' => ?_⟩
      obtain ⟨rfl, h', tk, acc, c', rfl, hk, hS', hi⟩ := hr'
      show wpAny _ A (load s.heap.objs.size >>= _) _ _ _
      exact wpAny_bind (wpAny_load hS' (wpAny_pure (hQ h' tk acc hk (Nat.le_of_lt (Heap.lt_size hS')) hi)))
  · exact absurd h.1 (by simp)
theorem each_strs : ∀ {vs : List Value} {ss : List Str}, Vals (ss.map V.str) vs → PySem.W.EachIs (fun v x => ∃ t, v = Value.str x t) vs ss
  | [], [], _ => .nil
  | v :: vs, s :: ss, h => by
    cases h with
    | cons h1 h2 => exact .cons h1 (each_strs h2)
  | [], _ :: _, h => by cases h
  | _ :: _, [], h => by cases h
theorem strs_each : ∀ {vs : List Value} {ss : List Str}, PySem.W.EachIs (fun v x => ∃ t, v = Value.str x t) vs ss → Vals (ss.map V.str) vs
  | [], [], _ => .nil
  | v :: vs, s :: ss, h => by
    cases h with
    | cons h1 h2 => exact .cons h1 (strs_each h2)
  | [], _ :: _, h => by cases h
  | _ :: _, [], h => by cases h
theorem list_sort_t7 (i : String) (a : Addr) : Builtin.«list.sort» ⟨[.ref a], [(Str.ofString "key", .type i)]⟩ = ksk_tree a (.type i) false := rfl
/-- .. of what collects to texts -/
theorem sorted_str {x : Value} {Q : Value → Shared → Prop} {ss : List Str} (hz : ss.length ≤ sizeLine) (hu : A.units + 8 < cLine)
    (hc : ∀ (E' : Value → Shared → Prop) (P : List Value → Shared → Prop), (∀ (h' : Heap) (tk : Nat) (vs : List Value), (∀ b o, s.heap.get? b = some o → h'.get? b = some o) → s.heap.objs.size ≤ h'.objs.size → Vals (ss.map V.str) vs → P vs { s with heap := h', toks := tk }) → wpAny (model prog w) A.in1 (collect x) P E' s)
    (h : ∀ (h' : Heap) (tk : Nat) (out : List Value) (a c : Nat), (∀ b o, s.heap.get? b = some o → h'.get? b = some o) → s.heap.objs.size ≤ a → h'.get? a = some (seqObj "list" out.toArray c) → Vals ((ss.mergeSort strLe).map V.str) out → Q (.ref a) { s with heap := h', toks := tk }) :
    wpAny (model prog w) A (call (.builtin "sorted") [x] [(Str.ofString "key", .type "str")]) Q E s := by
  refine call_function_entry_kw kind_sorted plain_sorted entry_sorted (ksk_s1 _ _) ?_
  unfold Builtin.«sorted»
  refine wpAny_bind (m := checkCount "sorted" 1 1 _) (wpAny_pure ?_)
  refine wpAny_bind (hc _ _ fun h1 tk vs keep hsz rv => ?_)
  have hvl : vs.length = ss.length := by
    have := rv.length
    rw [List.length_map] at this
    exact this.symm
  refine wpAny_bind (wpAny_newList ?_ (by rw [hvl]; exact hz))
  have hget : (h1.push { cls := .type "list", data := .seq vs.toArray }).get? h1.objs.size = some (seqObj "list" vs.toArray 0) := Heap.get?_push_size _ rfl
  refine wpAny_bind (wpAny_holding (PySem.W.list_sort_key_data (A := A.in1) (R := fun v x => ∃ t, v = Value.str x t) (b := false) (fun s => PyData.str s) hget (each_strs rv) (fun d hd d' hd' => ?_) (.inr fun d hd => ?_) hz (fun y hy => ?_) (ksk_l1 _ _) (list_sort_t7 _ _) (fun v y hv hy h2 tk2 kp => ?_) fun out c h2 tk2 kp hD ho ho2 => ?_))
  · obtain ⟨s1, _, rfl⟩ := List.mem_map.mp hd
    obtain ⟨s2, _, rfl⟩ := List.mem_map.mp hd'
    rfl
  · obtain ⟨s1, _, rfl⟩ := List.mem_map.mp hd
    exact ⟨fun z => (nomatch z), fun _ z => (nomatch z)⟩
  · have e1 : A.in1.units ≤ A.units + 1 := by first | exact Nat.le_refl _ | (show _ ≤ _; unfold Around.in1 Around.units; omega)
    have e2 : (PyData.str y).depth = 0 := by rfl
    rw [e2]
    omega
  · obtain ⟨t, rfl⟩ := hv
    exact PySem.P.str_of_str ⟨h2, tk2, rfl, fun b o e => e, .str y t⟩
  · refine wpAny_pure ⟨_, rfl, ?_⟩
    refine h h2 tk2 out h1.objs.size c (fun b o e => ?_) hsz hD (strs_each ho2)
    have hlt : b < h1.objs.size := Heap.lt_size (keep b o e)
    exact kp b o (Nat.ne_of_lt hlt) (Heap.get?_push_of_some _ (keep b o e))
end
end Z
namespace Z
open PySem L2
open PySem.Spec PyProof.Rows
section
variable {X : Cx}
/-- sorted(x, key=str), x a list, a tuple or a dict of texts -/
def rSortStr (K : PySem.W.Frag) : List V → List V → Hp → VK → Prop := fun vs zs H Q => ∃ (a : Addr) (ss : List Str), vs = [V.ref a] ∧ zs = [.ty "str"] ∧ ss.length ≤ sizeLine ∧ (SqL K H a (ss.map V.str) ∨ ∃ kvs : List (Key × V), Rd H a (.dK kvs) ∧ kvs.map (·.1) = ss.map Sum.inr) ∧
  ∀ p, H p = none → Q (.ref p) (upd H p (.lst ((ss.mergeSort strLe).map V.str)))
theorem cr_sortStr (hu : X.A.units + 8 < cLine) (hh : X.calm = true) : CallRK X (.builtin "sorted") [Str.ofString "key"] (rSortStr X.K) := by
  intro pins s σ H vs zs us ws Q I r rz h
  obtain ⟨a, ss, rfl, rfl, hz, hs, q⟩ := h
  obtain rfl := Vals.ref1 r
  obtain ⟨w1, rfl, e1⟩ := vals1 rz
  obtain rfl : w1 = Value.type "str" := e1
  refine sorted_str hz hu (fun E' P hP => ?_) fun h' tk out b c keep hb hD rv => ?_
  · rcases hs with hs | ⟨kvs, hk, ek⟩
    · obtain ⟨its, rv, hl, hz2⟩ := I.list hs
      have hil : its.length = ss.length := by
        have := rv.length
        rw [List.length_map] at this
        exact this.symm
      refine collect_list hl.isList (hP _ s.toks its (fun b o e => ?_) ?_ rv) (by rw [hil]; exact hz)
      · have hlt := Heap.lt_size e
        exact (Heap.get?_update_ne _ _ _ _ (Nat.ne_of_lt hlt)).trans (Heap.get?_push_of_some _ e)
      · rw [Heap.size_update, Heap.size_push]
        exact Nat.le_succ _
    · obtain ⟨z, lo, vs, rk, hd⟩ := dk_rd I.hok hk
      obtain ⟨ep, hat⟩ := hd.dictAt
      have hl : kvs.length = vs.length := Paired.length rk
      have hl2 : kvs.length = ss.length := by simpa using congrArg List.length ek
      refine collect_kdl (PySem.W.kdl_dict (knd := mixKind X.prog X.w) (kvs := vs) (ep := ep) lo) (I.ok.hd hh) hat (by rw [← hl]; exact z) fun h' tk acc keep hsz hacc => hP h' tk acc.toList keep hsz ?_
      have el : acc.toList.length = acc.size := by simp
      refine vals_of_at (by rw [List.length_map, el, hacc.1]; omega) fun j x w h1 h2 => ?_
      obtain ⟨k, y, hky, hi⟩ := hacc.2 j w (by rw [← Array.getElem?_toList]; exact h2)
      have e2 : (kvs.map (·.1))[j]? = some k := by
        rw [KV.keys rk, List.getElem?_map, hky]; rfl
      rw [ek, List.getElem?_map] at e2
      rw [List.getElem?_map] at h1
      cases q3 : ss[j]? with
      | none => rw [q3] at h1; cases h1
      | some t =>
        rw [q3] at h1 e2
        cases h1
        cases e2
        exact keyIs_rel (k := Sum.inr t) hi
  · have hb' : H b = none := I.hok.fresh hb
    refine ⟨.ref b, upd H b (.lst ((ss.mergeSort strLe).map V.str)), I.laid keep hb (show ObjOk X.prog X.w _ _ _ (.lst ((ss.mergeSort strLe).map V.str)) from ⟨?_, out, c, rv, hD⟩), rfl, q b hb'⟩
    rw [List.length_map, List.length_mergeSort]
    exact hz
/-- list(d) -/
def rListDk : List V → Hp → VK → Prop := fun xs H Q => ∃ p kvs, xs = [.ref p] ∧ Rd H p (.dK kvs) ∧ ∀ q, H q = none → Q (.ref q) (upd H q (.lst (kvs.map fun kv => kV kv.1)))
theorem call_list_rd (hc : X.calm = true) : CallR X (.type "list") rListDk := by
  intro pins s σ H xs us Q I r h
  obtain ⟨p, kvs, e, hk, q⟩ := h
  subst e
  obtain ⟨u, eu, rx⟩ := vals1 r
  subst eu
  obtain rfl : u = Value.ref p := rx
  obtain ⟨z, lo, vs, rk, hd⟩ := dk_rd I.hok hk
  obtain ⟨ep, hat⟩ := hd.dictAt
  have hl : kvs.length = vs.length := Paired.length rk
  refine PySem.W.kdl_call (PySem.W.kdl_dict (knd := mixKind X.prog X.w) (kvs := vs) (ep := ep) lo) (I.ok.hd hc) hat (by rw [← hl]; exact z) fun h' tk acc' c' hkeep hS hacc => ?_
  refine ⟨.ref s.heap.objs.size, upd H s.heap.objs.size (.lst (kvs.map fun kv => kV kv.1)), I.laid hkeep (Nat.le_refl _) (show ObjOk X.prog X.w _ _ _ (.lst (kvs.map fun kv => kV kv.1)) from ⟨?_, acc'.toList, c', ?_, ?_⟩), rfl, q _ (I.hok.fresh (Nat.le_refl _))⟩
  · rw [List.length_map]; exact z
  · have el : acc'.toList.length = acc'.size := by simp
    refine vals_of_at (by rw [List.length_map, el, hacc.1, hl]) fun j x w h1 h2 => ?_
    obtain ⟨k, y, hky, hi⟩ := hacc.2 j w (by rw [← Array.getElem?_toList]; exact h2)
    have e1 : (kvs.map (·.1))[j]? = some k := by
      rw [KV.keys rk, List.getElem?_map, hky]; rfl
    have e2 : (kvs.map fun kv => kV kv.1)[j]? = some (kV k) := by
      have e3 : (kvs.map fun kv => kV kv.1) = (kvs.map (·.1)).map kV := by rw [List.map_map]; rfl
      rw [e3, List.getElem?_map, e1]; rfl
    rw [e2] at h1
    cases h1
    exact keyIs_rel hi
  · rw [Array.toArray_toList]; exact hS
end
section
variable {c : Zc}
/-- the texts of a walked thing -/
def strsIn : D → Option (List Str)
  | .lst xs => strsOf xs
  | .dct kvs => strsOf (kvs.map fun p => keyD p.1)
  | _ => none
def fSorted : F
  | [(d, n)] => if n ≤ 1 then (match strsIn d with
    | some ss => if ss.length ≤ big then some (.lst ((ss.mergeSort strLe).map .str), 1) else none
    | none => none) else none
  | _ => none
theorem strsOf_inv : ∀ {xs : List D} {ss : List Str}, strsOf xs = some ss → xs = ss.map D.str
  | [], ss, h => by cases h; rfl
  | x :: xs, ss, h => by
    cases x with
    | str a =>
      simp only [strsOf] at h
      cases q : strsOf xs with
      | none => rw [q] at h; cases h
      | some r =>
        rw [q] at h
        cases h
        rw [strsOf_inv q]
        rfl
    | _ => cases h
def rSorted (K : PySem.W.Frag) : List V → Hp → VK → Prop := fun vs H Q => rSortStr K vs [.ty "str"] H Q
theorem ruSorted : RuZ c (rSorted c.K) fSorted := by
  intro Z H fp vs ts t Q e s h k
  match ts, e with
  | [(d, n)], e =>
    obtain ⟨x, rfl, hx⟩ := tre1 h
    simp only [fSorted] at e
    split at e
    · rename_i hn
      cases q : strsIn d with
      | none => rw [q] at e; cases e
      | some ss =>
        rw [q] at e
        simp only at e
        split at e
        · rename_i hb
          cases e
          have fin : ∀ p, H p = none → Q (.ref p) (upd H p (.lst ((ss.mergeSort strLe).map V.str))) := fun p hp =>
            kL s k (strs_items (c := c) (Z := Z) (ys := ss.mergeSort strLe)).1 (strs_items (c := c) (Z := Z) (ys := ss.mergeSort strLe)).2 p hp
          cases d with
          | lst xs =>
            obtain ⟨a, ws, rfl, ha, hl, f⟩ := tre_lst s hx
            have ew := strsOf_eq q hl f
            subst ew
            exact ⟨a, ss, rfl, rfl, Nat.le_trans hb big_le, .inl (.inl (.inl ha)), fin⟩
          | dct kvs =>
            obtain ⟨a, ws, rfl, ha, hk, _⟩ := tre_dct s hx
            have e1 := strsOf_inv q
            refine ⟨a, ss, rfl, rfl, Nat.le_trans hb big_le, .inr ⟨ws, ha, ?_⟩, fin⟩
            rw [← hk]
            have e2 : (kvs.map (·.1)).map keyD = (ss.map Sum.inr).map keyD := by
              rw [List.map_map, List.map_map]
              exact e1
            exact (List.map_inj_right (f := keyD) (fun a b e => by
              cases a <;> cases b <;> first | (cases e; rfl) | cases e)).mp e2
          | _ => cases q
        · cases e
    · cases e
/-- list(x) -/
def fListA : F := fOr fList fun ts => match ts with
  | [(.dct kvs, _)] => some (.lst (kvs.map fun p => keyD p.1), 1)
  | _ => none
theorem keys_items {Z : Hp} {kvs : List (Key × D)} {vs : List (Key × V)} (hk : kvs.map (·.1) = vs.map (·.1)) : (kvs.map fun p => keyD p.1).length = (vs.map fun kv => kV kv.1).length ∧ ∀ (i : Nat) d w, (kvs.map fun p => keyD p.1)[i]? = some d → (vs.map fun kv => kV kv.1)[i]? = some w → RF c Z d w := by
  have e1 : (kvs.map fun p => keyD p.1) = (kvs.map (·.1)).map keyD := by rw [List.map_map]; rfl
  have e2 : (vs.map fun p => kV p.1) = (vs.map (·.1)).map kV := by rw [List.map_map]; rfl
  rw [e1, e2, hk]
  refine ⟨by simp, fun i d w h1 h2 => ?_⟩
  rw [List.getElem?_map] at h1 h2
  cases q : (vs.map (·.1))[i]? with
  | none => rw [q] at h1; cases h1
  | some ky =>
    rw [q] at h1 h2
    cases h1
    cases h2
    exact keyD_rf
theorem ruListA : RuZ c (fun xs H Q => (∃ p ys, xs = [.ref p] ∧ (SqL c.K H p ys ∨ SqT c.K H p ys) ∧ ∀ l, H l = none → Q (.ref l) (upd H l (.lst ys))) ∨ rListDk xs H Q) fListA := by
  refine ruOr ruList ?_
  intro Z H fp vs ts t Q e s h k
  match ts, e with
  | [(d, n)], e =>
    cases d with
    | dct kvs =>
      cases e
      obtain ⟨x, rfl, hx⟩ := tre1 h
      obtain ⟨a, ws, rfl, ha, hk, _⟩ := tre_dct s hx
      obtain ⟨l1, l2⟩ := keys_items (c := c) (Z := Z) hk
      exact ⟨a, ws, rfl, ha, fun p hp => kL s k l1 l2 p hp⟩
    | _ => cases e
  | [], e => cases e
  | _ :: _ :: _, e => exact absurd e (by simp)
end
section
variable {X : Cx} {c : Zc} {L : Nat} {W : WX} {pos : Pos}
theorem b_listA {e : Expr} {o : Opd} {p : Pos} (hm : X.mg "list" = none) (ha : ZO X c L W e o) (hK : c.K = X.K := by rfl) (hc : X.calm = true := by rfl) (hg : Gl X "list" := by rfl) (hL : okL L [o] = true := by rfl) (he : starEach [e] X.env = [(false, eval e X.env)] := by rfl) : ZE X c L W (.Call (.Name "list" p) [e] [] pos) (mOp fListA [o]) :=
  ze_ct (CallR.or (hK ▸ call_list_of) (call_list_rd hc)) ruListA hg hm (by decide +kernel) (zos_cons ha zos_nil he) hL (he := he)
theorem pk_one {nm : Str} {e : Expr} {t : TE} {kpos : Pos} (h : PE X e t) : PK X [⟨some nm, e, kpos⟩] (fun σ H Q => t σ H fun v H1 => Q [v] H1) := pk_cons h pk_nil
theorem b_sorted {e : Expr} {o : Opd} {p kp np : Pos} (hm : X.mg "sorted" = none) (hs : X.mg "str" = none) (ha : ZO X c L W e o) (hu : X.A.units + 64 < cLine) (hK : c.K = X.K := by rfl) (hc : X.calm = true := by rfl) (hg : Gl X "sorted" := by rfl) (hg2 : Gl X "str" := by rfl) (hL : okL L [o] = true := by rfl)
    (hst : starEach [e] X.env = (false, eval e X.env) :: starEach [] X.env := by rfl) (he : backTo pos (starEach [e] X.env) = (false, eval e X.env) :: backTo pos (starEach [] X.env) := by rfl) (hpl : (backTo pos (starEach [e] X.env)).any (·.1) = false := by rfl)
    (hall : (backToKw pos (keywordEach [⟨some "key", .Name "str" np, kp⟩] X.env)).all (·.1.isSome) = true := by rfl) (hnone : (backToKw pos (keywordEach [⟨some "key", .Name "str" np, kp⟩] X.env)).any (·.1.isNone) = false := by rfl) (hks : (backToKw pos (keywordEach [⟨some "key", .Name "str" np, kp⟩] X.env)).filterMap (·.1) = [Str.ofString "key"] := by rfl) :
    ZE X c L W (.Call (.Name "sorted" p) [e] [⟨some "key", .Name "str" np, kp⟩] pos) (mOp fSorted [o]) := by
  refine PE.imp (pe_callBK (cr_sortStr (by omega) hc) hg hm (by decide +kernel) (zos_cons ha zos_nil hst) (pk_one (pe_bltn (v := .ty "str") hg2 hs (by decide +kernel) rfl)) (by decide) (by decide) he hpl hall hnone hks) fun σ H Q h => ?_
  rw [← hK]
  exact run_op ruSorted (okL_mem hL) h
end
end Z

namespace Z
open PySem L2
open PySem.Spec PyProof.Rows
/-! ### CatalogError.__init__(self, ..) -/
/-- what the written part says of a base class of errors without an __init__ of its own -/
structure CeB (K : PySem.W.Frag) (B : Addr) : Prop where
  sp : PySem.W.specialIn K (.ref B) "__getattribute__" = some (some (.builtin "type.__getattribute__"))
  rd : PySem.W.readsIn K B (.type "type") = true
  fd : PySem.W.findCls K (.ref B) (.type "type") "__init__" = some (.val (.builtin "ValueError.__init__"))
section
variable {X : Cx} {e : Expr} {es : List Expr} {ta : TA} {p1 p2 pos : Pos}
theorem pe_ceinit {x : Str} {B : Addr} {pl : Sem Bool} (hg : Gl X x) (hm : X.mg x = some (.ref B)) (hB : CeB X.K B) (ha : PA X (e :: es) ta)
    (hc : eval (.Call (.Attribute (.Name x p1) "__init__" p2) (e :: es) [] pos) X.env = (do
      let ov ← eval (.Name x p1) X.env
      standAt p2.atName
      let (f, first) ← holding [ov] (getMethod ov "__init__" pl)
      callWith pos f first (backTo pos (starEach (e :: es) X.env)) (backToKw pos (keywordEach [] X.env))) := by rfl)
    (he : starEach (e :: es) X.env = (false, eval e X.env) :: starEach es X.env := by rfl) (hpl : (backTo pos (starEach es X.env)).any (·.1) = false := by rfl) (hdb : (x == ("__debug__" : Str)) = false := by decide) :
    PE X (.Call (.Attribute (.Name x p1) "__init__" p2) (e :: es) [] pos) (tVeI X.K ta) := by
  refine ⟨fun pins s σ H Q I h => ?_⟩
  refine PySem.W.methodCall_KW (ld_glob I hg hm ?_ hdb) hc
  refine PySem.W.method_cls I.kIn hB.sp (PySem.W.cls_value I.kIn hB.rd hB.fd (by decide +kernel) ?_)
  show wpAny _ _ (callWith pos (Value.builtin "ValueError.__init__") [] (backTo pos (starEach (e :: es) X.env)) []) _ _ _
  refine PyProof.Rows.callWith_method1 (thn (ha.run pos pins _ σ H _ (I.tok _) h) fun us s1 ⟨vs, H1, I1, r1, a, C, ws, ev, hl, T, ea, q⟩ => ?_) he hpl
  subst ev
  cases r1 with
  | @cons _ u0 _ ur ra rw' =>
    obtain rfl : u0 = Value.ref a := ra
    have hlen : ur.length ≤ sizeLine := by
      rw [← Paired.length rw', sizeLine_eq]
      omega
    exact oinit_ok T I1 ea hlen fun s' J => ⟨.non, H1, J, rfl, q⟩
end
/-! ### an error of one field -/
/-- what may stand in an error's text -/
def okx : D → Bool
  | .str a => decide (a.length ≤ 1000)
  | .int i => decide (i.natAbs.log2 < 1920) && decide ((toString i : Str).length ≤ 1000)
  | _ => false
def spX (C : Addr) (f : Str) : Sp := fun vs H Q _ => ∃ (a : Addr) (v : V), vs = [.ref a, v] ∧ H a = some (exo a C none) ∧ ((∃ s : Str, v = .str s ∧ s.length ≤ 1000) ∨ ∃ i : Int, v = .int i ∧ i.natAbs.log2 < 1920 ∧ (toString i : Str).length ≤ 1000) ∧
  ∀ d, H d = none → d ≠ a → Q .non (upd (upd H d (exd d [(f, v)])) a (exo a C (some d)))
section
variable {P : Program} {w : World} {K : PySem.W.Frag} {mg : Str → Option Value} {base : Heap}
/-- the parts of the text: written ones, the field -/
def jsT : List (Option Str) → List TE
  | [] => []
  | some w :: r => tC (.str w) :: jsT r
  | none :: r => tFmt (tVar 1) :: jsT r
def jsL : List (Option Str) → Nat
  | [] => 0
  | some w :: r => w.length + jsL r
  | none :: r => 1000 + jsL r
theorem js_ok {σ : L2.St} {H : Hp} {v : V} (hs : σ[1]? = some (some v)) (hv : (∃ s : Str, v = .str s ∧ s.length ≤ 1000) ∨ ∃ i : Int, v = .int i ∧ i.natAbs.log2 < 1920 ∧ (toString i : Str).length ≤ 1000) : ∀ {ps : List (Option Str)} {acc : Str} {Q : Str → Hp → Prop}, acc.length + jsL ps ≤ sizeLine → (∀ s, Q s H) → tJs (jsT ps) acc σ H Q
  | [], acc, Q, _, k => k acc
  | some w :: r, acc, Q, hl, k => by
    have e : (acc ++ w).length = acc.length + w.length := app_len _ _
    simp only [jsL] at hl
    exact ⟨w, rfl, by rw [e]; omega, js_ok hs hv (by rw [e]; omega) k⟩
  | none :: r, acc, Q, hl, k => by
    simp only [jsL] at hl
    have go : ∀ y : Str, y.length ≤ 1000 → ∃ y' : Str, V.str y = .str y' ∧ (acc ++ y').length ≤ sizeLine ∧ tJs (jsT r) (acc ++ y') σ H Q := fun y hy => by
      have e : (acc ++ y).length = acc.length + y.length := app_len _ _
      exact ⟨y, rfl, by rw [e]; omega, js_ok hs hv (by rw [e]; omega) k⟩
    refine ⟨v, hs, ?_⟩
    rcases hv with ⟨s, rfl, h1⟩ | ⟨i, rfl, h1, h2⟩
    · exact .inl ⟨s, rfl, Nat.le_trans h1 (by decide), go s h1⟩
    · exact .inr ⟨i, rfl, h1, go _ h2⟩
theorem ok_xinit {f C : Addr} {fd : FuncData} {st : Stmt} {q g : Str} (parts : List (Option Str)) (hf : Fun K "__init__" q st f fd) (sc : FnScope ["self", g] ["self", g] (defScope st)) (T : OexC K C) (hno : PySem.W.findIn K (.ref C) g = some none) (hl : jsL parts ≤ 3000)
    (hstmts : ∀ (cdv : Value) (A : Around) (outer : List Env) (s : Shared) (H : Hp) (E : XK),
      PSs (cxOf (L2.CX P w) P w K mg base ["self", g] q (defScope st) f cdv A outer s H E) (defBody st) (tSeq (tDrop (tVeI K (tCons (tVar 0) (tCons (fun σ H Q => tJs (jsT parts) Str.empty σ H fun out H1 => Q (.str out) H1) tNil)))) (tOst K g (tVar 0) (tVar 1)))) : FnOk P w K mg base (L2.CX P w) 1 f fd ["self", g] (spX C g) := by
  refine hf.okX (k := 0) sc (fun vs H Q E h => ?_) fun cdv A outer s H vs Q E hr h => ?_
  · obtain ⟨a, v, rfl, _⟩ := h
    rfl
  · obtain ⟨a, v, rfl, ha, hv, k⟩ := h
    refine ⟨_, hstmts cdv A outer s H E, ?_⟩
    have e0 : Str.empty.length = 0 := rfl
    refine ⟨_, rfl, js_ok rfl hv (by rw [e0, sizeLine_eq]; omega) fun s => ?_⟩
    refine ⟨a, C, [.str s], rfl, by simp, T, ha, ?_⟩
    exact ⟨v, rfl, .ref a, rfl, a, C, rfl, T, hno, .inl ⟨ha, fun d hd hn => k d hd hn⟩⟩
end
/-- raise C(e), C's __init__ keeping one field -/
def mRaise (C f : Str) (m : M T) : M Fl := fun s => match m s with
  | .ok t s' => if okx t.1 = true then .ex ⟨C, [(f, t.1)]⟩ s' else .no
  | .ex x s' => .ex x s'
  | .no => .no
def mNo : M Fl := fun _ => .no
section
variable {c : Zc} {L : Nat} {W : WX} {vc : Nat → Option V} {Z H Z' H' Z1 H1 : Hp} {σ : L2.St} {vx : List (Option V)} {st tx : S} {fp fp1 : List Addr}
theorem exc_back {H : Hp} {a d : Addr} {o1 o2 o3 o4 : HO} (ha : H a = none) (hd : d ≠ a) : upd (del (upd (upd (upd H a o1) d o2) a o3) a) d o4 = upd H d o4 := by
  funext b
  by_cases h1 : b = d
  · rw [h1, upd_same, upd_same]
  · rw [upd_ne h1, upd_ne h1]
    by_cases h2 : b = a
    · rw [h2, del_same, ha]
    · rw [del_ne h2, upd_ne h2, upd_ne h1, upd_ne h2]
theorem mRaise_rd {Cn f : Str} {C : Addr} {m : M T} {D : Ends} (hC : c.cl Cn = some C) (h : rdS c L W (mRaise Cn f m) D σ H) :
    tMkO C (spX C f) [] (tMs c L W [m]) σ H (fun cls d H' => W cls d σ H') := by
  obtain ⟨Z, vc, vx, st, tx, fp, w, h⟩ := h
  refine tMs_run w ?_
  cases q : m st with
  | no => simp only [mRaise, q] at h; exact h.elim
  | ex x s =>
    simp only [mRaise, q] at h
    simp only [evm, q]
    exact fun Z2 H2 => h Z2 H2 σ
  | ok t s =>
    simp only [mRaise, q] at h
    simp only [evm, q]
    intro Z1 H1 vs fp1 s1 hl w1
    split at h
    · rename_i hok
      match vs, hl with
      | [v], _ =>
        obtain ⟨Z2, g2, w2, s2, rf⟩ := Wl.frz w1 w.hvc rfl
        have r0 : RF c Z2 t.1 v := rf 0 t.1 v rfl rfl
        refine ⟨by simp, fun a ha => ⟨a, v, rfl, upd_same, ?_, fun d hd hn => ⟨rfl, d, [(f, v)], upd_same, ?_, ?_, ?_⟩⟩⟩
        · obtain ⟨d, n⟩ := t
          cases d with
          | str z => cases r0; exact .inl ⟨z, rfl, of_decide_eq_true hok⟩
          | int i =>
            cases r0
            simp only [okx, Bool.and_eq_true, decide_eq_true_eq] at hok
            exact .inr ⟨i, rfl, hok.1, hok.2⟩
          | _ => cases hok
        · rw [upd_ne hn, upd_same]
        · rw [upd_ne hn] at hd; exact hd
        · have hd' : H1 d = none := by rw [upd_ne hn] at hd; exact hd
          rw [exc_back ha hn]
          have al := al_newF (o := .xd [(f, v)]) w2.sub hd'
          have w3 := w2.al (d := .non) (n := 0) (v := .non) al ⟨.non, rfl⟩
          obtain ⟨g3, f3, e3, _, w4⟩ := w3.pop w2.hvc
          refine h _ _ σ g3 (.ref C) (some d) (((s1.trans s2).trans (Stp.of_al al)).trans (Stp.less fun a ha => by rw [e3]; exact List.mem_append_left _ ha)) w4 ⟨⟨C, hC, rfl⟩, .inr ⟨d, [(f, v)], rfl, upd_same, rfl, items_one (r0.mono al.sz)⟩⟩
    · exact h.elim
theorem mNo_rd {D : Ends} (h : rdS c L W mNo D σ H) : tNever D σ H := by
  obtain ⟨Z, vc, vx, st, tx, fp, w, h⟩ := h
  exact h
end
section
variable {X : Cx} {c : Zc} {L : Nat} {W : WX} {pos : Pos}
theorem zs_no {s : Stmt} : ZS X c L W s mNo := PS.imp ps_never fun _ _ _ h => mNo_rd h
/-- what is known of a class of errors with one field -/
structure Xc (P : Program) (w : World) (c : Zc) (mg : Str → Option Value) (base : Heap) (x f : Str) : Prop where
  ex : ∃ (C fI : Addr) (fd : FuncData), c.cl x = some C ∧ mg x = some (.ref C) ∧ OexC c.K C ∧ PySem.W.findIn c.K (.ref C) "__init__" = some (some (.ref fI)) ∧ PySem.W.typeIn c.K (.ref fI) = some (.type "function") ∧ FnOk P w c.K mg base (L2.CX P w) 1 fI fd ["self", f] (spX C f) ∧ Binds c.K fd ["self", f] [] ∧
    XfC c.K C ∧ PySem.W.findIn c.K (.ref C) f = some none
theorem zs_raise {x f : Str} {e : Expr} {m : M T} {p pos' : Pos} (tk : Takes X W) (C0 : Xc X.prog X.w c X.mg X.base x f) (hr : Rg 2 X.A) (he : ZE X c L W e m) (hK : c.K = X.K := by rfl) (hc : X.calm = true := by rfl) (hg : Gl X x := by rfl)
    (hdb : (x == ("__debug__" : Str)) = false := by decide) (hst : starEach [e] X.env = (false, eval e X.env) :: starEach [] X.env := by rfl) (hpl : (backTo pos (starEach [] X.env)).any (·.1) = false := by rfl) : ZS X c L W (.Raise (some (.Call (.Name x p) [e] [] pos)) none pos') (mRaise x f m) := by
  obtain ⟨C, fI, fd, h1, h2, h3, h4, h5, h6, h7, _, _⟩ := C0.ex
  obtain ⟨K0, cl0⟩ := c
  cases hK
  exact PS.imp (ps_raise hc tk (pmk_oex h3 h4 h5 h6 hr.rm h7 .nil (passes_call (E := fun _ _ _ => False) tk fun _ _ _ _ z => z.elim) hg h2 (za_cons he za_nil hst) hdb hst hpl)) fun σ H Q h => mRaise_rd h1 h
end
section
variable {P : Program} {w : World} {c : Zc} {mg : Str → Option Value} {base : Heap}
/-- a class of errors with one field, by facts -/
theorem xc_mk {x f q : Str} {C fI : Addr} {st : Stmt} {oc : Value} {od an : Option Addr} {osl : Array (Option Value)} {kV doc pm cdv ct : Value} (parts : List (Option Str)) (hcl : c.cl x = some C) (hm : mg x = some (.ref C))
    (xL : ∃ nm q N bs bm sn sub ab col dd k0 k1 k2 k3 k5, c.K.lookup C = some (excClassObj nm q C N bs bm true sn sub ab col dd k0 k1 k2 k3 k5 "ValueError.__new__") ∧ PySem.HandSPX.refsVE bm = true)
    (sa : PySem.W.findIn c.K (.ref C) "__setattr__" = some (some (.builtin "object.__setattr__"))) (eC : PySem.W.subIn c.K (.ref C) (.type "BaseException") = some true) (tC : PySem.W.typeIn c.K (.ref C) = some (.type "type")) (kC : PySem.W.keepIn c.K (.ref C) = true)
    (iC : PySem.W.findIn c.K (.ref C) "__init__" = some (some (.ref fI))) (tI : PySem.W.typeIn c.K (.ref fI) = some (.type "function")) (ga : PySem.W.findIn c.K (.ref C) "__getattribute__" = some (some (.builtin "BaseException.__getattribute__"))) (gg : PySem.W.findIn c.K (.ref C) "__getattr__" = some none) (hC : PySem.W.hasDictIn c.K C = true) (nb : PySem.W.findIn c.K (.ref C) f = some none)
    (l1 : c.K.lookup fI = some ⟨oc, od, .func (PySem.W.fnOf "__init__" q (defArgs st) (defBody st) (defScope st) .none kV doc pm an cdv ct), osl⟩) (c1 : PySem.W.codeIn c.K cdv q = true) (k1 : PySem.W.keepIn c.K (.ref fI) = true) (sc : FnScope ["self", f] ["self", f] (defScope st)) (hl : jsL parts ≤ 3000)
    (hbd : ∀ (kV doc pm : Value) (an : Option Addr) (cdv ct : Value) (us : List Value), us.length = 2 → bindArgs (PySem.W.fnOf "__init__" q (defArgs st) (defBody st) (defScope st) .none kV doc pm an cdv ct) ⟨us, []⟩ = pure ((["self", f] : List Str).zip us))
    (hstmts : ∀ (f0 : Addr) (cdv : Value) (A : Around) (outer : List Env) (s : Shared) (H : Hp) (E : XK),
      PSs (cxOf (L2.CX P w) P w c.K mg base ["self", f] q (defScope st) f0 cdv A outer s H E) (defBody st) (tSeq (tDrop (tVeI c.K (tCons (tVar 0) (tCons (fun σ H Q => tJs (jsT parts) Str.empty σ H fun out H1 => Q (.str out) H1) tNil)))) (tOst c.K f (tVar 0) (tVar 1)))) : Xc P w c mg base x f := by
  have F0 := fun_mk (st := st) l1 c1 k1
  have T : OexC c.K C := ⟨xL, sa, eC, tC, kC⟩
  exact ⟨C, fI, _, hcl, hm, T, iC, tI, ok_xinit parts F0 sc T nb hl (hstmts fI), F0.binds hbd, ⟨ga, gg, eC, hC⟩, nb⟩
theorem exm_sub {K : PySem.W.Frag} {E C : Addr} {b : Bool} (h1 : PySem.W.subIn K (.ref C) (.type "BaseException") = some true) (h2 : PySem.W.isClsIn K C = true) (h3 : PySem.W.typeIn K (.ref C) = some (.type "type")) (h4 : PySem.W.subIn K (.ref E) (.ref C) = some b) : PySem.W.exmOne K (.ref E) (.ref C) = some b := by
  unfold PySem.W.exmOne PySem.W.kitCls
  have h2' : (PySem.W.clsIn K C).isSome = true := h2
  simp [h1, h2', h3, h4]
end
end Z

namespace L2
open PySem PySem.Spec PyProof.Rows
/-- an Ends behind whose ways slot i is forgotten -/
def Dwipe (D : Ends) : Option Nat → Ends
  | none => D
  | some i => { nx := fun σ' H' => D.nx (σ'.set i none) H', rt := D.rt, bk := fun σ' H' => D.bk (σ'.set i none) H', ct := fun σ' H' => D.ct (σ'.set i none) H' }
def Sput (σ : St) (a : Addr) : Option Nat → St
  | none => σ
  | some i => σ.set i (some (.ref a))
/-- what the clauses, each perhaps with a name, wish of an exception of the body -/
def wManyA (K : PySem.W.Frag) (Wout : WX) (D : Ends) : List (Value × Option Nat × (Addr → Value → Option Addr → TS)) → WX
  | [] => Wout
  | (c, oi, ts) :: r => fun cls d σ H => ∃ b, PySem.W.exmOne K cls c = some b ∧ (b = true → ∀ a, H a = none → ts a cls d (Dwipe D oi) (Sput σ a oi) H) ∧ (b = false → wManyA K Wout D r cls d σ H)
inductive HdsA (X : Cx) : List ExceptHandler → List (Value × Option Nat × (Addr → Value → Option Addr → TS)) → Prop
  | nil : HdsA X [] []
  | no {x : Str} {c : Value} {ts : Addr → Value → Option Addr → TS} {b₀ : Stmt} {suite : List Stmt} {np pos' : Pos} {hds : List ExceptHandler} {l : List (Value × Option Nat × (Addr → Value → Option Addr → TS))} (hc : Names X x c)
      (hsu : ∀ (a : Addr) (oe : Obj) (cls : Value) (d : Option Addr) (pn : List (Addr × Obj)), Zc cls d oe → (∃ vs, oe.data = .fields vs) → PSs (X.suite a ((a, oe) :: pn)) (b₀ :: suite) (ts a cls d)) (r : HdsA X hds l) :
      HdsA X (.ExceptHandler (some (.Name x np)) none (b₀ :: suite) pos' :: hds) ((c, none, ts) :: l)
  | as {x n : Str} {i : Nat} {c : Value} {ts : Addr → Value → Option Addr → TS} {b₀ : Stmt} {suite : List Stmt} {np pos' : Pos} {hds : List ExceptHandler} {l : List (Value × Option Nat × (Addr → Value → Option Addr → TS))} (hN : X.N.Nodup) (hi : X.N[i]? = some n) (hln : X.env.kindOf n = some .local) (hc : Names X x c)
      (hsu : ∀ (a : Addr) (oe : Obj) (cls : Value) (d : Option Addr) (pn : List (Addr × Obj)), Zc cls d oe → (∃ vs, oe.data = .fields vs) → PSs (X.suite a ((a, oe) :: pn)) (b₀ :: suite) (ts a cls d)) (r : HdsA X hds l) :
      HdsA X (.ExceptHandler (some (.Name x np)) (some n) (b₀ :: suite) pos' :: hds) ((c, some i, ts) :: l)
section
variable {X : Cx} {body : List Stmt} {h₀ : ExceptHandler} {hds : List ExceptHandler} {l : List (Value × Option Nat × (Addr → Value → Option Addr → TS))} {pos : Pos} {tb : WX → TS} {Wout : WX}
theorem ps_try_manyA (hs : X.stack = X.env :: X.outer) (hf : X.env.frame = some X.env.locals) (tk : Takes X Wout)
    (hb : ∀ (W : WX) (pn : List (Addr × Obj)) (xe : Value → Shared → Prop), Takes (X.tr pn xe) W → PassesOwn (model X.prog X.w) X.A X.env xe → PSs (X.tr pn xe) body (tb W))
    (hh : HdsA X (h₀ :: hds) l) : PS X (.Try body (h₀ :: hds) [] [] pos) (fun D σ H => tb (wManyA X.K Wout D l) D σ H) := by
  refine ⟨fun pins s σ H D I h => ?_⟩
  have ok := I.ok
  have hfr : X.A.frames = some (X.env :: X.outer) := by rw [ok.frames, hs]
  refine wpAny_Try_except ?_
  refine wpAny_mono ((hb (wManyA X.K Wout D l) (X.pn ++ pins) (fun e s₁ => wpAny (model X.prog X.w) X.A (noteFrame e X.env) (fun _ s₂ => wpAny (model X.prog X.w) X.A (setFlight e none) (fun _ s₃ =>
    wpAny (model X.prog X.w) X.A (handleBy e X.env (h₀ :: hds)) (SP X pins D) X.xe s₃) X.xe s₂) X.xe s₁) (fun u s' xx => ?_) PassesOwn.looking).run [] s σ H D (I.toTry _) h) (fun f s1 hsp => ?_) (fun e s1 he => he)
  · -- the catch
    obtain ⟨a, B, sI, pins', σ', H', cls, d, rfl, J', nb, up, sky, na, os, ag, w⟩ := xx
    have J : Inv X pins σ' H' sI := J'.ofTry ok
    have sky' : Sky B (X.env :: X.outer) a (Zc cls d) X.env.locals s'.heap := by rw [← hs]; exact sky
    show wpAny (model X.prog X.w) X.A (noteFrame (.ref a) X.env) _ _ _
    refine Sky.land Zc.steady hfr hf sky' fun h3 fl3 up3 => ?_
    have J3 : Inv X pins σ' H' { s' with heap := h3 } := J.landed nb fl3.1 (up.trans up3) os ag
    obtain ⟨oe3, vs3, he3, hz3, hd3⟩ := fl3.there
    have notFr : ∀ {h : Heap} {o : Obj} {vs : Array Value}, h.FunFrames B (X.env :: X.outer) → h.get? a = some o → o.data = .fields vs → a ∉ frs (X.env :: X.outer) := fun {h o vs} ff e dd hm => by
      obtain ⟨_, o', e', hnf⟩ := ff.mem hm
      rw [e] at e'; cases e'
      exact hnf _ dd
    have nfr := notFr fl3.2.2.1 he3 hd3
    have nL : a ≠ X.env.locals := fun z => nfr (List.mem_filterMap.mpr ⟨X.env, List.mem_cons_self, by rw [hf, z]⟩)
    have nF : a ∉ X.fs := fun hm => by
      obtain ⟨e, he, q⟩ := List.mem_filterMap.mp hm
      exact nfr (List.mem_filterMap.mpr ⟨e, List.mem_cons_of_mem _ he, q⟩)
    have S3 := J3.suite he3 hd3 na nL nF
    have LT : PySem.W.Looks (model X.prog X.w) h3 (typeOf (.ref a)) cls := fun A Q E s k q => wpAny_typeOf_ref (k _ _ he3) (by rw [hz3.1]; exact q)
    have test : ∀ {x : Str} {c : Value} {np : Pos} {Q : Value → Shared → Prop} {E : Value → Shared → Prop}, Names X x c → Q c { s' with heap := h3 } → wpAny (model X.prog X.w) (X.A.mark (some (.ref a))) (eval (.Name x np) X.env) Q E { s' with heap := h3 } := fun {x c np Q E} hc q => by
      obtain ⟨hg, hdbg, hm | ⟨hm, hv, hnn⟩⟩ := hc
      · exact ld_glob (X := X.suite a ((a, oe3) :: (X.pn ++ pins))) S3 hg hm q hdbg
      · exact ld_blt (X := X.suite a ((a, oe3) :: (X.pn ++ pins))) S3 hg hm hv q hnn hdbg
    have go : ∀ {hds' : List ExceptHandler} {l' : List (Value × Option Nat × (Addr → Value → Option Addr → TS))}, HdsA X hds' l' → wManyA X.K Wout D l' cls d σ' H' →
        wpAny (model X.prog X.w) X.A (handleBy (.ref a) X.env hds') (SP X pins D) X.xe { s' with heap := h3 } := by
      intro hds' l' hk
      induction hk with
      | nil =>
        intro w
        refine wpAny_handleBy_nil ?_
        obtain ⟨k1, k2, k3, oe, vs, T, oT, ts', he, hz, hd, h1, hr⟩ := id fl3
        unfold PySem.passOn
        refine wpAny_bind (wpAny_field he hd h1 ?_)
        rw [if_neg (show ¬ ((Value.ref T == Value.none) = true) from by simp)]
        have fin : wpAny (model X.prog X.w) X.A (setFlight (.ref a) X.env.frame) (fun _ s4 => wpAny (model X.prog X.w) X.A (throw (.ref a) : Sem Flow) (SP X pins D) X.xe s4) X.xe { s' with heap := h3 } := by
          rw [hf]
          refine HandSPX.setFlight_upZ fl3 fun h4 hh4 up4 => wpAny_throw (tk _ _ ?_)
          exact ⟨a, B, sI, pins, σ', H', cls, d, rfl, J, nb, (up.trans up3).trans up4, .inr (.inr (by rw [hs]; exact hh4)), na, os, ag, w⟩
        first
          | exact wpAny_bind (wpAny_pure (wpAny_bind fin))
          | exact wpAny_bind fin
      | @no x c ts b₀ suite np pos' hds2 l2 hc hsu r ih =>
        intro w
        obtain ⟨b, hb1, hyes, hno⟩ := w
        refine wpAny_handleBy_cons (codeAny_handlers_test ?_) (by intro q; cases q)
        have LM := PySem.W.exm_one (M := model X.prog X.w) (J3.kIn) LT hb1
        refine test hc (LM.here ?_)
        cases b with
        | true =>
          refine codeAny_handlers_suite ?_
          refine HandSPX.lands_againZ fl3 fun h4 fl4 up4 => ?_
          have J4 : Inv X pins σ' H' { s' with heap := h4 } := J.landed nb fl4.1 ((up.trans up3).trans up4) os ag
          obtain ⟨oe4, vs4, he4, hz4, hd4⟩ := fl4.there
          have S4 := J4.suite he4 hd4 na nL nF
          refine wpAny_mono ((hsu a oe4 cls d (X.pn ++ pins) hz4 ⟨_, hd4⟩).run [] _ _ H' _ S4 (hyes rfl a na)) (fun f s6 hsp => ?_) (fun _ _ z => False.elim z)
          cases f with
          | next =>
            obtain ⟨σ6, H6, S6, q6⟩ := hsp
            exact ⟨_, _, S6.unsuite ok, q6⟩
          | brk =>
            obtain ⟨σ6, H6, S6, q6⟩ := hsp
            exact ⟨_, _, S6.unsuite ok, q6⟩
          | cont =>
            obtain ⟨σ6, H6, S6, q6⟩ := hsp
            exact ⟨_, _, S6.unsuite ok, q6⟩
          | ret u =>
            obtain ⟨v6, σ6, H6, S6, r6, q6⟩ := hsp
            exact ⟨_, _, _, S6.unsuite ok, r6, q6⟩
        | false =>
          show wpAny _ X.A (handleBy (.ref a) X.env hds2) _ _ _
          exact ih (hno rfl)
      | @as x n i c ts b₀ suite np pos' hds2 l2 hN hi hln hc hsu r ih =>
        intro w
        obtain ⟨b, hb1, hyes, hno⟩ := w
        refine wpAny_handleBy_cons (codeAny_handlers_test ?_) (by intro q; cases q)
        have LM := PySem.W.exm_one (M := model X.prog X.w) (J3.kIn) LT hb1
        refine test hc (LM.here ?_)
        cases b with
        | true =>
          refine codeAny_handlers_suite_as ?_
          refine HandSPX.lands_againZ fl3 fun h4 fl4 up4 => ?_
          have J4 : Inv X pins σ' H' { s' with heap := h4 } := J.landed nb fl4.1 ((up.trans up3).trans up4) os ag
          obtain ⟨oe4, vs4, he4, hz4, hd4⟩ := fl4.there
          have S4 := J4.suite he4 hd4 na nL nF
          refine store_ok (X := X.suite a ((a, oe4) :: (X.pn ++ pins))) (v := .ref a) S4 hN hi (.inl hln) rfl (fun s5 S5 => ?_) (.inr hln)
          refine wpAny_mono ((hsu a oe4 cls d (X.pn ++ pins) hz4 ⟨_, hd4⟩).run [] s5 _ H' _ S5 (hyes rfl a na)) (fun f s6 hsp => ?_) (fun _ _ z => False.elim z)
          have end_ : ∀ {σ6 : St} {H6 : Hp} {Q : Shared → Prop}, Inv (X.suite a ((a, oe4) :: (X.pn ++ pins))) [] σ6 H6 s6 → (∀ s7, Inv X pins (σ6.set i none) H6 s7 → Q s7) →
              wpAny (model X.prog X.w) X.A (do bindName X.env n .none; unbindBehindTheSuite X.env n pos') (fun _ s7 => Q s7) X.xe s6 := fun {σ6 H6 Q} S6 hq => gone_ok (S6.unsuite ok) hN hi hln hq
          cases f with
          | next =>
            obtain ⟨σ6, H6, S6, q6⟩ := hsp
            exact end_ S6 fun s7 J7 => ⟨_, _, J7, q6⟩
          | brk =>
            obtain ⟨σ6, H6, S6, q6⟩ := hsp
            exact end_ S6 fun s7 J7 => ⟨_, _, J7, q6⟩
          | cont =>
            obtain ⟨σ6, H6, S6, q6⟩ := hsp
            exact end_ S6 fun s7 J7 => ⟨_, _, J7, q6⟩
          | ret u =>
            obtain ⟨v6, σ6, H6, S6, r6, q6⟩ := hsp
            exact end_ S6 fun s7 J7 => ⟨_, _, _, J7, r6, q6⟩
        | false =>
          show wpAny _ X.A (handleBy (.ref a) X.env hds2) _ _ _
          exact ih (hno rfl)
    exact go hh w
  · cases f with
    | next =>
      obtain ⟨σ', H', J', q⟩ := hsp
      exact wpAny_execs_nil ⟨σ', H', J'.ofTry ok, q⟩
    | brk =>
      obtain ⟨σ', H', J', q⟩ := hsp
      exact ⟨σ', H', J'.ofTry ok, q⟩
    | cont =>
      obtain ⟨σ', H', J', q⟩ := hsp
      exact ⟨σ', H', J'.ofTry ok, q⟩
    | ret u =>
      obtain ⟨v, σ', H', J', r, q⟩ := hsp
      exact ⟨v, σ', H', J'.ofTry ok, r, q⟩
end
end L2
namespace Z
open PySem L2
open PySem.Spec PyProof.Rows
/-! ### try .. except .. -/
abbrev Hd := Str × Option Nat × (Ex → M Fl)
def wipeFl (i : Nat) : R Fl → R Fl
  | .ok .nx s => .ok .nx (s.set i .un)
  | .ok .bk s => .ok .bk (s.set i .un)
  | .ok .ct s => .ok .ct (s.set i .un)
  | .ok (.rt t) s => .ok (.rt t) s
  | _ => .no
def noEx : R Fl → R Fl
  | .ex _ _ => .no
  | r => r
def tryH (sub : Str → Str → Bool) : List Hd → Ex → M Fl
  | [], x => fun s => .ex x s
  | (Cn, none, h) :: r, x => if sub x.C Cn = true then (fun s => noEx (h x s)) else tryH sub r x
  | (Cn, some i, h) :: r, x => if sub x.C Cn = true then (fun s => wipeFl i (h x (s.set i .un))) else tryH sub r x
def mTry (sub : Str → Str → Bool) (body : M Fl) (hs : List Hd) : M Fl := fun s => match body s with
  | .ex x s' => tryH sub hs x s'
  | r => r
/-- the reading of a suite -/
def tsH (c : Zc) (L : Nat) (oi : Option Nat) (h : Ex → M Fl) : Addr → Value → Option Addr → TS := fun a cls d D σ H =>
  ∃ Z vc vx st tx fp x, Wl c L vc Z H σ vx st tx fp ∧ IsX c Z H x cls d ∧ (∀ i, oi = some i → σ[i]? = some (some (.ref a))) ∧ PoS c L Wf vc Z H vx tx fp (h x st) D
section
variable {c : Zc} {L : Nat} {W : WX} {vc : Nat → Option V} {Z H Z' H' Z1 H1 : Hp} {σ : L2.St} {vx : List (Option V)} {st tx : S} {fp fp1 : List Addr}
theorem Wl.anyAt {i : Nat} {ov : Option V} (w : Wl c L vc Z H σ vx st tx fp) (hi : i < L) : ∃ fp', (∀ a ∈ fp', a ∈ fp) ∧ Wl c L vc Z H (σ.set i ov) vx (st.set i .un) tx fp' := by
  obtain ⟨fp', h, w'⟩ := w.forget hi
  have his : i < st.length := Nat.lt_of_lt_of_le hi w.hst
  refine ⟨fp', h, by rw [List.length_set]; exact w.len, w'.hst, w'.hvc, w'.sub, ?_, w'.nd, w'.dj⟩
  refine LR.swap w'.lr (by simp) fun j hj => ?_
  by_cases q : j = i
  · subst q
    refine absurd ?_ hj
    rw [List.getElem?_append_left (by simpa using his), List.getElem?_set_self his]
  · by_cases hlt : j < σ.length
    · rw [List.getElem?_append_left (by simpa using hlt), List.getElem?_append_left (by simpa using hlt), List.getElem?_set_ne (Ne.symm q), List.getElem?_set_ne (Ne.symm q)]
    · rw [List.getElem?_append_right (by simp; omega), List.getElem?_append_right (by simp; omega)]
      simp
/-- the clauses -/
inductive HdR (c : Zc) (L : Nat) (sub : Str → Str → Bool) : List Hd → List (Value × Option Nat × (Addr → Value → Option Addr → TS)) → Prop
  | nil : HdR c L sub [] []
  | cons {Cn : Str} {oi : Option Nat} {h : Ex → M Fl} {k : Value} {hs : List Hd} {l : List (Value × Option Nat × (Addr → Value → Option Addr → TS))} (hc : ∀ Ce A, c.cl Ce = some A → PySem.W.exmOne c.K (.ref A) k = some (sub Ce Cn)) (hi : ∀ i, oi = some i → i < L) (r : HdR c L sub hs l) :
      HdR c L sub ((Cn, oi, h) :: hs) ((k, oi, tsH c L oi h) :: l)
theorem tryH_ok {sub : Str → Str → Bool} {hs : List Hd} {l : List (Value × Option Nat × (Addr → Value → Option Addr → TS))} (r : HdR c L sub hs l) {D : Ends} {x : Ex} {cls : Value} {dd : Option Addr} (w : Wl c L vc Z H σ vx st tx fp) (hx : IsX c Z H x cls dd)
    (h : PoS c L W vc Z H vx tx fp (tryH sub hs x st) D) : wManyA c.K W D l cls dd σ H := by
  induction r with
  | nil => exact h Z H σ fp cls dd Stp.refl w hx
  | @cons Cn oi h0 k hs l hc hi r ih =>
    obtain ⟨⟨A, e1, e2⟩, _⟩ := id hx
    subst e2
    refine ⟨_, hc _ _ e1, fun hb a ha => ?_, fun hb => ?_⟩
    · cases oi with
      | none =>
        simp only [tryH, hb, if_true] at h
        refine ⟨Z, vc, vx, st, tx, fp, x, w, hx, fun i e => (nomatch e), ?_⟩
        show PoS c L Wf vc Z H vx tx fp (h0 x st) D
        cases q : h0 x st with
        | no => rw [q] at h; exact h
        | ex x' s' => rw [q] at h; exact h.elim
        | ok f s' => rw [q] at h; cases f <;> exact h
      | some i =>
        simp only [tryH, hb, if_true] at h
        have hil := hi i rfl
        obtain ⟨fp2, hf2, w2⟩ := w.anyAt (ov := some (.ref a)) hil
        refine ⟨Z, vc, vx, _, tx, fp2, x, w2, hx, fun j e => ?_, ?_⟩
        · cases e
          exact List.getElem?_set_self (by rw [w.len]; exact hil)
        · have s2 : Stp fp Z H fp2 Z H := Stp.less hf2
          cases q : h0 x (st.set i .un) with
          | no => rw [q] at h; exact h
          | ex x' s' => rw [q] at h; exact h.elim
          | ok f s' =>
            rw [q] at h
            have wip : ∀ {P : L2.St → Hp → Prop}, (∀ Z' H' σ' fp', Stp fp Z H fp' Z' H' → Wl c L vc Z' H' σ' vx (s'.set i .un) tx fp' → P σ' H') → ∀ Z' H' σ' fp', Stp fp2 Z H fp' Z' H' → Wl c L vc Z' H' σ' vx s' tx fp' → P (σ'.set i none) H' := fun h Z' H' σ' fp' s3 w3 => by
              obtain ⟨fp4, h4, w4⟩ := w3.forget hil
              exact h Z' H' _ fp4 ((s2.trans s3).trans (Stp.less h4)) w4
            cases f with
            | nx => exact wip h
            | bk => exact wip h
            | ct => exact wip h
            | rt t => exact fun Z' H' σ' v fp' s3 w3 => h Z' H' σ' v fp' (s2.trans s3) w3
    · refine ih ?_
      cases oi with
      | none => simpa only [tryH, hb, Bool.false_eq_true, if_false] using h
      | some i => simpa only [tryH, hb, Bool.false_eq_true, if_false] using h
theorem mTry_rd {sub : Str → Str → Bool} {body : M Fl} {hs : List Hd} {l : List (Value × Option Nat × (Addr → Value → Option Addr → TS))} {D : Ends} (r : HdR c L sub hs l) (h : rdS c L W (mTry sub body hs) D σ H) : rdS c L (wManyA c.K W D l) body D σ H := by
  obtain ⟨Z, vc, vx, st, tx, fp, w, h⟩ := h
  refine ⟨Z, vc, vx, st, tx, fp, w, ?_⟩
  unfold mTry at h
  cases q : body st with
  | no => rw [q] at h; exact h
  | ok f s => rw [q] at h; cases f <;> exact h
  | ex x s =>
    rw [q] at h
    intro Z' H' σ' fp' cls dd s1 w1 hx
    exact tryH_ok r w1 hx (h.behind s1)
end
section
variable {X : Cx} {c : Zc} {L : Nat} {W : WX} {pos : Pos}
/-- clauses and their mirrors -/
inductive ZHs (X : Cx) (c : Zc) (L : Nat) (sub : Str → Str → Bool) : List ExceptHandler → List Hd → List (Value × Option Nat × (Addr → Value → Option Addr → TS)) → Prop
  | nil : ZHs X c L sub [] [] []
  | no {x : Str} {k : Value} {h : Ex → M Fl} {b₀ : Stmt} {suite : List Stmt} {np pos' : Pos} {hds : List ExceptHandler} {hs : List Hd} {l : List (Value × Option Nat × (Addr → Value → Option Addr → TS))} (hn : Names X x k) (hc : ∀ Ce A, c.cl Ce = some A → PySem.W.exmOne c.K (.ref A) k = some (sub Ce x))
      (hsu : ∀ (a : Addr) (oe : Obj) (cls : Value) (d : Option Addr) (pn : List (Addr × Obj)), L2.Zc cls d oe → (∃ vs, oe.data = .fields vs) → PSs (X.suite a ((a, oe) :: pn)) (b₀ :: suite) (tsH c L none h a cls d)) (r : ZHs X c L sub hds hs l) :
      ZHs X c L sub (.ExceptHandler (some (.Name x np)) none (b₀ :: suite) pos' :: hds) ((x, none, h) :: hs) ((k, none, tsH c L none h) :: l)
  | as {x n : Str} {i : Nat} {k : Value} {h : Ex → M Fl} {b₀ : Stmt} {suite : List Stmt} {np pos' : Pos} {hds : List ExceptHandler} {hs : List Hd} {l : List (Value × Option Nat × (Addr → Value → Option Addr → TS))} (hN : X.N.Nodup) (hi : X.N[i]? = some n) (hL : i < L) (hln : X.env.kindOf n = some .local) (hn : Names X x k)
      (hc : ∀ Ce A, c.cl Ce = some A → PySem.W.exmOne c.K (.ref A) k = some (sub Ce x))
      (hsu : ∀ (a : Addr) (oe : Obj) (cls : Value) (d : Option Addr) (pn : List (Addr × Obj)), L2.Zc cls d oe → (∃ vs, oe.data = .fields vs) → PSs (X.suite a ((a, oe) :: pn)) (b₀ :: suite) (tsH c L (some i) h a cls d)) (r : ZHs X c L sub hds hs l) :
      ZHs X c L sub (.ExceptHandler (some (.Name x np)) (some n) (b₀ :: suite) pos' :: hds) ((x, some i, h) :: hs) ((k, some i, tsH c L (some i) h) :: l)
theorem zhs_split {sub : Str → Str → Bool} {hds : List ExceptHandler} {hs : List Hd} {l : List (Value × Option Nat × (Addr → Value → Option Addr → TS))} (h : ZHs X c L sub hds hs l) : HdsA X hds l ∧ HdR c L sub hs l := by
  induction h with
  | nil => exact ⟨.nil, .nil⟩
  | no hn hc hsu r ih => exact ⟨.no hn hsu ih.1, .cons hc (fun i e => nomatch e) ih.2⟩
  | as hN hi hL hln hn hc hsu r ih => exact ⟨.as hN hi hln hn hsu ih.1, .cons hc (fun i e => by cases e; exact hL) ih.2⟩
theorem zs_try {sub : Str → Str → Bool} {body : List Stmt} {h₀ : ExceptHandler} {hds : List ExceptHandler} {m : M Fl} {hs : List Hd} {l : List (Value × Option Nat × (Addr → Value → Option Addr → TS))} (tk : Takes X W) (hst : X.stack = X.env :: X.outer := by rfl) (hf : X.env.frame = some X.env.locals := by rfl)
    (hb : ∀ (W : WX) (pn : List (Addr × Obj)) (xe : Value → Shared → Prop), Takes (X.tr pn xe) W → PassesOwn (model X.prog X.w) X.A X.env xe → ZSs (X.tr pn xe) c L W body m) (hh : ZHs X c L sub (h₀ :: hds) hs l) (hK : c.K = X.K := by rfl) : ZS X c L W (.Try body (h₀ :: hds) [] [] pos) (mTry sub m hs) := by
  obtain ⟨h1, h2⟩ := zhs_split hh
  refine PS.imp (ps_try_manyA (tb := fun W => rdS c L W m) hst hf tk hb h1) fun D σ H h => ?_
  have := mTry_rd h2 h
  rw [hK] at this
  exact this
/-- a suite that does not look at the exception -/
theorem zh_plain {oi : Option Nat} {suite : List Stmt} {m : M Fl} {a : Addr} {cls : Value} {d : Option Addr} (h : ZSs X c L Wf suite m) : PSs X suite (tsH c L oi (fun _ => m) a cls d) := by
  refine PSs.imp h fun D σ H ⟨Z, vc, vx, st, tx, fp, x, w, _, _, q⟩ => ⟨Z, vc, vx, st, tx, fp, w, q⟩
/-! ### suites that look at a field: x = e.f, x = ('..', e.f, ..) -/
inductive XP where
  | kw (w : Str) | fd (f : Str)
def XP.get (x : Ex) : XP → Option D
  | .kw w => some (.str w)
  | .fd g => x.fs.lookup g
def XP.gets (x : Ex) : List XP → Option (List D)
  | [] => some []
  | p :: r => match p.get x, XP.gets x r with
    | some d, some ds => some (d :: ds)
    | _, _ => none
def mXt (Cn : Str) (j : Nat) (ps : List XP) : Ex → M Fl := fun x s => if x.C = Cn then (match XP.gets x ps with
  | some ds => if j < s.length ∧ ds.length ≤ big then .ok .nx (s.set j (.ow (.tup ds) 0)) else .no
  | none => .no) else .no
def mX1 (Cn : Str) (j : Nat) (f : Str) : Ex → M Fl := fun x s => if x.C = Cn then (match x.fs.lookup f with
  | some d => if j < s.length then .ok .nx (s.set j (.ow d 0)) else .no
  | none => .no) else .no
theorem lookup_rel {fs : List (Str × D)} {vs : List (Str × V)} {Z : Hp} {f : Str} {d : D} (hk : fs.map (·.1) = vs.map (·.1)) (hx : ∀ (i : Nat) a v, (fs.map (·.2))[i]? = some a → (vs.map (·.2))[i]? = some v → RF c Z a v) (h : fs.lookup f = some d) : ∃ v, vs.lookup f = some v ∧ RF c Z d v := by
  induction fs generalizing vs with
  | nil => cases h
  | cons p fs ih =>
    cases vs with
    | nil => cases hk
    | cons q vs =>
      obtain ⟨g, d1⟩ := p
      obtain ⟨g', v1⟩ := q
      simp only [List.map_cons, List.cons.injEq] at hk
      obtain ⟨e1, e2⟩ := hk
      subst e1
      by_cases e : f = g
      · subst e
        simp [List.lookup] at h
        subst h
        exact ⟨v1, by simp [List.lookup], hx 0 _ _ rfl rfl⟩
      · have eb : (f == g) = false := by simpa using e
        simp only [List.lookup, eb] at h
        obtain ⟨v, g1, g2⟩ := ih e2 (fun i a v h1 h2 => hx (i + 1) a v (by simpa using h1) (by simpa using h2)) h
        exact ⟨v, by simp only [List.lookup, eb]; exact g1, g2⟩
/-- what stands of the exception in the heap -/
theorem isx_get {Z H : Hp} {x : Ex} {cls : Value} {d : Option Addr} {f : Str} {a : D} (hx : IsX c Z H x cls d) (h : x.fs.lookup f = some a) : ∃ dd vs v, d = some dd ∧ Z dd = some (.xd vs) ∧ vs.lookup f = some v ∧ RF c Z a v := by
  obtain ⟨_, hx⟩ := hx
  rcases hx with e | ⟨dd, vs, e1, e2, e3, e4⟩
  · rw [e] at h; cases h
  · obtain ⟨v, g1, g2⟩ := lookup_rel e3 e4 h
    exact ⟨dd, vs, v, e1, e2, g1, g2⟩
variable {a C : Addr} {oe : Obj} {cls : Value} {d : Option Addr} {pn : List (Addr × Obj)}
/-- the reading of the parts -/
def tXps (a : Addr) (cls : Value) (d : Option Addr) (C : Addr) (i : Nat) : List XP → TA
  | [] => tNil
  | .kw w :: r => tCons (tC (.str w)) (tXps a cls d C i r)
  | .fd g :: r => tCons (tXf a cls d C g (tVar i)) (tXps a cls d C i r)
theorem tXps_run {i : Nat} {x : Ex} {Z H : Hp} {σ : L2.St} (hs : σ[i]? = some (some (.ref a))) (hc : cls = .ref C) (sb : Sub Z H) (hx : IsX c Z H x cls d) : ∀ {ps : List XP} {ds : List D} {Q : List V → Hp → Prop}, XP.gets x ps = some ds →
    (∀ vs, ds.length = vs.length → (∀ (i : Nat) d w, ds[i]? = some d → vs[i]? = some w → RF c Z d w) → Q vs H) → tXps a cls d C i ps σ H Q
  | [], ds, Q, h, k => by
    cases h
    exact k [] rfl fun i d w h => by simp at h
  | p :: r, ds, Q, h, k => by
    simp only [XP.gets] at h
    cases q1 : p.get x with
    | none => rw [q1] at h; cases h
    | some d1 =>
      cases q2 : XP.gets x r with
      | none => rw [q1, q2] at h; cases h
      | some dr =>
        rw [q1, q2] at h
        cases h
        have rest : ∀ {v : V}, RF c Z d1 v → tXps a cls d C i r σ H (fun vs H1 => Q (v :: vs) H1) := fun {v} rv => tXps_run hs hc sb hx q2 fun vs hl hv => k (v :: vs) (by simp [hl]) fun j d w h1 h2 => by
          cases j with
          | zero => cases h1; cases h2; exact rv
          | succ j => exact hv j d w (by simpa using h1) (by simpa using h2)
        cases p with
        | kw w =>
          cases q1
          exact rest .str
        | fd g =>
          obtain ⟨dd, vs, v, e1, e2, e3, e4⟩ := isx_get (f := g) hx q1
          exact ⟨.ref a, hs, rfl, hc, dd, vs, v, e1, sb.get e2 (fun _ e => nomatch e), e3, rest e4⟩
/-- the expressions of the parts -/
inductive XEs (X : Cx) (a C : Addr) (cls : Value) (d : Option Addr) (i : Nat) : List Expr → List XP → Prop
  | nil : XEs X a C cls d i [] []
  | k {w : Str} {z : Nat} {p : Pos} {es : List Expr} {ps : List XP} (r : XEs X a C cls d i es ps) (hs : starEach (.Constant (.str w) z p :: es) X.env = (false, eval (.Constant (.str w) z p) X.env) :: starEach es X.env) : XEs X a C cls d i (.Constant (.str w) z p :: es) (.kw w :: ps)
  | f {e : Expr} {f : Str} {es : List Expr} {ps : List XP} (h : PE X e (tXf a cls d C f (tVar i))) (r : XEs X a C cls d i es ps) (hs : starEach (e :: es) X.env = (false, eval e X.env) :: starEach es X.env) : XEs X a C cls d i (e :: es) (.fd f :: ps)
theorem xes_pa {i : Nat} {es : List Expr} {ps : List XP} (h : XEs X a C cls d i es ps) : PA X es (tXps a cls d C i ps) := by
  induction h with
  | nil => exact pa_nil
  | k r hs ih => exact pa_cons pe_str ih hs
  | f h r hs ih => exact pa_cons h ih hs
/-- x = ('..', e.f) -/
theorem zh_tup {Cn : Str} {i j : Nat} {y : Str} {es : List Expr} {ps : List XP} {k : Nat} {py pt : Pos} (hN : X.N.Nodup) (hC : c.cl Cn = some C) (hj : X.N[j]? = some y) (hjl : Loc X.env.scope y) (hjL : j < L) (h : cls = .ref C → XEs X a C cls d i es ps)
    (hs : swapsWith (.Tuple es k pt) (some (.Name y py)) pos.line X.env = pure false) (hf : X.fn y = true ∨ X.env.scope.names.lookup y = some .local) :
    PSs X [.Assign [.Name y py] (.Tuple es k pt) pos] (tsH c L (some i) (mXt Cn j ps) a cls d) := by
  by_cases hcls : cls = .ref C
  · refine PSs.imp (pss_one (ps_set hN hj hjl (pe_tup (xes_pa (h hcls))) hs hf)) fun D σ H hq => ?_
    obtain ⟨Z, vc, vx, st, tx, fp, x, w, hx, hsl, q⟩ := hq
    unfold mXt at q
    split at q
    · cases q2 : XP.gets x ps with
      | none => rw [q2] at q; exact q.elim
      | some ds =>
        rw [q2] at q
        simp only at q
        split at q
        · rename_i hjs
          refine tXps_run (hsl i rfl) hcls w.sub hx q2 fun vs hl hv => ⟨by rw [← hl]; exact Nat.le_trans hjs.2 big_le, fun p hp => ?_⟩
          have al := al_newF (o := .tup vs) w.sub hp
          have rt : RT c (upd Z p (.tup vs)) (upd H p (.tup vs)) 0 (.tup ds) (.ref p) [] := ⟨rf_tup (w.sub.none hp) hl hv, rfl⟩
          have w2 := w.al al rt
          obtain ⟨fp2, h1, w3⟩ := w2.putTop w.hvc hjL hjs.1
          exact q _ _ _ fp2 ((Stp.of_al al).trans (Stp.less h1)) w3
        · exact q.elim
    · exact q.elim
  · refine ⟨fun pins s σ H D I hq => ?_⟩
    obtain ⟨Z, vc, vx, st, tx, fp, x, w, hx, hsl, q⟩ := hq
    unfold mXt at q
    split at q
    · rename_i e
      obtain ⟨⟨A, e1, e2⟩, _⟩ := hx
      rw [e, hC] at e1
      cases e1
      exact absurd e2 hcls
    · exact q.elim
/-- x = e.f -/
theorem zh_one {Cn f : Str} {i j : Nat} {y : Str} {e : Expr} {py : Pos} (hN : X.N.Nodup) (hC : c.cl Cn = some C) (hj : X.N[j]? = some y) (hjl : Loc X.env.scope y) (hjL : j < L) (h : cls = .ref C → PE X e (tXf a cls d C f (tVar i)))
    (hs : swapsWith e (some (.Name y py)) pos.line X.env = pure false) (hf : X.fn y = true ∨ X.env.scope.names.lookup y = some .local) :
    PSs X [.Assign [.Name y py] e pos] (tsH c L (some i) (mX1 Cn j f) a cls d) := by
  by_cases hcls : cls = .ref C
  · refine PSs.imp (pss_one (ps_set hN hj hjl (h hcls) hs hf)) fun D σ H hq => ?_
    obtain ⟨Z, vc, vx, st, tx, fp, x, w, hx, hsl, q⟩ := hq
    unfold mX1 at q
    split at q
    · cases q2 : x.fs.lookup f with
      | none => rw [q2] at q; exact q.elim
      | some d1 =>
        rw [q2] at q
        simp only at q
        split at q
        · rename_i hjs
          obtain ⟨dd, vs, v, e1, e2, e3, e4⟩ := isx_get hx q2
          refine ⟨.ref a, hsl i rfl, rfl, hcls, dd, vs, v, e1, w.sub.get e2 (fun _ e => nomatch e), e3, ?_⟩
          have w2 := w.pushF e4
          obtain ⟨fp2, h1, w3⟩ := w2.putTop w.hvc hjL hjs
          exact q _ _ _ fp2 (Stp.less h1) w3
        · exact q.elim
    · exact q.elim
  · refine ⟨fun pins s σ H D I hq => ?_⟩
    obtain ⟨Z, vc, vx, st, tx, fp, x, w, hx, hsl, q⟩ := hq
    unfold mX1 at q
    split at q
    · rename_i e
      obtain ⟨⟨A, e1, e2⟩, _⟩ := hx
      rw [e, hC] at e1
      cases e1
      exact absurd e2 hcls
    · exact q.elim
end
end Z

namespace Z
open PySem L2
/-! ### fields -/
def fFld (cs : List Str) (f : Str) : F
  | [(.obj C fs, n)] => if C ∈ cs ∧ n ≤ 1 then (fs.lookup f).map fun d => (d, 0) else none
  | _ => none
/-- what is known of the classes that have the field -/
def Fc (c : Zc) (cs : List Str) (f : Str) : Prop := ∀ Cn ∈ cs, ∀ C, c.cl Cn = some C → Cls c.K C ∧ NoAttr c.K C f
def rFldV (K : PySem.W.Frag) (f : Str) : V → Hp → VK → Prop := fun x H Q => ∃ a C dx fs v, x = .ref a ∧ H a = some (.ins C dx fs) ∧ Cls K C ∧ NoAttr K C f ∧ fs.lookup f = some v ∧ Q v H
section
variable {c : Zc} {L : Nat} {W : WX} {vc : Nat → Option V} {Z H Z' H' Z1 H1 : Hp} {σ : L2.St} {vx : List (Option V)} {st tx : S} {fp fp1 : List Addr}
theorem tre_obj {Cn : Str} {fs : List (Str × D)} {n : Nat} {v : V} (s : Sub Z H) (h : Tre c Z H fp v (.obj Cn fs, n)) : ∃ A a dx vs, v = .ref a ∧ c.cl Cn = some A ∧ H a = some (.ins A dx vs) ∧ fs.map (·.1) = vs.map (·.1) ∧ ∀ (i : Nat) d w, (fs.map (·.2))[i]? = some d → (vs.map (·.2))[i]? = some w → Tre c Z H fp w (d, n - 1) := by
  obtain ⟨f, hf, r⟩ := h
  cases n with
  | zero =>
    obtain ⟨r, _⟩ := r
    cases r with
    | obj hc h hk hx => exact ⟨_, _, _, _, rfl, hc, s.get h (fun _ e => nomatch e), hk, fun i d w h1 h2 => rf_tre (hx i d w h1 h2)⟩
  | succ n =>
    obtain ⟨A, a, dx, vs, g, e, hc, h1, h0, h2, h3⟩ := r
    refine ⟨A, a, dx, vs, e, hc, h1, h0, fun i d w k1 k2 => ?_⟩
    obtain ⟨g', hg, r⟩ := LR.items h2 i d w k1 k2
    exact ⟨g', fun x hx => hf x (by rw [h3]; exact List.mem_cons_of_mem _ (hg x hx)), r⟩
theorem ruFld {cs : List Str} {f : Str} (hf : Fc c cs f) : RuZ c (r1 (rFldV c.K f)) (fFld cs f) := by
  intro Z H fp vs ts t Q e s h k
  match ts, e with
  | [(d, n)], e =>
    obtain ⟨x, rfl, hx⟩ := tre1 h
    cases d with
    | obj Cn fs =>
      simp only [fFld] at e
      split at e
      · rename_i hc
        cases q : fs.lookup f with
        | none => rw [q] at e; cases e
        | some d =>
          rw [q] at e
          cases e
          obtain ⟨A, a, dx, vs, rfl, h1, h2, h3, h4⟩ := tre_obj s hx
          obtain ⟨g1, g2⟩ := hf Cn hc.1 A h1
          obtain ⟨v, e1, e2⟩ := lookup_rel (c := c) (Z := Z) h3 (fun i d w k1 k2 => by
            have := h4 i d w k1 k2
            rw [one_le hc.2] at this
            exact tre_rf this) q
          exact ⟨a, A, dx, vs, v, rfl, h2, g1, g2, e1, kF s k e2⟩
      · cases e
    | _ => cases e
  | [], e => cases e
  | (d, _) :: _ :: _, e => cases d <;> cases e
/-- o.f = e of a slot's own object -/
def putFd (f : Str) (d : D) : List (Str × D) → List (Str × D)
  | [] => [(f, d)]
  | (g, e) :: r => if g = f then (g, d) :: r else (g, e) :: putFd f d r
def mFldS (cs : List Str) (i : Nat) (f : Str) (m : M T) : M Fl := fun s => match m s with
  | .ok t s1 => match tre s1 i with
    | some (.obj C fs, 1) => if C ∈ cs ∧ fs.length < 900 then .ok .nx (s1.set (loc s1 i) (.ow (.obj C (putFd f t.1 fs)) 1)) else .no
    | _ => .no
  | .ex x s1 => .ex x s1
  | .no => .no
theorem putFd_rel {Rl : D → V → Prop} {f : Str} {d : D} {v : V} (r : Rl d v) : ∀ {fs : List (Str × D)} {vs : List (Str × V)}, fs.map (·.1) = vs.map (·.1) → (∀ (i : Nat) a w, (fs.map (·.2))[i]? = some a → (vs.map (·.2))[i]? = some w → Rl a w) →
    (putFd f d fs).map (·.1) = (putF f v vs).map (·.1) ∧ ∀ (i : Nat) a w, ((putFd f d fs).map (·.2))[i]? = some a → ((putF f v vs).map (·.2))[i]? = some w → Rl a w
  | [], [], _, _ => by
    refine ⟨rfl, fun i a w h1 h2 => ?_⟩
    cases i with
    | zero => cases h1; cases h2; exact r
    | succ i => simp [putFd] at h1
  | (g, e) :: fs, (g', u) :: vs, hk, hx => by
    simp only [List.map_cons, List.cons.injEq] at hk
    obtain ⟨e1, e2⟩ := hk
    subst e1
    by_cases q : g = f
    · simp only [putFd, putF, if_pos q]
      refine ⟨by simp [e2], fun i a w h1 h2 => ?_⟩
      cases i with
      | zero => cases h1; cases h2; exact r
      | succ i => exact hx (i + 1) a w (by simpa using h1) (by simpa using h2)
    · simp only [putFd, putF, if_neg q]
      obtain ⟨g1, g2⟩ := putFd_rel (f := f) r e2 (fun i a w h1 h2 => hx (i + 1) a w (by simpa using h1) (by simpa using h2))
      refine ⟨by simp [g1], fun i a w h1 h2 => ?_⟩
      cases i with
      | zero => exact hx 0 a w h1 h2
      | succ i => exact g2 i a w (by simpa using h1) (by simpa using h2)
  | [], _ :: _, hk, _ => by cases hk
  | _ :: _, [], hk, _ => by cases hk
theorem mFldS_rd {cs : List Str} {i : Nat} {f : Str} {m : M T} {D : Ends} (hf : Fc c cs f) (hi : i < L) (h : rdS c L W (mFldS cs i f m) D σ H) : sFld c.K (tVar i) (rd c L W m) f D σ H := by
  obtain ⟨Z, vc, vx, st, tx, fp, w, h⟩ := h
  refine ⟨Z, vc, vx, st, tx, fp, w, ?_⟩
  cases q : m st with
  | no => simp only [mFldS, q] at h; exact h
  | ex x s => simp only [mFldS, q] at h; exact fun Z2 H2 => h Z2 H2 σ
  | ok t s =>
    simp only [mFldS, q] at h
    intro Z1 H1 v fp1 s1 w1
    obtain ⟨Z2, g2, w2, s2, rf⟩ := Wl.frz (ts := [t]) (vs := [v]) w1 w.hvc rfl
    have r0 := rf 0 t.1 v rfl rfl
    cases q2 : tre s i with
    | none => simp only [q2] at h; exact h.elim
    | some t2 =>
      obtain ⟨d, n⟩ := t2
      match n, q2 with
      | 0, q2 => cases d <;> (simp only [q2] at h; exact h.elim)
      | n + 2, q2 => cases d <;> (simp only [q2] at h; exact h.elim)
      | 1, q2 =>
        cases d with
        | obj Cn fs =>
          simp only [q2] at h
          split at h
          · rename_i hc
            obtain ⟨a, o, e1, ha, ho, _, _, k⟩ := wl_mut w2 hi q2 rfl
            obtain ⟨A, dx, vs, rfl, hcl, hk, hx⟩ := ho
            obtain ⟨g1, g3⟩ := hf Cn hc.1 A hcl
            obtain ⟨p1, p2⟩ := putFd_rel (Rl := fun d v => RF c Z2 d v) (f := f) r0 hk hx
            obtain ⟨fp3, s3, w3⟩ := k (.obj Cn (putFd f t.1 fs)) (.ins A dx (putF f v vs)) ⟨A, dx, _, rfl, hcl, p1, p2⟩
            have hl : vs.length = fs.length := by simpa using (congrArg List.length hk).symm
            exact ⟨.ref a, e1, a, A, dx, vs, rfl, ha, g1, g3, by omega, h Z2 _ σ fp3 ((s1.trans s2).trans s3) w3⟩
          · exact h.elim
        | _ => simp only [q2] at h; exact h.elim
end
/-! ### C(..) -/
def makeR (fn : Fn) (Cn : Str) (tks : List Tk) (ds : List D) (s : S) : R T := match fn ((.obj Cn [], 1) :: (tks.map (·.1) ++ ds.map fun d => (d, 0))) with
  | .ok (.non, 0) (t0 :: ts') => match putb tks ts' s with
    | some s2 => .ok t0 s2
    | none => .no
  | .ex x (_ :: ts') => match putb tks ts' s with
    | some s2 => .ex x s2
    | none => .no
  | _ => .no
def mMake (fn : Fn) (Cn : Str) (as : List Ag) (ds : List D) : M T := fun s => match eva as s with
  | .ok tks s1 => makeR fn Cn tks ds s1
  | .ex x s1 => .ex x s1
  | .no => .no
section
variable {c : Zc} {L : Nat} {W : WX} {vc : Nat → Option V} {Z H Z' H' Z1 H1 : Hp} {σ : L2.St} {vx : List (Option V)} {st tx : S} {fp fp1 : List Addr}
theorem make_run {fn : Fn} {np : Nat} {Cn : Str} {C : Addr} {tks : List Tk} {s : S} {vs dvs : List V} {ds : List D} {Q : VK} (hC : c.cl Cn = some C) (hvc : ∀ j v, vc j = some v → L ≤ j ∧ vx[j - L]? = some (some v)) (hnp : tks.length + ds.length + 1 = np) (hl : vs.length = tks.length)
    (hd : Paired (fun d v => ∀ Z, RF c Z d v) ds dvs) (pr : Paired (fun tk v => TkR (σ ++ vx) ((σ ++ vx).length - tx.length) tk v) tks vs) (w : Wl c L vc Z H σ (vx ++ vs.map some) s (tx ++ (tks.map (·.1)).map fun t => .ow t.1 t.2) fp)
    (h : PoE c L W vc Z H σ vx tx fp (makeR fn Cn tks ds s) Q) : ∀ x dx, H x = none → H dx = none → dx ≠ x →
      spZ c np fn (.ref x :: (vs ++ dvs)) (upd (upd H dx (.own x)) x (.ins C dx [])) (fun v H2 => v = .non ∧ Q (.ref x) H2) (fun cls d H' => W cls d σ H') := by
  intro x dx hx hdx hne
  have lr := w.lr
  rw [← List.append_assoc, ← List.append_assoc] at lr
  have hl' : (s ++ tx).length = (σ ++ vx).length := by
    have := lr.len
    simp only [List.length_append, List.length_map] at this ⊢
    omega
  obtain ⟨g, f, e, h1, h2⟩ := LR.split hl' lr
  have nd := w.nd
  rw [e] at nd
  have n1 := List.nodup_append.mp nd
  have dg : ∀ a ∈ g, Z a = none := fun a ha => w.dj a (by rw [e]; exact List.mem_append_left _ ha)
  have df : ∀ a ∈ f, Z a = none := fun a ha => w.dj a (by rw [e]; exact List.mem_append_right _ ha)
  have tg : ∀ a ∈ g, H a ≠ none := LR.mem h1 fun _ _ _ h => CeR.there h
  have tf : ∀ a ∈ f, H a ≠ none := LR.mem h2 fun _ _ _ h => CeR.there h
  have lds : ∀ {ds : List D} {dvs : List V}, Paired (fun d v => ∀ Z, RF c Z d v) ds dvs → ∀ {Z H}, LR (fun (t : T) v f => RT c Z H t.2 t.1 v f) (ds.map fun d => (d, 0)) dvs [] := by
    intro ds dvs p
    induction p with
    | nil => intro Z H; rfl
    | cons q _ ih => intro Z H; exact ⟨[], [], rfl, ⟨q Z, rfl⟩, ih⟩
  -- the heap with the new instance
  have hZx : Z x = none := w.sub.none hx
  have hZd : Z dx = none := w.sub.none hdx
  have old : ∀ a, H a ≠ none → (upd (upd H dx (.own x)) x (.ins C dx [])) a = H a := fun a ha => by
    have n1 : a ≠ x := fun z => ha (z ▸ hx)
    have n2 : a ≠ dx := fun z => ha (z ▸ hdx)
    rw [upd_ne n1, upd_ne n2]
  have sb : Sub Z (upd (upd H dx (.own x)) x (.ins C dx [])) := fun a o q => by
    have hs := w.sub.some q
    rcases w.sub a o q with z | ⟨ob, kvs, z, m⟩
    · exact .inl ((old a hs).trans z)
    · exact .inr ⟨ob, kvs, (old a hs).trans z, m⟩
  have sx : Stp fp Z H fp Z (upd (upd H dx (.own x)) x (.ins C dx [])) := ⟨Sm.refl _, fun a o q _ _ => (old a (by rw [q]; exact fun z => nomatch z)).trans q, fun a q => by rw [old a q]; exact q, fun _ h => .inl h, fun _ h => .inl h⟩
  have ar : Ar c Z (upd (upd H dx (.own x)) x (.ins C dx [])) ((.obj Cn [], 1) :: (tks.map (·.1) ++ ds.map fun d => (d, 0))) (.ref x :: (vs ++ dvs)) ([x] ++ f) := by
    have q := LR.append (LR.imp (lr_ow h2) fun a b g' hg _ r => RT.stay (Sm.refl Z) r fun y hy => old y (tf y (hg y hy))) (lds hd (Z := Z) (H := upd (upd H dx (.own x)) x (.ins C dx [])))
    rw [List.append_nil] at q
    refine ⟨sb, ⟨[x], f, rfl, ⟨C, x, dx, [], [], rfl, hC, upd_same, rfl, rfl, rfl⟩, q⟩, List.nodup_append.mpr ⟨by simp, n1.2.1, fun a ha b hb z => ?_⟩, fun a ha => ?_⟩
    · rw [List.mem_singleton.mp ha] at z
      exact tf b hb (z ▸ hx)
    · rcases List.mem_append.mp ha with ha | ha
      · rw [List.mem_singleton.mp ha]; exact hZx
      · exact df a ha
  -- the world without the arguments, behind the call
  have base : ∀ {Z2 H2 : Hp} {f' : List Addr}, Sub Z2 H2 → Stp ([x] ++ f) Z (upd (upd H dx (.own x)) x (.ins C dx [])) f' Z2 H2 → Wl c L vc Z2 H2 σ vx s tx g ∧ (∀ a ∈ g, a ∉ f') := by
    intro Z2 H2 f' sb s2
    have nf : ∀ a ∈ g, a ∉ [x] ++ f := fun a ha hb => by
      rcases List.mem_append.mp hb with z | z
      · rw [List.mem_singleton.mp z] at ha; exact tg x ha hx
      · exact n1.2.2 a ha a z rfl
    have keep : ∀ a ∈ g, H2 a = H a := fun a ha => by
      cases q : H a with
      | none => exact absurd q (tg a ha)
      | some o => exact s2.hh a o ((old a (tg a ha)).trans q) (nf a ha) (dg a ha)
    refine ⟨⟨w.len, w.hst, hvc, sb, LR.imp h1 fun a b q hq _ r => CeR.stay s2.zz r fun y hy => keep y (hq y hy), n1.1, fun a ha => ?_⟩, fun a ha hb => ?_⟩
    · cases q : Z2 a with
      | none => rfl
      | some o =>
        rcases s2.zn a (by rw [q]; exact fun z => nomatch z) with z | z | z
        · exact absurd (dg a ha) z
        · exact absurd z (nf a ha)
        · rw [old a (tg a ha)] at z; exact absurd z (tg a ha)
    · rcases s2.ff a hb with z | z
      · exact nf a ha z
      · rw [old a (tg a ha)] at z; exact tg a ha z
  have stp : ∀ {Z2 H2 : Hp} {f' g2 : List Addr}, Stp ([x] ++ f) Z (upd (upd H dx (.own x)) x (.ins C dx [])) f' Z2 H2 → (∀ a ∈ g2, a ∈ g ∨ a ∈ f') → Stp fp Z H g2 Z2 H2 := by
    intro Z2 H2 f' g2 s2 hg
    have fresh : ∀ a, (upd (upd H dx (.own x)) x (.ins C dx [])) a = none → H a = none := fun a z => by
      cases q : H a with
      | none => rfl
      | some o => rw [old a (by rw [q]; exact fun z => nomatch z)] at z; rw [q] at z; cases z
    refine ⟨s2.zz, fun a o q ha hz => s2.hh a o ((old a (by rw [q]; exact fun z => nomatch z)).trans q) (fun hb => ?_) hz, fun a q => s2.nn a (by rw [old a q]; exact q), fun a ha => ?_, fun a ha => ?_⟩
    · rcases List.mem_append.mp hb with z | z
      · rw [List.mem_singleton.mp z, hx] at q; cases q
      · exact ha (by rw [e]; exact List.mem_append_right _ z)
    · rcases hg a ha with z | z
      · exact .inl (by rw [e]; exact List.mem_append_left _ z)
      · rcases s2.ff a z with z | z
        · rcases List.mem_append.mp z with z | z
          · rw [List.mem_singleton.mp z]; exact .inr hx
          · exact .inl (by rw [e]; exact List.mem_append_right _ z)
        · exact .inr (fresh a z)
    · rcases s2.zn a ha with z | z | z
      · exact .inl z
      · rcases List.mem_append.mp z with z | z
        · rw [List.mem_singleton.mp z]; exact .inr (.inr hx)
        · exact .inr (.inl (by rw [e]; exact List.mem_append_right _ z))
      · exact .inr (.inr (fresh a z))
  have prt : ∀ (ws : List V), Paired (fun tk v => TkR (σ ++ vx) ((σ ++ vx).length - tx.length) tk v) tks ((vs ++ ws).take tks.length) := fun ws => by
    rw [← hl, List.take_left]
    exact pr
  refine ⟨Z, _, [x] ++ f, by rw [List.length_cons, List.length_append, List.length_map, List.length_map]; exact hnp, ar, ?_⟩
  unfold makeR at h
  cases q : fn ((.obj Cn [], 1) :: (tks.map (·.1) ++ ds.map fun d => (d, 0))) with
  | no => simp only [q] at h; exact h
  | ex xx ts' =>
    simp only [q] at h
    match ts', h with
    | [], h => exact h.elim
    | t0 :: ts', h =>
      simp only at h
      cases q2 : putb tks ts' s with
      | none => simp only [q2] at h; exact h.elim
      | some s2 =>
        simp only [q2] at h
        intro Z2 H2 f' cls dd st2 a2 hx2
        obtain ⟨wb, dis⟩ := base a2.sub st2
        obtain ⟨f0, fa, ef, r0, l1⟩ := a2.lr
        have nd2 := a2.nd
        rw [ef] at nd2
        have n2 := List.nodup_append.mp nd2
        obtain ⟨g2, k1, k2⟩ := putb_ok wb (prt dvs) l1 (List.nodup_append.mpr ⟨wb.nd, n2.2.1, fun a ha b hb z => dis a ha (by rw [ef]; exact List.mem_append_right _ (z ▸ hb))⟩) (fun a ha => a2.dj a (by rw [ef]; exact List.mem_append_right _ ha)) q2
        exact h Z2 H2 g2 cls dd (stp st2 fun a ha => (List.mem_append.mp (k1 a ha)).imp id fun z => by rw [ef]; exact List.mem_append_right _ z) k2 hx2
  | ok t ts' =>
    simp only [q] at h
    obtain ⟨d, n⟩ := t
    match d, n, ts', h with
    | .non, 0, t0 :: ts', h =>
      simp only at h
      cases q2 : putb tks ts' s with
      | none => simp only [q2] at h; exact h.elim
      | some s2 =>
        simp only [q2] at h
        intro Z2 H2 v f' st2 a2
        obtain ⟨wb, dis⟩ := base a2.sub st2
        have lr2 : LR (fun (t : T) v f => RT c Z2 H2 t.2 t.1 v f) (t0 :: (ts' ++ [(.non, 0)])) (.ref x :: ((vs ++ dvs) ++ [v])) f' := a2.lr
        obtain ⟨f0, fr, ef, r0, l0⟩ := lr2
        have hlt : ts'.length = (vs ++ dvs).length := by
          have := l0.len
          simp only [List.length_append, List.length_cons, List.length_nil] at this ⊢
          omega
        obtain ⟨fa, ft, ef2, l1, l2⟩ := LR.split hlt l0
        obtain ⟨v', ev, rt⟩ := LR.of_one l2
        cases ev
        have nd2 := a2.nd
        rw [ef, ef2] at nd2
        have n2 := List.nodup_append.mp nd2
        have n3 := List.nodup_append.mp n2.2.1
        have mfa : ∀ a ∈ fa, a ∈ f' := fun a ha => by rw [ef, ef2]; exact List.mem_append_right _ (List.mem_append_left _ ha)
        have mf0 : ∀ a ∈ f0, a ∈ f' := fun a ha => by rw [ef]; exact List.mem_append_left _ ha
        obtain ⟨g2, k1, k2⟩ := putb_ok wb (prt dvs) l1 (List.nodup_append.mpr ⟨wb.nd, n3.1, fun a ha b hb z => dis a ha (mfa a (z ▸ hb))⟩) (fun a ha => a2.dj a (mfa a ha)) q2
        have w3 := k2.push (Sm.refl _) a2.sub (fun _ _ => rfl) r0 (fun a ha hb => by
          rcases List.mem_append.mp (k1 a hb) with z | z
          · exact dis a z (mf0 a ha)
          · exact n2.2.2 a ha a (List.mem_append_left _ z) rfl) k2.dj n2.1 (fun a ha => a2.dj a (mf0 a ha))
        obtain ⟨rv, _⟩ := rt
        cases rv
        refine ⟨rfl, h Z2 H2 (.ref x) (g2 ++ f0) (stp st2 fun a ha => ?_) w3⟩
        rcases List.mem_append.mp ha with ha | ha
        · rcases List.mem_append.mp (k1 a ha) with z | z
          · exact .inl z
          · exact .inr (mfa a z)
        · exact .inr (mf0 a ha)
    | .non, 0, [], h => exact h.elim
    | .non, _ + 1, _, h => exact h.elim
    | .bl _, _, _, h => exact h.elim
    | .int _, _, _, h => exact h.elim
    | .str _, _, _, h => exact h.elim
    | .lst _, _, _, h => exact h.elim
    | .tup _, _, _, h => exact h.elim
    | .dct _, _, _, h => exact h.elim
    | .obj _ _, _, _, h => exact h.elim
    | .rol _, _, _, h => exact h.elim
theorem mMake_rd {fn : Fn} {np : Nat} {Cn : Str} {C : Addr} {as : List Ag} {ds : List D} {dvs : List V} {Q : VK} (hC : c.cl Cn = some C) (hL : okA L as = true) (hnp : as.length + ds.length + 1 = np) (hd : Paired (fun d v => ∀ Z, RF c Z d v) ds dvs) (h : rd c L W (mMake fn Cn as ds) σ H Q) :
    tAs c L W as σ H (fun vs H1 => ∀ x dx, H1 x = none → H1 dx = none → dx ≠ x → spZ c np fn (.ref x :: (vs ++ dvs)) (upd (upd H1 dx (.own x)) x (.ins C dx [])) (fun v H2 => v = .non ∧ Q (.ref x) H2) (fun cls d H' => W cls d σ H')) := by
  obtain ⟨Z, vc, vx, st, tx, fp, w, h⟩ := h
  refine tAs_run w (okA_mem hL) ?_
  unfold mMake at h
  cases q : eva as st with
  | no => simp only [q] at h; exact h.elim
  | ex x s =>
    simp only [q] at h
    intro Z1 H1 fp1 cls dd s1 ⟨vy, ty, hl, w1⟩ hx
    obtain ⟨g, hg, w2⟩ := Wl.pops hl w1 w.hvc
    exact h Z1 H1 g cls dd (s1.trans (Stp.less hg)) w2 hx
  | ok tks s =>
    simp only [q] at h
    intro Z1 H1 vs fp1 s1 hl pr w1
    exact make_run hC w.hvc (by rw [eva_len q]; exact hnp) hl hd pr w1 (PoE.behind s1 h)
end
end Z

namespace Z
open PySem L2
open PySem.Spec PyProof.Rows
/-! ### C(..), o.m(..), o.f over the text -/
theorem Rg.make {k : Nat} {A : Around} (r : Rg (k + 1) A) (C : Addr) (us : List Value) (kw : List (Str × Value)) : Rg k (A.under (.builtin "type.__call__" ⟨.ref C :: us, kw⟩)) := ⟨r.rm.make C us kw, r.gd⟩
section
variable {X : Cx} {W : WX} {k : Nat} {f C : Addr} {fd : FuncData} {ps : List Str} {ds : List Value} {dvs : List V} {sp : Sp}
theorem run_makeG {pins : List (Addr × Obj)} {σ : L2.St} {H : Hp} {s : Shared} {Q : VK} {us : List Value} {vs : List V} (tk : Takes X W) (M : Mk X.K C f) (F0 : FnG X.prog X.w X.K X.mg X.base k f fd ps sp) (hr : Rg (k + 1) X.A) (hb : Binds X.K fd ps ds) (hd : Vals dvs ds)
    (I : Inv X pins σ H s) (r : Vals vs us)
    (h : ∀ x dx, H x = none → H dx = none → dx ≠ x → sp (.ref x :: (vs ++ dvs)) (upd (upd H dx (.own x)) x (.ins C dx [])) (fun v H2 => v = .non ∧ Q (.ref x) H2) (fun cls d H' => W cls d σ H')) :
    wpAny (model X.prog X.w) X.A (call (.ref C) us) (EP X pins σ Q) X.xe s := by
  have hq := h (s.heap.objs.size + 1) s.heap.objs.size (I.hok.fresh (Nat.le_succ _)) (I.hok.fresh (Nat.le_refl _)) (Nat.ne_of_lt (Nat.lt_succ_self _))
  have I2 := Inv.made (C := C) I
  have r2 : Vals (V.ref (s.heap.objs.size + 1) :: (vs ++ dvs)) (Value.ref (s.heap.objs.size + 1) :: (us ++ ds)) := .cons rfl (r.append hd)
  have hl : (Value.ref (s.heap.objs.size + 1) :: us ++ ds).length = ps.length := by
    have e := r2.length
    rw [F0.len _ _ _ _ hq] at e
    exact e.symm
  refine wpAny_call (make_map (f := f) I.kIn M.makes M.init (beq_iff_eq.mp M.fn) (codeAny_mono (F0.run _ X.stack _ _ ⟨Value.ref (s.heap.objs.size + 1) :: us, []⟩ (Value.ref (s.heap.objs.size + 1) :: (us ++ ds)) _ _ (fun cls d H' => W cls d σ H') (hr.make C us [])
    (I2.env0.make C us []) (hb _ (Value.ref (s.heap.objs.size + 1) :: us) I2.kIn hl) r2 hq) fun r s' hq' => ?_))
  match r, hq' with
  | .error e, hq' => exact passAt tk σ pins _ _ e s' I2 hq'
  | .ok (.ret u), hq' =>
    obtain ⟨v, H', I3, rv, ev, q3⟩ := I2.after hq'
    subst ev
    exact ⟨rv, ⟨V.ref (s.heap.objs.size + 1), H', I3, rfl, q3⟩⟩
end
/-- a method of a class -/
structure Cm (P : Program) (w : World) (c : Zc) (mg : Str → Option Value) (base : Heap) (k : Nat) (Cn m : Str) (ps : List Str) (fn : Fn) (dds : List (List D)) : Prop where
  ex : ∃ (C f : Addr) (fd : FuncData), c.cl Cn = some C ∧ FnG P w c.K mg base k f fd ps (spZ c ps.length fn) ∧ Cls c.K C ∧ Meth c.K C m f ∧ ∀ dd ∈ dds, Bd c fd ps dd
/-- a class that is called -/
structure Ck (P : Program) (w : World) (c : Zc) (mg : Str → Option Value) (base : Heap) (k : Nat) (Cn : Str) (ps : List Str) (fn : Fn) (dds : List (List D)) : Prop where
  ex : ∃ (C f : Addr) (fd : FuncData), c.cl Cn = some C ∧ mg Cn = some (.ref C) ∧ FnG P w c.K mg base k f fd ps (spZ c ps.length fn) ∧ Mk c.K C f ∧ ∀ dd ∈ dds, Bd c fd ps dd
/-- .. their defs -/
structure Dm (c : Zc) (Cn m qual : Str) (st : Stmt) (ps : List Str) (dds : List (List D)) : Prop where
  ex : ∃ (C f : Addr) (fd : FuncData), c.cl Cn = some C ∧ FunX c.K m qual st f fd ∧ Cls c.K C ∧ Meth c.K C m f ∧ ∀ dd ∈ dds, Bd c fd ps dd
structure Dk (c : Zc) (mg : Str → Option Value) (Cn qual : Str) (st : Stmt) (ps : List Str) (dds : List (List D)) : Prop where
  ex : ∃ (C f : Addr) (fd : FuncData), c.cl Cn = some C ∧ mg Cn = some (.ref C) ∧ FunX c.K "__init__" qual st f fd ∧ Mk c.K C f ∧ ∀ dd ∈ dds, Bd c fd ps dd
section
variable {P : Program} {w : World} {c : Zc} {mg : Str → Option Value} {base : Heap}
theorem cm_of {Cn m qual : Str} {st : Stmt} {N ps : List Str} {dds : List (List D)} {k : Nat} {body : M Fl} (D0 : Dm c Cn m qual st ps dds) (S0 : FnScope N ps (defScope st)) (hn : ps.length ≤ N.length)
    (hb : ∀ (f : Addr) (cdv : Value) (A : Around) (outer : List Env) (s : Shared) (H : Hp) (E : XK) (W : WX), Rg k (A.deeper (envOfC qual (defScope st) s.heap.objs.size f cdv)) → Takes (cxOf (L2.CX P w) P w c.K mg base N qual (defScope st) f cdv A outer s H E) W →
      ZSs (cxOf (L2.CX P w) P w c.K mg base N qual (defScope st) f cdv A outer s H E) c N.length W (defBody st) body) : Cm P w c mg base (k + 1) Cn m ps (fnOf N.length body) dds := by
  obtain ⟨C, f, fd, h0, F0, h1, h2, h3⟩ := D0.ex
  exact ⟨C, f, fd, h0, ok_fn F0 S0 hn (hb f), h1, h2, h3⟩
theorem ck_of {Cn qual : Str} {st : Stmt} {N ps : List Str} {dds : List (List D)} {k : Nat} {body : M Fl} (D0 : Dk c mg Cn qual st ps dds) (S0 : FnScope N ps (defScope st)) (hn : ps.length ≤ N.length)
    (hb : ∀ (f : Addr) (cdv : Value) (A : Around) (outer : List Env) (s : Shared) (H : Hp) (E : XK) (W : WX), Rg k (A.deeper (envOfC qual (defScope st) s.heap.objs.size f cdv)) → Takes (cxOf (L2.CX P w) P w c.K mg base N qual (defScope st) f cdv A outer s H E) W →
      ZSs (cxOf (L2.CX P w) P w c.K mg base N qual (defScope st) f cdv A outer s H E) c N.length W (defBody st) body) : Ck P w c mg base (k + 1) Cn ps (fnOf N.length body) dds := by
  obtain ⟨C, f, fd, h0, hm, F0, h1, h3⟩ := D0.ex
  exact ⟨C, f, fd, h0, hm, ok_fn F0 S0 hn (hb f), h1, h3⟩
end
/-! ### o.m(..) -/
def callR (fn : Fn) (tks : List Tk) (ds : List D) (s : S) : R T := match fn (tks.map (·.1) ++ ds.map fun d => (d, 0)) with
  | .ok t ts' => match putb tks ts' s with
    | some s2 => .ok t s2
    | none => .no
  | .ex x ts' => match putb tks ts' s with
    | some s2 => .ex x s2
    | none => .no
  | .no => .no
/-- o.m(..), what is raised wished for at the slots -/
def tMethW (C : Addr) (m : Str) (sp : Sp) (dvs : List V) (W : WX) (ta : TE) (t : TA) : TE := fun σ H Q => ta σ H fun x H1 => ∃ a dx fs, x = .ref a ∧ H1 a = some (.ins C dx fs) ∧ fs.lookup m = none ∧
  t σ H1 fun vs H2 => sp (x :: (vs ++ dvs)) H2 Q (fun cls d H' => W cls d σ H')
def isIns (Cn m : Str) : D → Bool
  | .obj C fs => decide (C = Cn) && (fs.lookup m).isNone
  | _ => false
def mMeth (fn : Fn) (Cn m : Str) (r : Ag) (as : List Ag) (ds : List D) : M T := fun s => match r.ev s with
  | .ok tk s1 => if isIns Cn m tk.1.1 = true then (match eva as s1 with
    | .ok tks s2 => callR fn (tk :: tks) ds s2
    | .ex x s2 => .ex x s2
    | .no => .no) else .no
  | .ex x s1 => .ex x s1
  | .no => .no
section
variable {c : Zc} {L : Nat} {W : WX} {vc : Nat → Option V} {Z H Z' H' Z1 H1 : Hp} {σ : L2.St} {vx : List (Option V)} {st tx : S} {fp fp1 : List Addr}
theorem lookup_none {fs : List (Str × D)} {vs : List (Str × V)} {m : Str} (hk : fs.map (·.1) = vs.map (·.1)) (h : fs.lookup m = none) : vs.lookup m = none := by
  induction fs generalizing vs with
  | nil =>
    cases vs with
    | nil => rfl
    | cons => cases hk
  | cons p fs ih =>
    cases vs with
    | nil => cases hk
    | cons q vs =>
      obtain ⟨g, d⟩ := p
      obtain ⟨g', v⟩ := q
      simp only [List.map_cons, List.cons.injEq] at hk
      obtain ⟨e1, e2⟩ := hk
      subst e1
      by_cases e : m = g
      · subst e
        simp [List.lookup] at h
      · have eb : (m == g) = false := by simpa using e
        simp only [List.lookup, eb] at h ⊢
        exact ih e2 h
theorem ins_top {v : V} {d : D} {n : Nat} {Cn m : Str} (w : Wl c L vc Z H σ (vx ++ [some v]) st (tx ++ [.ow d n]) fp) (hvc : ∀ j v, vc j = some v → L ≤ j ∧ vx[j - L]? = some (some v)) (hi : isIns Cn m d = true) : ∃ a A dx vs, v = .ref a ∧ c.cl Cn = some A ∧ H a = some (.ins A dx vs) ∧ vs.lookup m = none := by
  obtain ⟨g, f, e, ⟨v', e', r⟩, w2⟩ := w.pop hvc
  cases e'
  cases d with
  | obj C fs =>
    simp only [isIns, Bool.and_eq_true, decide_eq_true_eq, Option.isNone_iff_eq_none] at hi
    obtain ⟨A, a, dx, vs, e1, e2, e3, e4, _⟩ := tre_obj (fp := f) w.sub ⟨f, fun _ h => h, r⟩
    exact ⟨a, A, dx, vs, e1, by rw [← hi.1]; exact e2, e3, lookup_none e4 hi.2⟩
  | _ => cases hi
theorem mMeth_rd {fn : Fn} {np : Nat} {Cn m : Str} {C : Addr} {r : Ag} {as : List Ag} {ds : List D} {dvs : List V} {Q : VK} (hC : c.cl Cn = some C) (hL : okA L (r :: as) = true) (hnp : as.length + 1 + ds.length = np) (hd : Paired (fun d v => ∀ Z, RF c Z d v) ds dvs) (h : rd c L W (mMeth fn Cn m r as ds) σ H Q) :
    tMethW C m (spZ c np fn) dvs W (tAg c L W r) (tAs c L W as) σ H Q := by
  obtain ⟨Z, vc, vx, st, tx, fp, w, h⟩ := h
  have hL' : okA L as = true := by
    cases r with
    | bo i => simp only [okA, Bool.and_eq_true] at hL; exact hL.2
    | tm m => exact hL
  -- behind the receiver
  have go : ∀ {tk : Tk} {s : S} {Z1 H1 : Hp} {v : V} {fp1 : List Addr}, r.ev st = .ok tk s → Stp fp Z H fp1 Z1 H1 → TkR (σ ++ vx) ((σ ++ vx).length - tx.length) tk v → Wl c L vc Z1 H1 σ (vx ++ [some v]) s (tx ++ [.ow tk.1.1 tk.1.2]) fp1 →
      ∃ a dx fs, v = .ref a ∧ H1 a = some (.ins C dx fs) ∧ fs.lookup m = none ∧ tAs c L W as σ H1 fun vs H2 => spZ c np fn (v :: (vs ++ dvs)) H2 Q (fun cls d H' => W cls d σ H') := by
    intro tk s Z1 H1 v fp1 q s1 tr w1
    simp only [mMeth, q] at h
    split at h
    · rename_i hi
      obtain ⟨a, A, dx, vs0, e1, e2, e3, e4⟩ := ins_top w1 w.hvc hi
      rw [hC] at e2
      cases e2
      refine ⟨a, dx, vs0, e1, e3, e4, tAs_run w1 (okA_mem hL') ?_⟩
      cases q2 : eva as s with
      | no => simp only [q2] at h; exact h.elim
      | ex x s' =>
        simp only [q2] at h
        intro Z2 H2 fp2 cls dd s2 ⟨vy, ty, hl, w2⟩ x2
        have hl2 : (some v :: vy).length = (Ce.ow tk.1.1 tk.1.2 :: ty).length := by simp [hl]
        have w2' : Wl c L vc Z2 H2 σ (vx ++ (some v :: vy)) s' (tx ++ (Ce.ow tk.1.1 tk.1.2 :: ty)) fp2 := by simpa [List.append_assoc] using w2
        obtain ⟨g, hg, w3⟩ := Wl.pops hl2 w2' w.hvc
        exact h Z2 H2 g cls dd ((s1.trans s2).trans (Stp.less hg)) w3 x2
      | ok tks s' =>
        simp only [q2] at h
        intro Z2 H2 vs fp2 s2 hl pr w2
        have pr' : Paired (fun tk v => TkR (σ ++ vx) ((σ ++ vx).length - tx.length) tk v) (tk :: tks) (v :: vs) := by
          refine .cons tr (Paired.mapP pr fun tk v r j hj => ?_)
          obtain ⟨z1, z2⟩ := r j hj
          have z3 : j < (σ ++ vx).length - tx.length := by
            simp only [List.length_append, List.length_cons, List.length_nil] at z1 ⊢
            omega
          refine ⟨z3, ?_⟩
          rw [← List.append_assoc, List.getElem?_append_left (by omega)] at z2
          exact z2
        have w2' : Wl c L vc Z2 H2 σ (vx ++ (v :: vs).map some) s' (tx ++ ((tk :: tks).map (·.1)).map fun t => .ow t.1 t.2) fp2 := by simpa [List.append_assoc] using w2
        have := call_run (np := np) (fn := fn) (ds := ds) (Q := Q) (W := W) w.hvc (by rw [List.length_cons, eva_len q2]; exact hnp) (by simp [hl]) hd pr' w2' (PoE.behind (s1.trans s2) h)
        simpa using this
    · exact h.elim
  cases r with
  | bo i =>
    have hi := okA_mem hL i List.mem_cons_self
    cases q : tre st i with
    | none => simp only [mMeth, Ag.ev, q] at h; exact h.elim
    | some t =>
      obtain ⟨d, n⟩ := t
      obtain ⟨v, fp', e1, e2, hf, w2⟩ := w.take hi q
      refine ⟨hi, v, e1, ?_⟩
      cases n with
      | zero =>
        obtain ⟨v', f, e3, _, rr, _⟩ := w.look hi q
        rw [e1] at e3
        cases e3
        exact go (tk := ((d, 0), none)) (s := st) (by simp only [Ag.ev, q]) Stp.refl (fun _ h => nomatch h) (w.pushF rr.1)
      | succ n =>
        exact go (tk := ((d, n + 1), some (loc st i))) (s := st.set (loc st i) .un) (by simp only [Ag.ev, q]) (Stp.less hf) (fun j hj => by cases hj; exact ⟨lowp w q, e2⟩) w2
  | tm mm =>
    refine ⟨Z, vc, vx, st, tx, fp, w, ?_⟩
    cases q : mm st with
    | no => simp only [mMeth, Ag.ev, q] at h; exact h.elim
    | ex x s =>
      simp only [mMeth, Ag.ev, q] at h
      exact h
    | ok t s =>
      exact fun Z1 H1 v fp1 s1 w1 => go (tk := (t, none)) (by simp only [Ag.ev, q]) s1 (fun _ h => nomatch h) w1
end
section
variable {X : Cx} {c : Zc} {L : Nat} {W : WX} {pos : Pos} {k j : Nat} {Cn m : Str} {ps : List Str} {fn : Fn} {dds : List (List D)} {p apos : Pos} {o e : Expr} {es : List Expr} {r : Ag} {as : List Ag}
theorem zc_mk (dd : List D) (tk : Takes X W) (C0 : Ck X.prog X.w c X.mg X.base k Cn ps fn dds) (hr : Rg j X.A) (hkj : k + 1 ≤ j) (hd : dd ∈ dds) (ha : ZGs X c L W (e :: es) as) (hK : c.K = X.K := by rfl)
    (hg : Gl X Cn := by rfl) (hnp : as.length + dd.length + 1 = ps.length := by rfl) (hL : okA L as = true := by rfl) (hdb : (Cn == ("__debug__" : Str)) = false := by decide)
    (he : starEach (e :: es) X.env = (false, eval e X.env) :: starEach es X.env := by rfl) (hpl : (backTo pos (starEach es X.env)).any (·.1) = false := by rfl) : ZE X c L W (.Call (.Name Cn p) (e :: es) [] pos) (mMake fn Cn as dd) := by
  obtain ⟨C, f, fd, h1, hm, F0, M, h2⟩ := C0.ex
  obtain ⟨K0, cl0⟩ := c
  cases hK
  obtain ⟨ds, dvs, b1, b2, b3⟩ := h2 dd hd
  exact ⟨fun pins s σ H Q I h => wpAny_Call_Name_kw (ld_glob I hg hm (PySem.W.callWith_K (h₀ := X.base) I.ok.mod.kin M.kp (thn (ha.run pos pins s σ H _ I (mMake_rd h1 hL hnp b3 h)) fun us s1 ⟨vs, H1, I1, r, q⟩ => ⟨I1.kIn, run_makeG tk M F0 (hr.mono hkj) b1 b2 I1 r q⟩) he hpl) hdb)⟩
theorem zc_mk0 (dd : List D) (tk : Takes X W) (C0 : Ck X.prog X.w c X.mg X.base k Cn ps fn dds) (hr : Rg j X.A) (hkj : k + 1 ≤ j) (hd : dd ∈ dds) (hK : c.K = X.K := by rfl)
    (hg : Gl X Cn := by rfl) (hnp : dd.length + 1 = ps.length := by rfl) (hdb : (Cn == ("__debug__" : Str)) = false := by decide) : ZE X c L W (.Call (.Name Cn p) [] [] pos) (mMake fn Cn [] dd) := by
  obtain ⟨C, f, fd, h1, hm, F0, M, h2⟩ := C0.ex
  obtain ⟨K0, cl0⟩ := c
  cases hK
  obtain ⟨ds, dvs, b1, b2, b3⟩ := h2 dd hd
  exact ⟨fun pins s σ H Q I h => wpAny_Call_Name_kw (ld_glob I hg hm (PySem.W.callWith_K0 I.kIn M.kp (run_makeG (us := []) (vs := []) tk M F0 (hr.mono hkj) b1 b2 I .nil (mMake_rd (as := []) h1 rfl (by simpa using hnp) b3 h))) hdb)⟩
theorem zc_mt {pl : Sem Bool} (dd : List D) (tk : Takes X W) (C0 : Cm X.prog X.w c X.mg X.base k Cn m ps fn dds) (hr : Rg j X.A) (hkj : k ≤ j) (hd : dd ∈ dds) (ho : ZG X c L W o r) (ha : ZGs X c L W (e :: es) as) (hK : c.K = X.K := by rfl)
    (hnp : as.length + 1 + dd.length = ps.length := by rfl) (hL : okA L (r :: as) = true := by rfl)
    (hst : starEach (e :: es) X.env = (false, eval e X.env) :: starEach es X.env := by rfl) (hpl : (backTo pos (starEach es X.env)).any (·.1) = false := by rfl)
    (ht : eval (.Call (.Attribute o m apos) (e :: es) [] pos) X.env = (do
      let ov ← eval o X.env
      standAt apos.atName
      let (f, first) ← holding [ov] (getMethod ov m pl)
      callWith pos f first (backTo pos (starEach (e :: es) X.env)) (backToKw pos (keywordEach [] X.env))) := by rfl) :
    ZE X c L W (.Call (.Attribute o m apos) (e :: es) [] pos) (mMeth fn Cn m r as dd) := by
  obtain ⟨C, f, fd, h1, F0, hc, hm, h2⟩ := C0.ex
  obtain ⟨K0, cl0⟩ := c
  cases hK
  obtain ⟨ds, dvs, b1, b2, b3⟩ := h2 dd hd
  refine ⟨fun pins s σ H Q I h => ?_⟩
  refine PySem.W.methodCall_KW (pl := pl) (thn (ho.run pins s σ H _ I (mMeth_rd h1 hL hnp b3 h)) fun u s1 ⟨x, H1, I1, rx, a, dx, fs, ex, ea, l, q⟩ => ?_) ht
  subst ex
  obtain rfl : u = Value.ref a := rx
  refine getmeth_ok I1 ea hc hm l ?_
  refine PySem.W.callWith_K (first := [.ref a]) (h₀ := X.base) I.ok.mod.kin hm.kp (thn (ha.run pos pins s1 σ H1 _ I1 q) fun us s2 ⟨vs, H2, I2, r, q2⟩ => ⟨I2.kIn, ?_⟩) hst hpl
  exact run_g (us := .ref a :: us) (vs := .ref a :: vs) tk F0 (hr.mono hkj) b1 b2 I2 (.cons rfl r) q2
theorem zc_mt0 {pl : Sem Bool} (dd : List D) (tk : Takes X W) (C0 : Cm X.prog X.w c X.mg X.base k Cn m ps fn dds) (hr : Rg j X.A) (hkj : k ≤ j) (hd : dd ∈ dds) (ho : ZG X c L W o r) (hK : c.K = X.K := by rfl)
    (hnp : 1 + dd.length = ps.length := by rfl) (hL : okA L [r] = true := by rfl)
    (ht : eval (.Call (.Attribute o m apos) [] [] pos) X.env = (do
      let ov ← eval o X.env
      standAt apos.atName
      let (f, first) ← holding [ov] (getMethod ov m pl)
      callWith pos f first (backTo pos (starEach [] X.env)) (backToKw pos (keywordEach [] X.env))) := by rfl) :
    ZE X c L W (.Call (.Attribute o m apos) [] [] pos) (mMeth fn Cn m r [] dd) := by
  obtain ⟨C, f, fd, h1, F0, hc, hm, h2⟩ := C0.ex
  obtain ⟨K0, cl0⟩ := c
  cases hK
  obtain ⟨ds, dvs, b1, b2, b3⟩ := h2 dd hd
  refine ⟨fun pins s σ H Q I h => ?_⟩
  refine PySem.W.methodCall_KW (pl := pl) (thn (ho.run pins s σ H _ I (mMeth_rd (np := ps.length) (as := []) h1 hL (by simpa using hnp) b3 h)) fun u s1 ⟨x, H1, I1, rx, a, dx, fs, ex, ea, l, q⟩ => ?_) ht
  subst ex
  obtain rfl : u = Value.ref a := rx
  refine getmeth_ok I1 ea hc hm l ?_
  exact PySem.W.callWith_K0 (first := [.ref a]) I1.kIn hm.kp (run_g (us := [.ref a]) (vs := [.ref a]) tk F0 (hr.mono hkj) b1 b2 I1 (.cons rfl .nil) q)
theorem ze_fld {cs : List Str} {f : Str} {oo : Opd} (ho : ZO X c L W o oo) (hf : Fc c cs f) (hK : c.K = X.K := by rfl) (hL : okL L [oo] = true := by rfl) (hb : attributeBase o f X.env (eval o X.env) = eval o X.env := by rfl) : ZE X c L W (.Attribute o f pos) (mOp (fFld cs f) [oo]) :=
  PE.imp (pe_fld ho hb) fun σ H Q h => by rw [← hK]; exact run_op (ruFld hf) (okL_mem hL) h
theorem zs_fld {cs : List Str} {i : Nat} {x f : Str} {mm : M T} {p1 p2 : Pos} (hv : PE X (.Name x p1) (tVar i)) (he : ZE X c L W e mm) (hf : Fc c cs f) (hi : i < L := by decide) (hK : c.K = X.K := by rfl) (hs : swapsWith e (some (.Attribute (.Name x p1) f p2)) pos.line X.env = pure false := by rfl) :
    ZS X c L W (.Assign [.Attribute (.Name x p1) f p2] e pos) (mFldS cs i f mm) := PS.imp (ps_fld hv he hs) fun D σ H h => by rw [← hK]; exact mFldS_rd hf hi h
end
end Z

namespace Z
open PySem L2
open PySem.Spec PyProof.Rows
/-! ### classes by their global names -/
def clN (K : PySem.W.Frag) (names : List Str) (s : Str) : Option Addr := if s ∈ names then (match PySem.W.nsIn K mainGlobals s with
  | some (some (.ref a)) => some a
  | _ => none) else none
theorem clN_of {K : PySem.W.Frag} {names : List Str} {s : Str} {a : Addr} (h : PySem.W.nsIn K mainGlobals s = some (some (.ref a))) (hm : s ∈ names) : clN K names s = some a := by
  unfold clN
  rw [if_pos hm, h]
theorem clN_all {K : PySem.W.Frag} {P : Str → Addr → Prop} {names : List Str} (h : ∀ n ∈ names, ∀ A, PySem.W.nsIn K mainGlobals n = some (some (.ref A)) → P n A) : ∀ Ce A, clN K names Ce = some A → P Ce A := fun Ce A e => by
  unfold clN at e
  split at e
  · rename_i hm
    cases q : PySem.W.nsIn K mainGlobals Ce with
    | none => rw [q] at e; cases e
    | some o =>
      cases o with
      | none => rw [q] at e; cases e
      | some v =>
        cases v with
        | ref a =>
          rw [q] at e
          cases e
          exact h Ce hm A q
        | _ => rw [q] at e; cases e
  · cases e
theorem all_nil {P : Str → Prop} : ∀ n ∈ ([] : List Str), P n := fun _ h => nomatch h
theorem all_cons {P : Str → Prop} {x : Str} {l : List Str} (h : P x) (r : ∀ n ∈ l, P n) : ∀ n ∈ x :: l, P n := fun n hn => by
  rcases List.mem_cons.mp hn with rfl | hn
  · exact h
  · exact r n hn
/-- a handler's class -/
def hv (mg : Str → Option Value) (x : Str) : Value := (mg x).getD .none
structure Hc (c : Zc) (mg : Str → Option Value) (sub : Str → Str → Bool) (x : Str) : Prop where
  nm : mg x = some (hv mg x)
  ex : ∀ Ce A, c.cl Ce = some A → PySem.W.exmOne c.K (.ref A) (hv mg x) = some (sub Ce x)
theorem hc_mk {K : PySem.W.Frag} {names : List Str} {mg : Str → Option Value} {sub : Str → Str → Bool} {x : Str} {C : Addr} (hm : mg x = some (.ref C)) (h1 : PySem.W.subIn K (.ref C) (.type "BaseException") = some true) (h2 : PySem.W.isClsIn K C = true) (h3 : PySem.W.typeIn K (.ref C) = some (.type "type"))
    (h : ∀ n ∈ names, ∀ A, PySem.W.nsIn K mainGlobals n = some (some (.ref A)) → PySem.W.subIn K (.ref A) (.ref C) = some (sub n x)) : Hc ⟨K, clN K names⟩ mg sub x := by
  have e : hv mg x = .ref C := by unfold hv; rw [hm]; rfl
  refine ⟨by rw [e]; exact hm, ?_⟩
  rw [e]
  exact clN_all fun n hn A ha => exm_sub h1 h2 h3 (h n hn A ha)
theorem sub_is {K : PySem.W.Frag} {n : Str} {A C : Addr} {b b' : Bool} (a : PySem.W.nsIn K mainGlobals n = some (some (.ref A))) (s : PySem.W.subIn K (.ref A) (.ref C) = some b) (e : b = b') : ∀ A', PySem.W.nsIn K mainGlobals n = some (some (.ref A')) → PySem.W.subIn K (.ref A') (.ref C) = some b' := fun A' h => by
  rw [a] at h
  cases h
  rw [s, e]
section
variable {X : Cx} {c : Zc} {L : Nat} {W : WX} {pos : Pos} {sub : Str → Str → Bool}
theorem zh_no {x : Str} {h : Ex → M Fl} {b₀ : Stmt} {suite : List Stmt} {np pos' : Pos} {hds : List ExceptHandler} {hs : List Hd} {l : List (Value × Option Nat × (Addr → Value → Option Addr → TS))} (H0 : Hc c X.mg sub x)
    (hsu : ∀ (a : Addr) (oe : Obj) (cls : Value) (d : Option Addr) (pn : List (Addr × Obj)), L2.Zc cls d oe → (∃ vs, oe.data = .fields vs) → PSs (X.suite a ((a, oe) :: pn)) (b₀ :: suite) (tsH c L none h a cls d)) (r : ZHs X c L sub hds hs l) (hg : Gl X x := by rfl) (hdb : (x == ("__debug__" : Str)) = false := by decide) :
    ZHs X c L sub (.ExceptHandler (some (.Name x np)) none (b₀ :: suite) pos' :: hds) ((x, none, h) :: hs) ((hv X.mg x, none, tsH c L none h) :: l) := .no ⟨hg, hdb, .inl H0.nm⟩ H0.ex hsu r
theorem zh_as {x n : Str} (i : Nat) {h : Ex → M Fl} {b₀ : Stmt} {suite : List Stmt} {np pos' : Pos} {hds : List ExceptHandler} {hs : List Hd} {l : List (Value × Option Nat × (Addr → Value → Option Addr → TS))} (H0 : Hc c X.mg sub x) (hN : X.N.Nodup)
    (hsu : ∀ (a : Addr) (oe : Obj) (cls : Value) (d : Option Addr) (pn : List (Addr × Obj)), L2.Zc cls d oe → (∃ vs, oe.data = .fields vs) → PSs (X.suite a ((a, oe) :: pn)) (b₀ :: suite) (tsH c L (some i) h a cls d)) (r : ZHs X c L sub hds hs l) (hi : X.N[i]? = some n := by rfl) (hL : i < L := by decide) (hln : X.env.kindOf n = some .local := by rfl) (hg : Gl X x := by rfl) (hdb : (x == ("__debug__" : Str)) = false := by decide) :
    ZHs X c L sub (.ExceptHandler (some (.Name x np)) (some n) (b₀ :: suite) pos' :: hds) ((x, some i, h) :: hs) ((hv X.mg x, some i, tsH c L (some i) h) :: l) := .as hN hi hL hln ⟨hg, hdb, .inl H0.nm⟩ H0.ex hsu r
/-- x = ('..', e.f) in a suite -/
theorem zh_tupX {a : Addr} {oe : Obj} {cls : Value} {d : Option Addr} {pn : List (Addr × Obj)} {Cn f : Str} {i : Nat} (j : Nat) {y : Str} {es : List Expr} {ps : List XP} {k : Nat} {py pt : Pos} {P : Program} {w : World} {mg : Str → Option Value} {base : Heap} (C0 : Xc P w c mg base Cn f) (hN : X.N.Nodup)
    (h : ∀ C, XfC X.K C → PySem.W.findIn X.K (.ref C) f = some none → XEs (X.suite a ((a, oe) :: pn)) a C cls d i es ps) (hK : c.K = X.K := by rfl) (hj : X.N[j]? = some y := by rfl) (hjl : Loc X.env.scope y := by first | exact Or.inl rfl | exact Or.inr rfl) (hjL : j < L := by decide)
    (hs : swapsWith (.Tuple es k pt) (some (.Name y py)) pos.line X.env = pure false := by rfl) (hf : X.fn y = true ∨ X.env.scope.names.lookup y = some .local := by first | exact .inl rfl | exact .inr rfl) :
    PSs (X.suite a ((a, oe) :: pn)) [.Assign [.Name y py] (.Tuple es k pt) pos] (tsH c L (some i) (mXt Cn j ps) a cls d) := by
  obtain ⟨C, fI, fd, h1, h2, h3, h4, h5, h6, h7, h8, h9⟩ := C0.ex
  rw [hK] at h8 h9
  exact zh_tup (X := X.suite a ((a, oe) :: pn)) (c := c) hN h1 hj hjl hjL (fun _ => h C h8 h9) hs hf
theorem zh_oneX {a : Addr} {oe : Obj} {cls : Value} {d : Option Addr} {pn : List (Addr × Obj)} {Cn f : Str} {i : Nat} (j : Nat) {y : Str} {e : Expr} {py : Pos} {P : Program} {w : World} {mg : Str → Option Value} {base : Heap} (C0 : Xc P w c mg base Cn f) (hN : X.N.Nodup)
    (h : ∀ C, XfC X.K C → PySem.W.findIn X.K (.ref C) f = some none → PE (X.suite a ((a, oe) :: pn)) e (tXf a cls d C f (tVar i))) (hK : c.K = X.K := by rfl) (hj : X.N[j]? = some y := by rfl) (hjl : Loc X.env.scope y := by first | exact Or.inl rfl | exact Or.inr rfl) (hjL : j < L := by decide)
    (hs : swapsWith e (some (.Name y py)) pos.line X.env = pure false := by rfl) (hf : X.fn y = true ∨ X.env.scope.names.lookup y = some .local := by first | exact .inl rfl | exact .inr rfl) :
    PSs (X.suite a ((a, oe) :: pn)) [.Assign [.Name y py] e pos] (tsH c L (some i) (mX1 Cn j f) a cls d) := by
  obtain ⟨C, fI, fd, h1, h2, h3, h4, h5, h6, h7, h8, h9⟩ := C0.ex
  rw [hK] at h8 h9
  exact zh_one (X := X.suite a ((a, oe) :: pn)) (c := c) hN h1 hj hjl hjL (fun _ => h C h8 h9) hs hf
/-! ### short words for the generator -/
theorem m_app {e : Expr} {m : M T} {x : Str} {px apos cpos : Pos} (i : Nat) (he : ZE X c L W e m) (hK : c.K = X.K := by rfl) (hN : X.N[i]? = some x := by rfl) (hv : Vis X.env.scope x := by first | exact Or.inl rfl | exact Or.inr (Or.inl rfl) | exact Or.inr (Or.inr rfl)) (hi : i < L := by decide)
    (hd : (x == ("__debug__" : Str)) = false := by decide) (hcd : (x == ("__classdict__" : Str)) = false := by decide) (hbase : attributeBase (.Name x px) "append" X.env (eval (.Name x px) X.env) = eval (.Name x px) X.env := by rfl)
    (hfew : ((backTo cpos (starEach [e] X.env)).all (fun x => !x.1) && (backToKw cpos (keywordEach [] X.env)).all (fun x => x.1.isSome) && decide ([e].length + ([] : List Keyword).length + (if ([] : List Keyword).isEmpty then 0 else 1) < 30)) = true := by rfl)
    (hline : (apos.endLine == cpos.line) = true := by rfl) (hs : starEach [e] X.env = [(false, eval e X.env)] := by rfl) : ZE X c L W (.Call (.Attribute (.Name x px) "append" apos) [e] [] cpos) (mMut gApp "list" i [m]) :=
  ze_mut hK PySem.F.plainAttrs_list PySem.F.slot_list_append PySem.F.type_list_append mt_append ruApp gApp_m (pe_var hN hv hd hcd) (za_cons he za_nil hs) hi hbase hfew hline hs
theorem m_ext {e : Expr} {m : M T} {x : Str} {px apos cpos : Pos} (i : Nat) (he : ZE X c L W e m) (hK : c.K = X.K := by rfl) (hN : X.N[i]? = some x := by rfl) (hv : Vis X.env.scope x := by first | exact Or.inl rfl | exact Or.inr (Or.inl rfl) | exact Or.inr (Or.inr rfl)) (hi : i < L := by decide)
    (hd : (x == ("__debug__" : Str)) = false := by decide) (hcd : (x == ("__classdict__" : Str)) = false := by decide) (hbase : attributeBase (.Name x px) "extend" X.env (eval (.Name x px) X.env) = eval (.Name x px) X.env := by rfl)
    (hfew : ((backTo cpos (starEach [e] X.env)).all (fun x => !x.1) && (backToKw cpos (keywordEach [] X.env)).all (fun x => x.1.isSome) && decide ([e].length + ([] : List Keyword).length + (if ([] : List Keyword).isEmpty then 0 else 1) < 30)) = true := by rfl)
    (hline : (apos.endLine == cpos.line) = true := by rfl) (hs : starEach [e] X.env = [(false, eval e X.env)] := by rfl) : ZE X c L W (.Call (.Attribute (.Name x px) "extend" apos) [e] [] cpos) (mMut gExt "list" i [m]) :=
  ze_mut hK PySem.F.plainAttrs_list PySem.F.slot_list_extend PySem.F.type_list_extend mt_extend ruExt gExt_m (pe_var hN hv hd hcd) (za_cons he za_nil hs) hi hbase hfew hline hs
theorem m_popAt {e : Expr} {m : M T} {x : Str} {px apos cpos : Pos} (i : Nat) (he : ZE X c L W e m) (hK : c.K = X.K := by rfl) (hN : X.N[i]? = some x := by rfl) (hv : Vis X.env.scope x := by first | exact Or.inl rfl | exact Or.inr (Or.inl rfl) | exact Or.inr (Or.inr rfl)) (hi : i < L := by decide)
    (hd : (x == ("__debug__" : Str)) = false := by decide) (hcd : (x == ("__classdict__" : Str)) = false := by decide) (hbase : attributeBase (.Name x px) "pop" X.env (eval (.Name x px) X.env) = eval (.Name x px) X.env := by rfl)
    (hfew : ((backTo cpos (starEach [e] X.env)).all (fun x => !x.1) && (backToKw cpos (keywordEach [] X.env)).all (fun x => x.1.isSome) && decide ([e].length + ([] : List Keyword).length + (if ([] : List Keyword).isEmpty then 0 else 1) < 30)) = true := by rfl)
    (hline : (apos.endLine == cpos.line) = true := by rfl) (hs : starEach [e] X.env = [(false, eval e X.env)] := by rfl) : ZE X c L W (.Call (.Attribute (.Name x px) "pop" apos) [e] [] cpos) (mMut gPopAt "list" i [m]) :=
  ze_mut hK PySem.F.plainAttrs_list PySem.F.slot_list_pop PySem.F.type_list_pop mt_popAt ruPopAt gPopAt_m (pe_var hN hv hd hcd) (za_cons he za_nil hs) hi hbase hfew hline hs
theorem m_pop {x : Str} {px apos cpos : Pos} (i : Nat) (hK : c.K = X.K := by rfl) (hN : X.N[i]? = some x := by rfl) (hv : Vis X.env.scope x := by first | exact Or.inl rfl | exact Or.inr (Or.inl rfl) | exact Or.inr (Or.inr rfl)) (hi : i < L := by decide)
    (hd : (x == ("__debug__" : Str)) = false := by decide) (hcd : (x == ("__classdict__" : Str)) = false := by decide) (hbase : attributeBase (.Name x px) "pop" X.env (eval (.Name x px) X.env) = eval (.Name x px) X.env := by rfl)
    (hline : (apos.endLine == cpos.line) = true := by rfl) : ZE X c L W (.Call (.Attribute (.Name x px) "pop" apos) [] [] cpos) (mMut gPop "list" i []) :=
  ze_mut0 hK PySem.F.plainAttrs_list PySem.F.slot_list_pop PySem.F.type_list_pop mt_pop ruPop gPop_m (pe_var hN hv hd hcd) hi hbase hline
theorem m_clr {x : Str} {px apos cpos : Pos} (i : Nat) (hK : c.K = X.K := by rfl) (hN : X.N[i]? = some x := by rfl) (hv : Vis X.env.scope x := by first | exact Or.inl rfl | exact Or.inr (Or.inl rfl) | exact Or.inr (Or.inr rfl)) (hi : i < L := by decide)
    (hd : (x == ("__debug__" : Str)) = false := by decide) (hcd : (x == ("__classdict__" : Str)) = false := by decide) (hbase : attributeBase (.Name x px) "clear" X.env (eval (.Name x px) X.env) = eval (.Name x px) X.env := by rfl)
    (hline : (apos.endLine == cpos.line) = true := by rfl) : ZE X c L W (.Call (.Attribute (.Name x px) "clear" apos) [] [] cpos) (mMut gClr "list" i []) :=
  ze_mut0 hK PySem.F.plainAttrs_list PySem.F.slot_list_clear PySem.F.type_list_clear mt_clear ruClr gClr_m (pe_var hN hv hd hcd) hi hbase hline
theorem vF {cs : List Str} {f x : Str} {e : Expr} {mm : M T} {p1 p2 : Pos} (i : Nat) (he : ZE X c L W e mm) (hf : Fc c cs f) (hN : X.N[i]? = some x := by rfl) (hv : Vis X.env.scope x := by first | exact Or.inl rfl | exact Or.inr (Or.inl rfl) | exact Or.inr (Or.inr rfl)) (hi : i < L := by decide) (hK : c.K = X.K := by rfl)
    (hd : (x == ("__debug__" : Str)) = false := by decide) (hcd : (x == ("__classdict__" : Str)) = false := by decide) (hs : swapsWith e (some (.Attribute (.Name x p1) f p2)) pos.line X.env = pure false := by rfl) : ZS X c L W (.Assign [.Attribute (.Name x p1) f p2] e pos) (mFldS cs i f mm) :=
  zs_fld (pe_var hN hv hd hcd) he hf hi hK hs
end
section
variable {X : Cx} {c : Zc} {L : Nat} {W : WX} {pos : Pos}
/-- y = [..] on one line -/
theorem zs_setLc (i : Nat) {y : Str} {py spos : Pos} {elt tg iter : Expr} {ifs : List Expr} {scope : Scope} {own : List (Str × Nat)} {g : TG} {tgz : Tg} {mi : M (List D)} {t : M Bool} {m : M T} (hc : X.calm = true) (hN : X.N.Nodup) (hi : ZI X c L W tg iter mi) (ok : BlkOk X.N X.env.scope scope own)
    (hg : ∀ (s : Shared) (H : Hp) (C : Addr) (cl : List (Str × Addr)) (fp : List Addr), PG (X.blk s H scope (compEnvC scope cl C X.env) fp) tg g) (hz : TgR c L g tgz)
    (ht : ∀ (s : Shared) (H : Hp) (C : Addr) (cl : List (Str × Addr)) (fp : List Addr), PTs (X.blk s H scope (compEnvC scope cl C X.env) fp) ifs (rdT c L Wf t))
    (he : ∀ (s : Shared) (H : Hp) (C : Addr) (cl : List (Str × Addr)) (fp : List Addr), ZE (X.blk s H scope (compEnvC scope cl C X.env) fp) c L Wf elt m)
    (hy : X.N[i]? = some y := by rfl) (hyl : X.env.scope.names.lookup y = some .local := by rfl) (hsw : swapsWith (.ListComp elt [⟨tg, iter, ifs, 0⟩] scope pos) (some (.Name y py)) spos.line X.env = pure true := by exact sw_true rfl rfl rfl (by decide +kernel)) (hiL : i < L := by decide)
    (hL : ∀ i ∈ own.map (·.2), i < L := by decide) (hsl : ∀ i ∈ tgz.slots, i ∈ own.map (·.2) := by decide) (hs : ∀ x, foldedSetIterable iter X.env x = pure x := by intro _; rfl) :
    ZS X c L W (.Assign [.Name y py] (.ListComp elt [⟨tg, iter, ifs, 0⟩] scope pos) spos) (mAsg i (mLc (own.map (·.2)) tgz mi t m)) :=
  PS.imp (ps_setLc hc hN hy hyl hsw hi ok hg ht he hs) fun D σ H q => mLc_rd hL hz hsl (mAsg_rd hiL q)
end
/-! ### facts of classes -/
section
variable {K : PySem.W.Frag} {names : List Str}
/-- the classes that have a field -/
theorem fc_mk {cs : List Str} {f : Str} (h : ∀ n ∈ cs, ∀ A, PySem.W.nsIn K mainGlobals n = some (some (.ref A)) → Cls K A ∧ NoAttr K A f) : Fc ⟨K, clN K names⟩ cs f := fun n hn A e => by
  refine clN_all (K := K) (names := names) (P := fun n A => n ∈ cs → Cls K A ∧ NoAttr K A f) (fun n _ A ha hc => h n hc A ha) n A e hn
theorem cls_is {n f : Str} {A : Addr} (a : PySem.W.nsIn K mainGlobals n = some (some (.ref A))) (h : Cls K A) (g : NoAttr K A f) : ∀ A', PySem.W.nsIn K mainGlobals n = some (some (.ref A')) → Cls K A' ∧ NoAttr K A' f := fun A' e => by
  rw [a] at e
  cases e
  exact ⟨h, g⟩
theorem bd_of2 {x qual : Str} {st : Stmt} {ps : List Str} {f : Addr} {fd : FuncData} {c : Zc} (F0 : Fun c.K x qual st f fd) (hh : ∀ (kV doc pm : Value) (an : Option Addr) (cdv ct : Value) (us : List Value), us.length = ps.length → bindArgs (PySem.W.fnOf x qual (defArgs st) (defBody st) (defScope st) .none kV doc pm an cdv ct) ⟨us, []⟩ = pure (ps.zip us)) : Bd c fd ps [] :=
  ⟨[], [], F0.binds hh, .nil, .nil⟩
/-- defaults stand, every parameter is given -/
theorem bd_dfl0 {x qual : Str} {st : Stmt} {ps : List Str} {kV doc pm cdv ct : Value} {an : Option Addr} {c : Zc} {T : Addr} {tT : Value} {oT : Option Addr} {its : Array Value} {nT : Nat} {sT : Array (Option Value)} (lT : c.K.lookup T = some ⟨tT, oT, .seq its nT, sT⟩)
    (hh : ∀ us : List Value, us.length = ps.length → ∃ k, bindArgs (PySem.W.fnOf x qual (defArgs st) (defBody st) (defScope st) (.ref T) kV doc pm an cdv ct) ⟨us, []⟩ = seqItems? (.ref T) >>= k ∧ k (some its) = pure (ps.zip us)) : Bd c (PySem.W.fnOf x qual (defArgs st) (defBody st) (defScope st) (.ref T) kV doc pm an cdv ct) ps [] :=
  ⟨[], [], fun s us X hl => by
    rw [List.append_nil] at hl ⊢
    obtain ⟨k, e1, e2⟩ := hh us hl
    refine BindsTo.of_looks fun M => ?_
    rw [e1]
    exact looks_items X lT rfl (.of_pure e2), .nil, .nil⟩
end
/-! ### the end -/
theorem z_endC {l : PySem.W.OpenLaw} {q : Program} {loose : List Str} {XP : (Str → Option Value) → Heap → Prop} {YP : World → Heap → Prop} {d : DefRec} {K : Params → PySem.W.Frag} {k : Nat} {x : Str} {fn : Fn} (names : List Str) (hn : l.most = some 63) (hdf : d.params.defaults = []) (hr : Rg k callerA)
    (hY : ∀ (w : World) (h : Heap), YP w h → (K w.params).In h)
    (F0 : ∀ (w : World) (mg : Str → Option Value) (fa : Addr) (h : Heap), (K w.params).In h → h.Ns mainGlobals mg → mg d.name = some (.ref fa) → ∃ fd : FuncData, (∀ (s : Shared) (u : Value), BindsTo s fd ⟨[u], []⟩ [(x, u)]) ∧
      ∀ base : Heap, (K w.params).In base → base.Ns mainGlobals mg → FnG l.prog w (K w.params) mg base k fa fd [x] (spZ ⟨K w.params, clN (K w.params) names⟩ 1 fn))
    (hfn : ∀ ns : List Int, ns.length ≤ 63 → ∃ ts, fn [(.rol (ns.map D.int), 0)] = .ok (.bl true, 0) ts) :
    PySem.W.WalkO q loose XP YP l.row.toRowW d [] (fun f vs => PySem.call f vs) :=
  z_end (cl := fun w => clN (K w.params) names) hn hdf hr hY F0 hfn
end Z

/-! the mirrors of classes, errors and dicts run, by simp -/
namespace Z
open PySem L2
@[simp] theorem mDn_eq {s : S} : mDn s = .ok (.dct [], 1) s := rfl
@[simp] theorem mNo_eq {s : S} : mNo s = .no := rfl
/-! dict displays -/
@[simp] theorem pairM_nil : pairM [] = [] := rfl
@[simp] theorem pairM_cons {k v : M T} {r : List (M T × M T)} : pairM ((k, v) :: r) = k :: v :: pairM r := rfl
def dsK1 (s : S) : Option (List (Key × D)) → R T
  | some kvs => .ok (.dct (mergeD [] kvs), 1) s
  | none => .no
def dsK : R (List T) → R T := thn1 fun ts s => dsK1 s (keysOf (ts.map (·.1)))
@[simp] theorem dsK1_some {s : S} {kvs : List (Key × D)} : dsK1 s (some kvs) = .ok (.dct (mergeD [] kvs), 1) s := rfl
@[simp] theorem dsK_ok {s : S} {ts : List T} : dsK (.ok ts s) = dsK1 s (keysOf (ts.map (·.1))) := rfl
@[simp] theorem mDs_eq {ps : List (M T × M T)} {s : S} : mDs ps s = dsK (evm (pairM ps) s) := by
  unfold mDs dsK
  cases evm (pairM ps) s with
  | ok ts s =>
    show _ = dsK1 s (keysOf (ts.map (·.1)))
    simp only
    cases keysOf (ts.map (·.1)) <;> rfl
  | _ => rfl
/-! dict comprehensions -/
def dcK1 : R (List (Key × D)) → R T
  | .ok acc s => .ok (.dct acc, 1) s
  | _ => .no
@[simp] theorem dcK1_ok {acc : List (Key × D)} {s : S} : dcK1 (.ok acc s) = .ok (.dct acc, 1) s := rfl
def dcK (us : List Nat) (tg : Tg) (t : M Bool) (mk mv : M T) : R (List D) → R T := thn1 fun items s => dcK1 (dcL us tg t mk mv items [] (wipeS s us))
@[simp] theorem dcK_ok {us : List Nat} {tg : Tg} {t : M Bool} {mk mv : M T} {items : List D} {s : S} : dcK us tg t mk mv (.ok items s) = dcK1 (dcL us tg t mk mv items [] (wipeS s us)) := rfl
@[simp] theorem mDc_eq {us : List Nat} {tg : Tg} {mi : M (List D)} {t : M Bool} {mk mv : M T} {s : S} : mDc us tg mi t mk mv s = dcK us tg t mk mv (mi s) := by
  unfold mDc dcK
  cases mi s with
  | ok items s =>
    show _ = dcK1 (dcL us tg t mk mv items [] (wipeS s us))
    simp only
    cases dcL us tg t mk mv items [] (wipeS s us) <;> rfl
  | _ => rfl
def dsT3 (us : List Nat) (s : S) (v : D) : Option Key → Option (Option (Key × D) × S)
  | some ky => some (some (ky, v), wipeS s us)
  | none => none
def dsT2 (us : List Nat) : R (List T) → Option (Option (Key × D) × S)
  | .ok [k, v] s => dsT3 us s v.1 (kyV k.1)
  | _ => none
def dsT1 (us : List Nat) (mk mv : M T) : R Bool → Option (Option (Key × D) × S)
  | .ok true s => dsT2 us (evm [mk, mv] s)
  | .ok false s => some (none, wipeS s us)
  | _ => none
def dsT0 (us : List Nat) (t : M Bool) (mk mv : M T) : Option S → Option (Option (Key × D) × S)
  | some s => dsT1 us mk mv (t s)
  | none => none
def dcStep (us : List Nat) (tg : Tg) (t : M Bool) (mk mv : M T) (d : D) (s : S) : Option (Option (Key × D) × S) := dsT0 us t mk mv (tg.set d s)
@[simp] theorem dsT3_some {us : List Nat} {s : S} {v : D} {ky : Key} : dsT3 us s v (some ky) = some (some (ky, v), wipeS s us) := rfl
@[simp] theorem dsT2_ok {us : List Nat} {k v : T} {s : S} : dsT2 us (.ok [k, v] s) = dsT3 us s v.1 (kyV k.1) := rfl
@[simp] theorem dsT1_t {us : List Nat} {mk mv : M T} {s : S} : dsT1 us mk mv (.ok true s) = dsT2 us (evm [mk, mv] s) := rfl
@[simp] theorem dsT1_f {us : List Nat} {mk mv : M T} {s : S} : dsT1 us mk mv (.ok false s) = some (none, wipeS s us) := rfl
@[simp] theorem dsT0_some {us : List Nat} {t : M Bool} {mk mv : M T} {s : S} : dsT0 us t mk mv (some s) = dsT1 us mk mv (t s) := rfl
theorem dcStep_eq {us : List Nat} {tg : Tg} {t : M Bool} {mk mv : M T} {d : D} {s : S} : dcStep us tg t mk mv d s = dsT0 us t mk mv (tg.set d s) := rfl
@[simp] theorem kyV_s {a : Str} : kyV (.str a) = some (.inr a) := rfl
@[simp] theorem kyV_i {a : Int} : kyV (.int a) = some (.inl a) := rfl
def putO (acc : List (Key × D)) : Option (Key × D) → List (Key × D)
  | some kv => putL acc kv.1 kv.2
  | none => acc
theorem dcL_step {us : List Nat} {tg : Tg} {t : M Bool} {mk mv : M T} {d : D} {ds : List D} {acc : List (Key × D)} {s s' : S} {o : Option (Key × D)} (h : dcStep us tg t mk mv d s = some (o, s')) (hb : acc.length < big) :
    dcL us tg t mk mv (d :: ds) acc s = dcL us tg t mk mv ds (putO acc o) s' := by
  unfold dcStep at h
  cases q : tg.set d s with
  | none => rw [q] at h; cases h
  | some s1 =>
    rw [q] at h
    have h : dsT1 us mk mv (t s1) = some (o, s') := h
    cases q2 : t s1 with
    | no => rw [q2] at h; cases h
    | ex x s2 => rw [q2] at h; cases h
    | ok b s2 =>
      rw [q2] at h
      cases b with
      | false =>
        cases h
        simp only [dcL, q, q2]
        rfl
      | true =>
        have h : dsT2 us (evm [mk, mv] s2) = some (o, s') := h
        cases q3 : evm [mk, mv] s2 with
        | no => rw [q3] at h; cases h
        | ex x s2 => rw [q3] at h; cases h
        | ok ts s3 =>
          rw [q3] at h
          match ts, h, q3 with
          | [], h, _ => cases h
          | [_], h, _ => cases h
          | _ :: _ :: _ :: _, h, _ => cases h
          | [k, v], h, q3 =>
            have h : dsT3 us s3 v.1 (kyV k.1) = some (o, s') := h
            cases q4 : kyV k.1 with
            | none => rw [q4] at h; cases h
            | some ky =>
              rw [q4] at h
              cases h
              simp only [dcL, q, q2, q3, q4, if_pos hb]
              rfl
/-! d.items() -/
def imK : R T → R (List D)
  | .ok (.dct kvs, _) s => .ok (kvs.map fun p => .tup [keyD p.1, p.2]) s
  | .ok _ _ => .no
  | .ex x s => .ex x s
  | .no => .no
@[simp] theorem imK_ok {kvs : List (Key × D)} {n : Nat} {s : S} : imK (.ok (.dct kvs, n) s) = .ok (kvs.map fun p => .tup [keyD p.1, p.2]) s := rfl
@[simp] theorem imK_ex {x : Ex} {s : S} : imK (.ex x s) = .ex x s := rfl
@[simp] theorem mItems_eq {m : M T} {s : S} : mItems m s = imK (m s) := by
  unfold mItems imK
  cases m s with
  | ok t s => obtain ⟨d, n⟩ := t; cases d <;> rfl
  | _ => rfl
/-! raise -/
def raK (C f : Str) : R T → R Fl := thn1 fun t s => if okx t.1 = true then .ex ⟨C, [(f, t.1)]⟩ s else .no
@[simp] theorem raK_ok {C f : Str} {t : T} {s : S} : raK C f (.ok t s) = if okx t.1 = true then .ex ⟨C, [(f, t.1)]⟩ s else .no := rfl
@[simp] theorem mRaise_eq {C f : Str} {m : M T} {s : S} : mRaise C f m s = raK C f (m s) := by unfold mRaise raK; cases m s <;> rfl
@[simp] theorem okx_s {a : Str} : okx (.str a) = decide (a.length ≤ 1000) := rfl
/-! try -/
def tyK (sub : Str → Str → Bool) (hs : List Hd) : R Fl → R Fl
  | .ex x s => tryH sub hs x s
  | r => r
@[simp] theorem tyK_ok {sub : Str → Str → Bool} {hs : List Hd} {f : Fl} {s : S} : tyK sub hs (.ok f s) = .ok f s := rfl
@[simp] theorem tyK_ex {sub : Str → Str → Bool} {hs : List Hd} {x : Ex} {s : S} : tyK sub hs (.ex x s) = tryH sub hs x s := rfl
@[simp] theorem mTry_eq {sub : Str → Str → Bool} {b : M Fl} {hs : List Hd} {s : S} : mTry sub b hs s = tyK sub hs (b s) := by unfold mTry tyK; cases b s <;> rfl
@[simp] theorem tryH_nil {sub : Str → Str → Bool} {x : Ex} {s : S} : tryH sub [] x s = .ex x s := rfl
@[simp] theorem tryH_no {sub : Str → Str → Bool} {Cn : Str} {h : Ex → M Fl} {r : List Hd} {x : Ex} {s : S} : tryH sub ((Cn, none, h) :: r) x s = if sub x.C Cn = true then noEx (h x s) else tryH sub r x s := by
  show (if sub x.C Cn = true then (fun s => noEx (h x s)) else tryH sub r x) s = _
  split <;> rfl
@[simp] theorem tryH_as {sub : Str → Str → Bool} {Cn : Str} {i : Nat} {h : Ex → M Fl} {r : List Hd} {x : Ex} {s : S} : tryH sub ((Cn, some i, h) :: r) x s = if sub x.C Cn = true then wipeFl i (h x (s.set i .un)) else tryH sub r x s := by
  show (if sub x.C Cn = true then (fun s => wipeFl i (h x (s.set i .un))) else tryH sub r x) s = _
  split <;> rfl
@[simp] theorem noEx_ok {f : Fl} {s : S} : noEx (.ok f s) = .ok f s := rfl
@[simp] theorem wipeFl_nx {i : Nat} {s : S} : wipeFl i (.ok .nx s) = .ok .nx (s.set i .un) := rfl
@[simp] theorem wipeFl_rt {i : Nat} {t : T} {s : S} : wipeFl i (.ok (.rt t) s) = .ok (.rt t) s := rfl
@[simp] theorem xp_nil {x : Ex} : XP.gets x [] = some [] := rfl
def xpK (o : Option D) (r : Option (List D)) : Option (List D) := match o, r with
  | some d, some ds => some (d :: ds)
  | _, _ => none
@[simp] theorem xpK_some {d : D} {ds : List D} : xpK (some d) (some ds) = some (d :: ds) := rfl
@[simp] theorem xp_cons {x : Ex} {p : XP} {r : List XP} : XP.gets x (p :: r) = xpK (p.get x) (XP.gets x r) := by
  show (match p.get x, XP.gets x r with | some d, some ds => some (d :: ds) | _, _ => none) = _
  cases p.get x <;> cases XP.gets x r <;> rfl
@[simp] theorem xp_kw {x : Ex} {w : Str} : XP.get x (.kw w) = some (.str w) := rfl
@[simp] theorem xp_fd {x : Ex} {g : Str} : XP.get x (.fd g) = x.fs.lookup g := rfl
def xtK (j : Nat) (s : S) : Option (List D) → R Fl
  | some ds => if j < s.length ∧ ds.length ≤ big then .ok .nx (s.set j (.ow (.tup ds) 0)) else .no
  | none => .no
@[simp] theorem xtK_some {j : Nat} {s : S} {ds : List D} : xtK j s (some ds) = if j < s.length ∧ ds.length ≤ big then .ok .nx (s.set j (.ow (.tup ds) 0)) else .no := rfl
@[simp] theorem mXt_eq {Cn : Str} {j : Nat} {ps : List XP} {x : Ex} {s : S} : mXt Cn j ps x s = if x.C = Cn then xtK j s (XP.gets x ps) else .no := by
  unfold mXt
  split
  · cases XP.gets x ps <;> rfl
  · rfl
def x1K (j : Nat) (s : S) : Option D → R Fl
  | some d => if j < s.length then .ok .nx (s.set j (.ow d 0)) else .no
  | none => .no
@[simp] theorem x1K_some {j : Nat} {s : S} {d : D} : x1K j s (some d) = if j < s.length then .ok .nx (s.set j (.ow d 0)) else .no := rfl
@[simp] theorem mX1_eq {Cn : Str} {j : Nat} {f : Str} {x : Ex} {s : S} : mX1 Cn j f x s = if x.C = Cn then x1K j s (x.fs.lookup f) else .no := by
  unfold mX1
  split
  · cases x.fs.lookup f <;> rfl
  · rfl
/-! classes -/
def flK (o : Option D) : Option T := o.map fun d => (d, 0)
@[simp] theorem flK_some {d : D} : flK (some d) = some (d, 0) := rfl
@[simp] theorem fFld_o {cs : List Str} {f C : Str} {fs : List (Str × D)} {n : Nat} (h : C ∈ cs ∧ n ≤ 1) : fFld cs f [(.obj C fs, n)] = flK (fs.lookup f) := by
  show (if _ then _ else _) = _
  rw [if_pos h]; rfl
def fsK1 (cs : List Str) (f : Str) (d : D) (s : S) (l : Nat) : Option T → R Fl
  | some (.obj C fs, 1) => if C ∈ cs ∧ fs.length < 900 then .ok .nx (s.set l (.ow (.obj C (putFd f d fs)) 1)) else .no
  | _ => .no
def fsK (cs : List Str) (i : Nat) (f : Str) : R T → R Fl := thn1 fun t s => fsK1 cs f t.1 s (loc s i) (tre s i)
@[simp] theorem fsK_ok {cs : List Str} {i : Nat} {f : Str} {t : T} {s : S} : fsK cs i f (.ok t s) = fsK1 cs f t.1 s (loc s i) (tre s i) := rfl
@[simp] theorem fsK_ex {cs : List Str} {i : Nat} {f : Str} {x : Ex} {s : S} : fsK cs i f (.ex x s) = .ex x s := rfl
@[simp] theorem fsK1_o {cs : List Str} {f : Str} {d : D} {s : S} {l : Nat} {C : Str} {fs : List (Str × D)} : fsK1 cs f d s l (some (.obj C fs, 1)) = if C ∈ cs ∧ fs.length < 900 then .ok .nx (s.set l (.ow (.obj C (putFd f d fs)) 1)) else .no := rfl
@[simp] theorem mFldS_eq {cs : List Str} {i : Nat} {f : Str} {m : M T} {s : S} : mFldS cs i f m s = fsK cs i f (m s) := by
  unfold mFldS fsK
  cases m s with
  | no => rfl
  | ex x s => rfl
  | ok t s =>
    show _ = fsK1 cs f t.1 s (loc s i) (tre s i)
    simp only
    cases tre s i with
    | none => rfl
    | some t =>
      obtain ⟨d, n⟩ := t
      cases d with
      | obj C fs =>
        match n with
        | 0 => rfl
        | 1 => rfl
        | _ + 2 => rfl
      | _ => rfl
@[simp] theorem putFd_nil {f : Str} {d : D} : putFd f d [] = [(f, d)] := rfl
@[simp] theorem putFd_cons {f g : Str} {d e : D} {r : List (Str × D)} : putFd f d ((g, e) :: r) = if g = f then (g, d) :: r else (g, e) :: putFd f d r := rfl
def maK1 (tks : List Tk) (s : S) : Fr → R T
  | .ok (.non, 0) (t0 :: ts') => caK2 t0 (putb tks ts' s)
  | .ex x (_ :: ts') => caX2 x (putb tks ts' s)
  | _ => .no
@[simp] theorem maK1_ok {tks : List Tk} {s : S} {t0 : T} {ts : List T} : maK1 tks s (.ok (.non, 0) (t0 :: ts)) = caK2 t0 (putb tks ts s) := rfl
@[simp] theorem maK1_ex {tks : List Tk} {s : S} {x : Ex} {t0 : T} {ts : List T} : maK1 tks s (.ex x (t0 :: ts)) = caX2 x (putb tks ts s) := rfl
theorem makeR_eq {fn : Fn} {Cn : Str} {tks : List Tk} {ds : List D} {s : S} : makeR fn Cn tks ds s = maK1 tks s (fn ((.obj Cn [], 1) :: (tks.map (·.1) ++ ds.map fun d => (d, 0)))) := by
  unfold makeR
  generalize fn ((.obj Cn [], 1) :: (tks.map (·.1) ++ ds.map fun d => (d, 0))) = r
  cases r with
  | no => rfl
  | ok t ts =>
    obtain ⟨d, n⟩ := t
    cases d with
    | non =>
      match n with
      | 0 =>
        match ts with
        | [] => rfl
        | t0 :: ts =>
          show (match putb tks ts s with | some s2 => R.ok t0 s2 | none => .no) = caK2 t0 (putb tks ts s)
          cases putb tks ts s <;> rfl
      | _ + 1 => rfl
    | _ => rfl
  | ex x ts =>
    match ts with
    | [] => rfl
    | t0 :: ts =>
      show (match putb tks ts s with | some s2 => R.ex x s2 | none => .no) = caX2 x (putb tks ts s)
      cases putb tks ts s <;> rfl
def maK (fn : Fn) (Cn : Str) (ds : List D) : R (List Tk) → R T := thn1 fun tks s => maK1 tks s (fn ((.obj Cn [], 1) :: (tks.map (·.1) ++ ds.map fun d => (d, 0))))
@[simp] theorem maK_ok {fn : Fn} {Cn : Str} {ds : List D} {tks : List Tk} {s : S} : maK fn Cn ds (.ok tks s) = maK1 tks s (fn ((.obj Cn [], 1) :: (tks.map (·.1) ++ ds.map fun d => (d, 0)))) := rfl
@[simp] theorem mMake_eq {fn : Fn} {Cn : Str} {as : List Ag} {ds : List D} {s : S} : mMake fn Cn as ds s = maK fn Cn ds (eva as s) := by
  unfold mMake maK
  cases eva as s with
  | ok tks s => exact makeR_eq
  | _ => rfl
def meK1 (fn : Fn) (ds : List D) (tk : Tk) : R (List Tk) → R T := thn1 fun tks s => caK1 (tk :: tks) s (fn ((tk :: tks).map (·.1) ++ ds.map fun d => (d, 0)))
def meK (fn : Fn) (Cn m : Str) (as : List Ag) (ds : List D) : R Tk → R T := thn1 fun tk s => if isIns Cn m tk.1.1 = true then meK1 fn ds tk (eva as s) else .no
@[simp] theorem meK_ok {fn : Fn} {Cn m : Str} {as : List Ag} {ds : List D} {tk : Tk} {s : S} : meK fn Cn m as ds (.ok tk s) = if isIns Cn m tk.1.1 = true then meK1 fn ds tk (eva as s) else .no := rfl
@[simp] theorem meK1_ok {fn : Fn} {ds : List D} {tk : Tk} {tks : List Tk} {s : S} : meK1 fn ds tk (.ok tks s) = caK1 (tk :: tks) s (fn ((tk :: tks).map (·.1) ++ ds.map fun d => (d, 0))) := rfl
@[simp] theorem isIns_o {Cn m C : Str} {fs : List (Str × D)} : isIns Cn m (.obj C fs) = (decide (C = Cn) && (fs.lookup m).isNone) := rfl
theorem callR_eq {fn : Fn} {tks : List Tk} {ds : List D} {s : S} : callR fn tks ds s = caK1 tks s (fn (tks.map (·.1) ++ ds.map fun d => (d, 0))) := by
  unfold callR
  generalize fn (tks.map (·.1) ++ ds.map fun d => (d, 0)) = r
  cases r with
  | no => rfl
  | ok t ts =>
    show (match putb tks ts s with | some s2 => R.ok t s2 | none => .no) = caK2 t (putb tks ts s)
    cases putb tks ts s <;> rfl
  | ex x ts =>
    show (match putb tks ts s with | some s2 => R.ex x s2 | none => .no) = caX2 x (putb tks ts s)
    cases putb tks ts s <;> rfl
@[simp] theorem mMeth_eq {fn : Fn} {Cn m : Str} {r : Ag} {as : List Ag} {ds : List D} {s : S} : mMeth fn Cn m r as ds s = meK fn Cn m as ds (r.ev s) := by
  unfold mMeth meK
  cases r.ev s with
  | no => rfl
  | ex x s => rfl
  | ok tk s =>
    show (if isIns Cn m tk.1.1 = true then _ else _) = (if isIns Cn m tk.1.1 = true then meK1 fn ds tk (eva as s) else _)
    split
    · unfold meK1
      cases eva as s with
      | ok tks s => exact callR_eq
      | _ => rfl
    · rfl
/-! o[i] -/
theorem fGet_1 {ts : List T} {t : T} (h : fIx ts = some t) : fGet ts = some t := fOr_some h
theorem fGet_2 {ts : List T} (h : fIx ts = none) : fGet ts = fDget ts := fOr_none h
theorem fGet_x {ts : List T} {o : Option T} (h : fIx ts = o) (h2 : fDget ts = none) : fGet ts = o := by
  cases o with
  | none => rw [fGet_2 h, h2]
  | some t => exact fGet_1 h
@[simp] theorem fGet_l {xs : List D} {i : Int} {n m : Nat} (h : n ≤ 1) : fGet [(.lst xs, n), (.int i, m)] = ixK (atI xs i) := fGet_x (fIx_l h) (by show (if _ then _ else _) = _; rw [if_pos h]; rfl)
@[simp] theorem fGet_t {xs : List D} {i : Int} {n m : Nat} (h : n ≤ 1) : fGet [(.tup xs, n), (.int i, m)] = ixK (atI xs i) := fGet_x (fIx_t h) (by show (if _ then _ else _) = _; rw [if_pos h]; rfl)
@[simp] theorem fGet_r {xs : List D} {i : Int} {n m : Nat} (h : n ≤ 1) : fGet [(.rol xs, n), (.int i, m)] = ixK (atI xs i) := fGet_x (fIx_r h) (by show (if _ then _ else _) = _; rw [if_pos h]; rfl)
@[simp] theorem fGet_s {a : Str} {i : Int} {n m : Nat} (h : n ≤ 1) (h2 : a.length ≤ big) : fGet [(.str a, n), (.int i, m)] = ixK ((atI (sl a) i).map chS) := fGet_x (fIx_s h h2) (by show (if _ then _ else _) = _; rw [if_pos h]; rfl)
/-! list methods -/
@[simp] theorem gApp_l {xs : List D} {x : D} : gApp (.lst xs) [x] = if xs.length < big then some (.lst (xs ++ [x]), .non) else none := rfl
@[simp] theorem gExt_l {xs ys : List D} : gExt (.lst xs) [.lst ys] = if xs.length + ys.length ≤ big then some (.lst (xs ++ ys), .non) else none := rfl
@[simp] theorem gClr_l {xs : List D} : gClr (.lst xs) [] = some (.lst [], .non) := rfl
@[simp] theorem gPop_l {xs : List D} {x : D} : gPop (.lst (xs ++ [x])) [] = some (.lst xs, x) := by
  show ((xs ++ [x])[(xs ++ [x]).length - 1]?).map _ = _
  have : (xs ++ [x]).length - 1 = xs.length := by simp
  rw [this]
  simp
theorem gPopAt_l {xs : List D} {i : Int} (h0 : 0 ≤ i) (h1 : i < xs.length) (h2 : xs.length ≤ big) : gPopAt (.lst xs) [.int i] = some (.lst (xs.eraseIdx i.toNat), xs[i.toNat]'(by omega)) := by
  have : big = 16000000 := rfl
  show (if _ then _ else _) = _
  rw [if_pos ⟨h0, by omega⟩, List.getElem?_eq_getElem (by omega)]
  rfl
/-! values of calls -/
@[simp] theorem fTup_l {xs : List D} {n : Nat} (h : n ≤ 1) : fTup [(.lst xs, n)] = some (.tup xs, 0) := by show (if _ then _ else _) = _; rw [if_pos h]
@[simp] theorem fTup_t {xs : List D} : fTup [(.tup xs, 0)] = some (.tup xs, 0) := rfl
theorem fList_l {xs : List D} {n : Nat} (h : n ≤ 1) : fList [(.lst xs, n)] = some (.lst xs, 1) := by show (if _ then _ else _) = _; rw [if_pos h]
theorem fList_t {xs : List D} {n : Nat} (h : n ≤ 1) : fList [(.tup xs, n)] = some (.lst xs, 1) := by show (if _ then _ else _) = _; rw [if_pos h]
theorem fList_r {xs : List D} {n : Nat} (h : n ≤ 1) : fList [(.rol xs, n)] = some (.lst xs, 1) := by show (if _ then _ else _) = _; rw [if_pos h]
theorem fList_d {xs : List (Key × D)} {n : Nat} : fList [(.dct xs, n)] = none := by show (if _ then _ else _) = _; split <;> rfl
@[simp] theorem fListA_l {xs : List D} {n : Nat} (h : n ≤ 1) : fListA [(.lst xs, n)] = some (.lst xs, 1) := fOr_some (fList_l h)
@[simp] theorem fListA_t {xs : List D} {n : Nat} (h : n ≤ 1) : fListA [(.tup xs, n)] = some (.lst xs, 1) := fOr_some (fList_t h)
@[simp] theorem fListA_r {xs : List D} {n : Nat} (h : n ≤ 1) : fListA [(.rol xs, n)] = some (.lst xs, 1) := fOr_some (fList_r h)
@[simp] theorem fListA_d {kvs : List (Key × D)} {n : Nat} : fListA [(.dct kvs, n)] = some (.lst (kvs.map fun p => keyD p.1), 1) := fOr_none fList_d
@[simp] theorem fSorted_l {ss : List Str} {n : Nat} (h : n ≤ 1) (h2 : ss.length ≤ big) : fSorted [(.lst (ss.map D.str), n)] = some (.lst ((ss.mergeSort strLe).map D.str), 1) := by
  show (if _ then _ else _) = _
  rw [if_pos h]
  show (match strsOf (ss.map D.str) with | some ss => _ | none => _) = _
  rw [strsOf_map]
  show (if _ then _ else _) = _
  rw [if_pos h2]
end Z

/-! texts in order; dicts by texts; loops over lists of any kind -/
namespace Z
open PySem L2
/-! ### texts in order -/
theorem strLe_tot : PySem.W.TotalLe strLe := PySem.W.sortLe_total (PyProof.Rows.listOrd PyProof.Rows.itemOrd) false fun s => PySem.W.keyToks (PyData.str s)
theorem strLe_anti {a b : Str} (h1 : strLe a b = true) (h2 : strLe b a = true) : a = b := by
  have e := (PyProof.Rows.listOrd PyProof.Rows.itemOrd).total [.inr a.cps.toList] [.inr b.cps.toList] (Bool.not_eq_true' _ |>.mp h2) (Bool.not_eq_true' _ |>.mp h1)
  have e2 : a.cps.toList = b.cps.toList := by simpa using e
  have e3 : a.cps = b.cps := Array.toList_inj.mp e2
  cases a; cases b; cases e3; rfl
def sortS (ss : List Str) : List Str := ss.mergeSort strLe
def Asc (ss : List Str) : Prop := ss.Pairwise fun a b => strLe a b = true
theorem sortS_asc (ss : List Str) : Asc (sortS ss) := List.pairwise_mergeSort (le := strLe) (fun a b c => strLe_tot.trans a b c) (fun a b => by rcases strLe_tot.total a b with h | h <;> simp [h]) ss
theorem sortS_perm (ss : List Str) : (sortS ss).Perm ss := List.mergeSort_perm ss strLe
theorem mem_sortS {a : Str} {ss : List Str} : a ∈ sortS ss ↔ a ∈ ss := (sortS_perm ss).mem_iff
theorem sortS_len (ss : List Str) : (sortS ss).length = ss.length := (sortS_perm ss).length_eq
theorem sortS_nd {ss : List Str} (h : ss.Nodup) : (sortS ss).Nodup := (sortS_perm ss).nodup_iff.mpr h
theorem asc_eq : ∀ {a b : List Str}, Asc a → Asc b → a.Perm b → a = b
  | [], b, _, _, h => (List.nil_perm.mp h).symm
  | x :: a, [], _, _, h => by cases h.length_eq
  | x :: a, y :: b, ha, hb, h => by
    obtain ⟨h1, h2⟩ := List.pairwise_cons.mp ha
    obtain ⟨h3, h4⟩ := List.pairwise_cons.mp hb
    have e : x = y := by
      have m1 : x ∈ y :: b := h.mem_iff.mp List.mem_cons_self
      have m2 : y ∈ x :: a := h.mem_iff.mpr List.mem_cons_self
      rcases List.mem_cons.mp m1 with e | m1
      · exact e
      · rcases List.mem_cons.mp m2 with e | m2
        · exact e.symm
        · exact strLe_anti (h1 y m2) (h3 x m1)
    subst e
    rw [asc_eq h2 h4 (List.Perm.cons_inv h)]
theorem sortS_of_perm {a b : List Str} (h : a.Perm b) : sortS a = sortS b := asc_eq (sortS_asc a) (sortS_asc b) ((sortS_perm a).trans (h.trans (sortS_perm b).symm))
theorem sortS_same {a b : List Str} (ha : a.Nodup) (hb : b.Nodup) (h : ∀ x, x ∈ a ↔ x ∈ b) : sortS a = sortS b := sortS_of_perm ((List.perm_ext_iff_of_nodup ha hb).mpr h)
theorem sortS_filter (p : Str → Bool) (a : List Str) : (sortS a).filter p = sortS (a.filter p) := asc_eq ((sortS_asc a).sublist List.filter_sublist) (sortS_asc _) (((sortS_perm a).filter p).trans (sortS_perm _).symm)
theorem fSorted_s {ss : List Str} {n : Nat} (h : n ≤ 1) (h2 : ss.length ≤ big) : fSorted [(.lst (ss.map D.str), n)] = some (.lst ((sortS ss).map D.str), 1) := fSorted_l h h2

/-! ### dicts by texts -/
def keys {α : Type} (l : List (Str × α)) : List Str := l.map (·.1)
@[simp] theorem keys_nil {α : Type} : keys ([] : List (Str × α)) = [] := rfl
@[simp] theorem keys_cons {α : Type} {p : Str × α} {l : List (Str × α)} : keys (p :: l) = p.1 :: keys l := rfl
@[simp] theorem keys_app {α : Type} {a b : List (Str × α)} : keys (a ++ b) = keys a ++ keys b := List.map_append
@[simp] theorem keys_len {α : Type} {l : List (Str × α)} : (keys l).length = l.length := List.length_map ..
def eD {α : Type} (f : α → D) (l : List (Str × α)) : D := .dct (l.map fun p => (Sum.inr p.1, f p.2))
section
variable {α : Type} {f : α → D} {l : List (Str × α)} {a : Str} {n m : Nat}
theorem any_ks : ∀ {l : List (Str × α)}, (l.map fun p => ((Sum.inr p.1 : Key), f p.2)).any (fun p => decide (p.1 = Sum.inr a)) = decide (a ∈ keys l)
  | [] => rfl
  | (k, v) :: l => by
    rw [List.map_cons, List.any_cons, any_ks (l := l)]
    by_cases h : k = a
    · subst h; simp
    · have h' : ¬ a = k := fun e => h e.symm
      simp [h, h']
theorem inD_e : inD (.str a) (eD f l) = some (decide (a ∈ keys l)) := congrArg some any_ks
@[simp] theorem fIn_e : fIn [(.str a, n), (eD f l, m)] = some (.bl (decide (a ∈ keys l)), 0) := fIn_of inD_e
@[simp] theorem fNotIn_e : fNotIn [(.str a, n), (eD f l, m)] = some (.bl (!decide (a ∈ keys l)), 0) := fNotIn_of inD_e
@[simp] theorem fIn_ss {ss : List Str} : fIn [(.str a, n), (.lst (ss.map D.str), m)] = some (.bl (decide (a ∈ ss)), 0) := fIn_of (inQ_strs a ss)
@[simp] theorem fNotIn_ss {ss : List Str} : fNotIn [(.str a, n), (.lst (ss.map D.str), m)] = some (.bl (!decide (a ∈ ss)), 0) := fNotIn_of (inQ_strs a ss)
theorem find_e : ∀ {l : List (Str × α)}, ((l.map fun p => ((Sum.inr p.1 : Key), f p.2)).find? fun p => decide (p.1 = Sum.inr a)).map (·.2) = (l.lookup a).map f
  | [] => rfl
  | (k, v) :: l => by
    rw [List.map_cons, List.find?_cons, List.lookup_cons]
    by_cases h : k = a
    · subst h; simp
    · have h' : (a == k) = false := by simpa using fun e => h e.symm
      rw [h']
      have h2 : decide ((Sum.inr k : Key) = Sum.inr a) = false := by simpa using h
      simp only [h2]
      exact find_e
def dgK (f : α → D) (o : Option α) : Option T := o.map fun x => (f x, 0)
@[simp] theorem dgK_some {x : α} : dgK f (some x) = some (f x, 0) := rfl
theorem fDget_e (h : n ≤ 1) : fDget [(eD f l, n), (.str a, m)] = dgK f (l.lookup a) := by
  show (if _ then _ else _) = _
  rw [if_pos h]
  show Option.map _ ((List.find? _ (l.map fun p => (Sum.inr p.1, f p.2))).map (·.2)) = _
  rw [find_e]
  cases l.lookup a <;> rfl
theorem fIx_e : fIx [(eD f l, n), (.str a, m)] = none := by
  show (if _ then _ else _) = _
  split <;> rfl
@[simp] theorem fGet_e (h : n ≤ 1) : fGet [(eD f l, n), (.str a, m)] = dgK f (l.lookup a) := by rw [fGet_2 fIx_e, fDget_e h]
theorem putL_map {a : Str} {v : α} : putL (l.map fun p => ((Sum.inr p.1 : Key), f p.2)) (Sum.inr a) (f v) = (putL l a v).map fun p => ((Sum.inr p.1 : Key), f p.2) := by
  unfold putL
  rw [any_ks]
  have e : (l.any fun p => decide (p.1 = a)) = decide (a ∈ keys l) := by
    have := any_ks (f := fun _ : α => D.non) (a := a) (l := l)
    rw [← this, List.any_map]
    congr 1
    funext p
    simp
  rw [e]
  by_cases h : a ∈ keys l
  · rw [if_pos (by simpa using h), if_pos (by simpa using h), List.map_map, List.map_map]
    refine List.map_congr_left fun p _ => ?_
    simp only [Function.comp]
    by_cases q : p.1 = a
    · subst q; simp
    · simp [q]
  · rw [if_neg (by simpa using h), if_neg (by simpa using h), List.map_append]
    rfl
theorem setD_e {v : α} (h : l.length < big) : setD (eD f l) (.str a) (f v) = some (eD f (putL l a v)) := by
  show (if _ then _ else _) = _
  rw [List.length_map, if_pos h, putL_map]
  rfl
@[simp] theorem itsOf_e : itsOf (eD f l) = some ((keys l).map D.str) := by
  show some ((l.map fun p => ((Sum.inr p.1 : Key), f p.2)).map fun p => keyD p.1) = _
  rw [List.map_map]
  unfold keys
  rw [List.map_map]
  rfl
@[simp] theorem imK_e {s : S} : imK (.ok (eD f l, n) s) = .ok (l.map fun p => .tup [.str p.1, f p.2]) s := by
  show R.ok ((l.map fun p => ((Sum.inr p.1 : Key), f p.2)).map fun p => D.tup [keyD p.1, p.2]) s = _
  rw [List.map_map]
  rfl
@[simp] theorem fLen_e : fLen [(eD f l, n)] = some (.int l.length, 0) := by
  show some (D.int ((l.map fun p => ((Sum.inr p.1 : Key), f p.2)).length : Nat), 0) = _
  rw [List.length_map]
@[simp] theorem fListA_e : fListA [(eD f l, n)] = some (.lst ((keys l).map D.str), 1) := by
  unfold eD
  rw [fListA_d, List.map_map]
  unfold keys
  rw [List.map_map]
  rfl
theorem fSorted_e (h : n ≤ 1) (h2 : l.length ≤ big) : fSorted [(eD f l, n)] = some (.lst ((sortS (keys l)).map D.str), 1) := by
  show (if _ then _ else _) = _
  rw [if_pos h]
  have e : strsIn (eD f l) = some (keys l) := by
    show strsOf ((l.map fun p => ((Sum.inr p.1 : Key), f p.2)).map fun p => keyD p.1) = _
    rw [List.map_map]
    have := strsOf_map (keys l)
    unfold keys at this ⊢
    rw [List.map_map] at this
    exact this
  rw [e]
  show (if _ then _ else _) = _
  rw [if_pos (by simpa using h2)]
  rfl
@[simp] theorem eD_nil : eD f [] = .dct [] := by unfold eD; rfl
theorem setD_s {v : Str} {l : List (Str × Str)} (h : l.length < big) : setD (eD D.str l) (.str a) (.str v) = some (eD D.str (putL l a v)) := setD_e (f := D.str) h
theorem setD_b {v : Bool} {l : List (Str × Bool)} (h : l.length < big) : setD (eD D.bl l) (.str a) (.bl v) = some (eD D.bl (putL l a v)) := setD_e (f := D.bl) h
theorem setD_g {v : List (Str × Str)} {l : List (Str × List (Str × Str))} (h : l.length < big) : setD (eD (fun l => eD D.str l) l) (.str a) (eD D.str v) = some (eD (fun l => eD D.str l) (putL l a v)) := setD_e (f := fun l => eD D.str l) h
end
/-! ### loops over lists of any kind -/
theorem forL_inv {α : Type} {tg : Tg} {body : M Fl} {c : α → D} {I : List α → S → Prop} (h : ∀ x r s, I (x :: r) s → ∃ s1 s2, tg.set (c x) s = some s1 ∧ body s1 = .ok .nx s2 ∧ I r s2) :
    ∀ {xs : List α} {s : S}, I xs s → ∃ s', forL tg body (xs.map c) s = .ok .nx s' ∧ I [] s'
  | [], s, hi => ⟨s, rfl, hi⟩
  | x :: r, s, hi => by
    obtain ⟨s1, s2, e1, e2, k⟩ := h x r s hi
    obtain ⟨s', e, k'⟩ := forL_inv h k
    exact ⟨s', by rw [List.map_cons]; simp only [forL, e1, e2]; exact e, k'⟩
/-- the turns told by a step on data: J what holds of them; enc the states -/
theorem forL_st {α β : Type} {tg : Tg} {body : M Fl} {c : α → D} (st : β → α → β) (J : List α → β → Prop) (I : β → S → Prop) (h : ∀ x r b s, J (x :: r) b → I b s → J r (st b x) ∧ ∃ s1 s2, tg.set (c x) s = some s1 ∧ body s1 = .ok .nx s2 ∧ I (st b x) s2) :
    ∀ {xs : List α} {b : β} {s : S}, J xs b → I b s → ∃ s', forL tg body (xs.map c) s = .ok .nx s' ∧ I (xs.foldl st b) s' ∧ J [] (xs.foldl st b)
  | [], b, s, hj, hi => ⟨s, rfl, hi, hj⟩
  | x :: r, b, s, hj, hi => by
    obtain ⟨k, s1, s2, e1, e2, k2⟩ := h x r b s hj hi
    obtain ⟨s', e, k'⟩ := forL_st st J I h k k2
    exact ⟨s', by rw [List.map_cons]; simp only [forL, e1, e2]; exact e, k'⟩
theorem dcL_mp {α β : Type} {us : List Nat} {tg : Tg} {t : M Bool} {mk mv : M T} {c : α → D} {f : β → D} (g : α → Str × β) {s : S} : ∀ {xs : List α} {acc : List (Str × β)}, (∀ x ∈ xs, dcStep us tg t mk mv (c x) s = some (some (.inr (g x).1, f (g x).2), s)) → acc.length + xs.length ≤ big →
    dcL us tg t mk mv (xs.map c) (acc.map fun p => (Sum.inr p.1, f p.2)) s = .ok ((xs.foldl (fun acc x => putL acc (g x).1 (g x).2) acc).map fun p => (Sum.inr p.1, f p.2)) s
  | [], acc, _, _ => rfl
  | x :: xs, acc, h, hb => by
    have hp : (putL acc (g x).1 (g x).2).length ≤ acc.length + 1 := by
      unfold putL
      split <;> simp
    rw [List.map_cons, dcL_step (h x List.mem_cons_self) (by simp at hb ⊢; omega), List.foldl_cons]
    show dcL us tg t mk mv (xs.map c) (putL _ _ _) s = _
    rw [putL_map]
    exact dcL_mp g (fun y hy => h y (List.mem_cons_of_mem _ hy)) (by simp at hb; omega)
theorem putL_new {α : Type} {l : List (Str × α)} {a : Str} {v : α} (h : a ∉ keys l) : putL l a v = l ++ [(a, v)] := by
  unfold putL
  rw [if_neg]
  intro e
  obtain ⟨p, hp, q⟩ := List.any_eq_true.mp e
  exact h (List.mem_map.mpr ⟨p, hp, of_decide_eq_true q⟩)
theorem keys_putL {α : Type} {l : List (Str × α)} {a : Str} {v : α} : keys (putL l a v) = if a ∈ keys l then keys l else keys l ++ [a] := by
  by_cases h : a ∈ keys l
  · rw [if_pos h]
    unfold putL
    rw [if_pos]
    · unfold keys
      rw [List.map_map]
      refine List.map_congr_left fun p _ => ?_
      simp only [Function.comp]
      split
      · rename_i q; rfl
      · rfl
    · obtain ⟨p, hp, q⟩ := List.mem_map.mp h
      exact List.any_eq_true.mpr ⟨p, hp, decide_eq_true q⟩
  · rw [if_neg h, putL_new h, keys_app]
    rfl
theorem putL_mem {α : Type} {l : List (Str × α)} {a : Str} {v : α} {p : Str × α} (h : p ∈ putL l a v) : p ∈ l ∨ p = (a, v) := by
  unfold putL at h
  split at h
  · obtain ⟨q, hq, e⟩ := List.mem_map.mp h
    split at e
    · rename_i k; subst e; subst k; exact .inr rfl
    · subst e; exact .inl hq
  · rcases List.mem_append.mp h with h | h
    · exact .inl h
    · exact .inr (List.mem_singleton.mp h)
theorem foldl_putL_new {α β : Type} (g : α → Str × β) : ∀ {xs : List α} {acc : List (Str × β)}, (keys acc ++ xs.map fun x => (g x).1).Nodup → xs.foldl (fun acc x => putL acc (g x).1 (g x).2) acc = acc ++ xs.map g
  | [], acc, _ => by simp
  | x :: xs, acc, h => by
    have hx : (g x).1 ∉ keys acc := fun m => by
      rw [List.map_cons] at h
      exact (List.nodup_append.mp h).2.2 _ m _ List.mem_cons_self rfl
    rw [List.foldl_cons, putL_new hx, foldl_putL_new g]
    · simp
    · rw [keys_app]
      simpa using h
theorem lookup_some_mem {α : Type} : ∀ {l : List (Str × α)} {a : Str} {v : α}, l.lookup a = some v → (a, v) ∈ l
  | (k, w) :: l, a, v, h => by
    rw [List.lookup_cons] at h
    cases q : a == k with
    | true => rw [q] at h; cases h; rw [eq_of_beq q]; exact List.mem_cons_self
    | false => rw [q] at h; exact List.mem_cons_of_mem _ (lookup_some_mem h)
theorem lookup_key {α : Type} : ∀ {l : List (Str × α)} {a : Str}, a ∈ keys l → ∃ v, l.lookup a = some v
  | (k, w) :: l, a, h => by
    rw [List.lookup_cons]
    cases q : a == k with
    | true => exact ⟨w, rfl⟩
    | false =>
      rcases List.mem_cons.mp h with h | h
      · have : (a == k) = true := beq_iff_eq.mpr h
        rw [this] at q; cases q
      · exact lookup_key h
theorem lookup_no {α : Type} : ∀ {l : List (Str × α)} {a : Str}, a ∉ keys l → l.lookup a = none
  | [], _, _ => rfl
  | (k, w) :: l, a, h => by
    rw [List.lookup_cons]
    have : (a == k) = false := by
      simp only [keys_cons, List.mem_cons, not_or] at h
      simpa using h.1
    rw [this]
    exact lookup_no fun m => h (List.mem_cons_of_mem _ m)
theorem lookup_iff {α : Type} {l : List (Str × α)} {a : Str} {v : α} (hn : (keys l).Nodup) : l.lookup a = some v ↔ (a, v) ∈ l := by
  refine ⟨lookup_some_mem, fun h => ?_⟩
  obtain ⟨w, e⟩ := lookup_key (l := l) (a := a) (List.mem_map.mpr ⟨_, h, rfl⟩)
  have hw := lookup_some_mem e
  have : ∀ {l : List (Str × α)}, (keys l).Nodup → (a, v) ∈ l → (a, w) ∈ l → v = w := by
    intro l
    induction l with
    | nil => intro _ h; cases h
    | cons p l ih =>
      intro hn h1 h2
      obtain ⟨n1, n2⟩ := List.nodup_cons.mp (by simpa using hn)
      rcases List.mem_cons.mp h1 with e1 | h1
      · rcases List.mem_cons.mp h2 with e2 | h2
        · rw [← e1] at e2; exact (congrArg Prod.snd e2).symm
        · exact absurd (List.mem_map.mpr ⟨_, h2, by rw [← e1]⟩) n1
      · rcases List.mem_cons.mp h2 with e2 | h2
        · exact absurd (List.mem_map.mpr ⟨_, h1, by rw [← e2]⟩) n1
        · exact ih n2 h1 h2
  rw [e, this hn h hw]
theorem lookup_perm {α : Type} {l m : List (Str × α)} (h : l.Perm m) (hn : (keys l).Nodup) (a : Str) : l.lookup a = m.lookup a := by
  have hm : (keys m).Nodup := (h.map fun p : Str × α => p.1).nodup_iff.mp hn
  by_cases q : a ∈ keys l
  · obtain ⟨v, e⟩ := lookup_key q
    rw [e]
    exact ((lookup_iff hm).mpr (h.mem_iff.mp (lookup_some_mem e))).symm
  · rw [lookup_no q, lookup_no fun z => q ((h.map fun p : Str × α => p.1).mem_iff.mpr z)]
end Z

/-! graphs by names: links, what is reached, what falls -/
namespace Z
open PySem L2
abbrev Lk := List (Str × Str)
abbrev Gr := List (Str × Lk)
abbrev eL (l : Lk) : D := eD D.str l
abbrev eG (g : Gr) : D := eD (fun l => eD D.str l) g
abbrev eB (l : List (Str × Bool)) : D := eD D.bl l
def lks (g : Gr) (n : Str) : Lk := (g.lookup n).getD []
def knd (g : Gr) (n t : Str) : Option Str := (lks g n).lookup t
inductive Reach (g : Gr) (n : Str) : Str → Prop
  | one {t : Str} (h : knd g n t ≠ none) : Reach g n t
  | more {t u : Str} (r : Reach g n t) (h : knd g t u ≠ none) : Reach g n u
inductive Fall (g : Gr) (n : Str) : Str → Prop
  | one : Fall g n n
  | more {t x : Str} (r : Fall g n t) (hx : x ∈ keys g) (h : knd g x t = some "part") : Fall g n x
structure Same (g g2 : Gr) : Prop where
  ks : ∀ n, n ∈ keys g ↔ n ∈ keys g2
  kd : ∀ n t, knd g n t = knd g2 n t
theorem Same.symm {g g2 : Gr} (h : Same g g2) : Same g2 g := ⟨fun n => (h.ks n).symm, fun n t => (h.kd n t).symm⟩
theorem Same.refl (g : Gr) : Same g g := ⟨fun _ => .rfl, fun _ _ => rfl⟩
theorem Same.trans {g g2 g3 : Gr} (h : Same g g2) (k : Same g2 g3) : Same g g3 := ⟨fun n => (h.ks n).trans (k.ks n), fun n t => (h.kd n t).trans (k.kd n t)⟩
theorem Same.reach {g g2 : Gr} (h : Same g g2) {n x : Str} (r : Reach g n x) : Reach g2 n x := by
  induction r with
  | one e => exact .one (by rw [← h.kd]; exact e)
  | more _ e ih => exact .more ih (by rw [← h.kd]; exact e)
theorem Same.fall {g g2 : Gr} (h : Same g g2) {n x : Str} (r : Fall g n x) : Fall g2 n x := by
  induction r with
  | one => exact .one
  | more _ hx e ih => exact .more ih ((h.ks _).mp hx) (by rw [← h.kd]; exact e)
theorem Same.reach_iff {g g2 : Gr} (h : Same g g2) {n x : Str} : Reach g n x ↔ Reach g2 n x := ⟨h.reach, h.symm.reach⟩
theorem Same.fall_iff {g g2 : Gr} (h : Same g g2) {n x : Str} : Fall g n x ↔ Fall g2 n x := ⟨h.fall, h.symm.fall⟩
theorem knd_key {g : Gr} {n t : Str} (h : knd g n t ≠ none) : n ∈ keys g := Decidable.byContradiction fun q => h (by unfold knd lks; rw [lookup_no q]; rfl)
theorem knd_iff {g : Gr} {n t : Str} : knd g n t ≠ none ↔ t ∈ keys (lks g n) := by
  unfold knd
  refine ⟨fun h => Decidable.byContradiction fun q => h (lookup_no q), fun h e => ?_⟩
  obtain ⟨v, e2⟩ := lookup_key h
  rw [e2] at e; cases e
/-- what every catalog's graph is like -/
structure Gw (g : Gr) : Prop where
  nd : (keys g).Nodup
  ln : ∀ p ∈ g, (keys p.2).Nodup
  cl : ∀ p ∈ g, ∀ t ∈ keys p.2, t ∈ keys g
  sz : g.length ≤ 1000
  sl : ∀ p ∈ g, p.2.length ≤ 1000
section
variable {g : Gr} (G : Gw g)
include G
theorem Gw.look {p : Str × Lk} (h : p ∈ g) : g.lookup p.1 = some p.2 := (lookup_iff G.nd).mpr h
theorem Gw.lks {p : Str × Lk} (h : p ∈ g) : Z.lks g p.1 = p.2 := by unfold Z.lks; rw [G.look h]; rfl
theorem Gw.at_key {n : Str} (h : n ∈ keys g) : (n, Z.lks g n) ∈ g := by
  obtain ⟨v, e⟩ := lookup_key h
  unfold Z.lks
  rw [e]
  exact lookup_some_mem e
theorem Gw.to_key {n t : Str} (h : knd g n t ≠ none) : t ∈ keys g := G.cl _ (G.at_key (knd_key h)) t (knd_iff.mp h)
theorem Gw.reach_key {n x : Str} (r : Reach g n x) : x ∈ keys g := by
  cases r with
  | one e => exact G.to_key e
  | more _ e => exact G.to_key e
theorem Gw.fall_key {n x : Str} (hn : n ∈ keys g) (r : Fall g n x) : x ∈ keys g := by
  cases r with
  | one => exact hn
  | more _ hx _ => exact hx
theorem Gw.lks_nd (n : Str) : (keys (Z.lks g n)).Nodup := by
  by_cases h : n ∈ keys g
  · exact G.ln _ (G.at_key h)
  · unfold Z.lks; rw [lookup_no h]; exact List.nodup_nil
theorem Gw.lks_len (n : Str) : (Z.lks g n).length ≤ 1000 := by
  by_cases h : n ∈ keys g
  · exact G.sl _ (G.at_key h)
  · unfold Z.lks; rw [lookup_no h]; exact Nat.zero_le _
end
theorem nodup_len {a b : List Str} (hn : a.Nodup) (h : ∀ x ∈ a, x ∈ b) : a.length ≤ b.length := by
  induction a generalizing b with
  | nil => exact Nat.zero_le _
  | cons x a ih =>
    obtain ⟨n1, n2⟩ := List.nodup_cons.mp hn
    have hx := h x List.mem_cons_self
    have := ih (b := b.erase x) n2 fun y hy => (List.mem_erase_of_ne (fun e : y = x => n1 (e ▸ hy))).mpr (h y (List.mem_cons_of_mem _ hy))
    rw [List.length_erase_of_mem hx] at this
    have : 0 < b.length := List.length_pos_of_mem hx
    simp
    omega
/-! ### going along the links -/
def wt (w : Str → Nat) (ks F : List Str) : Nat := ((ks.filter fun x => decide (x ∉ F)).map w).sum
theorem wt_le (w : Str → Nat) {B : Nat} (h : ∀ x, w x ≤ B) : ∀ (ks F : List Str), wt w ks F ≤ ks.length * B
  | [], _ => Nat.zero_le _
  | x :: ks, F => by
    have := wt_le w h ks F
    have hx := h x
    unfold wt at this ⊢
    rw [List.filter_cons, List.length_cons, Nat.add_mul]
    split
    · rw [List.map_cons, List.sum_cons]; omega
    · omega
theorem wt_out (w : Str → Nat) {h : Str} : ∀ {ks F : List Str}, h ∉ ks → wt w ks (F ++ [h]) = wt w ks F
  | [], _, _ => rfl
  | x :: ks, F, hn => by
    simp only [List.mem_cons, not_or] at hn
    have ih := wt_out w (ks := ks) (F := F) hn.2
    have hx : ¬ x = h := fun e => hn.1 e.symm
    unfold wt at ih ⊢
    rw [List.filter_cons, List.filter_cons]
    by_cases q : x ∈ F
    · simpa [q] using ih
    · simpa [q, hx] using ih
theorem wt_in (w : Str → Nat) {h : Str} : ∀ {ks F : List Str}, ks.Nodup → h ∈ ks → h ∉ F → wt w ks F = w h + wt w ks (F ++ [h])
  | x :: ks, F, hn, hm, hF => by
    obtain ⟨n1, n2⟩ := List.nodup_cons.mp hn
    by_cases e : x = h
    · subst e
      have ih := wt_out w (ks := ks) (F := F) n1
      unfold wt at ih ⊢
      rw [List.filter_cons, List.filter_cons, if_pos (by simpa using hF), if_neg (by simp), ih]
      rfl
    · have hm : h ∈ ks := (List.mem_cons.mp hm).resolve_left fun q => e q.symm
      have ih := wt_in w (ks := ks) (F := F) n2 hm hF
      unfold wt at ih ⊢
      rw [List.filter_cons, List.filter_cons]
      by_cases q : x ∈ F
      · simpa [q] using ih
      · have q2 : ¬ x ∈ F ++ [h] := by simp [q, e]
        rw [if_pos (by simpa using q), if_pos (by simpa using ⟨q, e⟩), List.map_cons, List.map_cons, List.sum_cons, List.sum_cons, ih]
        omega
structure RInv (g : Gr) (n : Str) (F W : List Str) (k : Nat) : Prop where
  nd : F.Nodup
  fr : ∀ x ∈ F, Reach g n x
  wr : ∀ x ∈ W, Reach g n x
  c1 : ∀ x, knd g n x ≠ none → x ∈ F ∨ x ∈ W
  c2 : ∀ y ∈ F, ∀ x, knd g y x ≠ none → x ∈ F ∨ x ∈ W
  hk : k = W.length + wt (fun x => (lks g x).length) (keys g) F
section
variable {g : Gr} (G : Gw g) {n h : Str} {F W : List Str} {k : Nat}
include G
theorem RInv.start : RInv g n [] (keys (lks g n)) ((keys (lks g n)).length + wt (fun x => (lks g x).length) (keys g) []) :=
  ⟨List.nodup_nil, (fun x h => nomatch h), fun x hx => .one (knd_iff.mpr hx), fun x hx => .inr (knd_iff.mp hx), (fun x h => nomatch h), rfl⟩
theorem RInv.old (I : RInv g n F (W ++ [h]) k) (hF : h ∈ F) : ∃ j, j < k ∧ RInv g n F W j := by
  have f : ∀ x, x ∈ F ∨ x ∈ W ++ [h] → x ∈ F ∨ x ∈ W := fun x q => q.elim .inl fun q => (List.mem_append.mp q).elim .inr fun q => .inl (List.mem_singleton.mp q ▸ hF)
  refine ⟨_, ?_, I.nd, I.fr, fun x hx => I.wr x (List.mem_append_left _ hx), fun x hx => f x (I.c1 x hx), fun y hy x hx => f x (I.c2 y hy x hx), rfl⟩
  rw [I.hk]
  simp
theorem RInv.new (I : RInv g n F (W ++ [h]) k) (hF : h ∉ F) : ∃ j, j < k ∧ RInv g n (F ++ [h]) (W ++ keys (lks g h)) j := by
  have hr : Reach g n h := I.wr h (by simp)
  have f : ∀ x, x ∈ F ∨ x ∈ W ++ [h] → x ∈ F ++ [h] ∨ x ∈ W ++ keys (lks g h) := fun x q => q.elim (fun q => .inl (List.mem_append_left _ q)) fun q => (List.mem_append.mp q).elim (fun q => .inr (List.mem_append_left _ q)) fun q => .inl (List.mem_append_right _ q)
  refine ⟨_, ?_, ?_, ?_, ?_, fun x hx => f x (I.c1 x hx), ?_, rfl⟩
  · rw [I.hk, wt_in _ G.nd (G.reach_key hr) hF]
    simp
    omega
  · rw [List.nodup_append]
    refine ⟨I.nd, by simp, fun a ha b hb e => ?_⟩
    rw [List.mem_singleton.mp hb] at e
    exact hF (e ▸ ha)
  · intro x hx
    rcases List.mem_append.mp hx with hx | hx
    · exact I.fr x hx
    · rw [List.mem_singleton.mp hx]; exact hr
  · intro x hx
    rcases List.mem_append.mp hx with hx | hx
    · exact I.wr x (List.mem_append_left _ hx)
    · exact .more hr (knd_iff.mpr hx)
  · intro y hy x hx
    rcases List.mem_append.mp hy with hy | hy
    · exact f x (I.c2 y hy x hx)
    · rw [List.mem_singleton.mp hy] at hx
      exact .inr (List.mem_append_right _ (knd_iff.mp hx))
theorem RInv.key (I : RInv g n F (W ++ [h]) k) : h ∈ keys g := G.reach_key (I.wr h (by simp))
theorem RInv.fin (I : RInv g n F [] k) (x : Str) : x ∈ F ↔ Reach g n x := by
  refine ⟨I.fr x, fun r => ?_⟩
  have f : ∀ x, x ∈ F ∨ x ∈ ([] : List Str) → x ∈ F := fun x q => q.elim id fun q => nomatch q
  induction r with
  | one e => exact f _ (I.c1 _ e)
  | more _ e ih => exact f _ (I.c2 _ ih _ e)
theorem RInv.flen (I : RInv g n F W k) : F.length ≤ 1000 := Nat.le_trans (nodup_len I.nd fun x hx => G.reach_key (I.fr x hx)) (by rw [keys_len]; exact G.sz)
theorem start_le : (keys (lks g n)).length + wt (fun x => (lks g x).length) (keys g) [] ≤ 2000000 := by
  have h1 := wt_le (fun x => (lks g x).length) G.lks_len (keys g) []
  have h2 := G.lks_len n
  have h3 := G.sz
  have h4 : (keys g).length * 1000 ≤ 1000 * 1000 := Nat.mul_le_mul_right _ (by rw [keys_len]; exact h3)
  rw [keys_len]
  omega
end
/-! ### what falls -/
def hasP (F : List Str) (lk : Lk) : Bool := lk.any fun l => decide (l.2 = "part") && decide (l.1 ∈ F)
def stepF (F : List Str) (p : Str × Lk) : List Str := if p.1 ∉ F ∧ hasP F p.2 = true then F ++ [p.1] else F
theorem hasP_iff {F : List Str} {lk : Lk} (hn : (keys lk).Nodup) : hasP F lk = true ↔ ∃ t, lk.lookup t = some "part" ∧ t ∈ F := by
  unfold hasP
  rw [List.any_eq_true]
  constructor
  · rintro ⟨⟨t, k⟩, hl, e⟩
    simp only [Bool.and_eq_true, decide_eq_true_eq] at e
    obtain ⟨rfl, e2⟩ := e
    exact ⟨t, (lookup_iff hn).mpr hl, e2⟩
  · rintro ⟨t, e, ht⟩
    exact ⟨(t, "part"), lookup_some_mem e, by simp [ht]⟩
theorem hasP_filter {F : List Str} {lk : Lk} (hn : (keys lk).Nodup) : (((keys lk).filter fun t => decide (lk.lookup t = some "part") && decide (t ∈ F)) = []) ↔ hasP F lk = false := by
  rw [List.filter_eq_nil_iff, ← Bool.not_eq_true, hasP_iff hn]
  constructor
  · rintro h ⟨t, e, ht⟩
    exact h t (List.mem_map.mpr ⟨_, lookup_some_mem e, rfl⟩) (by simp [e, ht])
  · rintro h t _ e
    simp only [Bool.and_eq_true, decide_eq_true_eq] at e
    exact h ⟨t, e.1, e.2⟩
structure FInv (g : Gr) (n : Str) (F : List Str) : Prop where
  nd : F.Nodup
  nm : n ∈ F
  fr : ∀ x ∈ F, Fall g n x
def Clo (g : Gr) (F : List Str) : Prop := ∀ p ∈ g, p.1 ∉ F → hasP F p.2 = false
section
variable {g : Gr} (G : Gw g) {n : Str} {F : List Str}
include G
theorem FInv.start : FInv g n [n] := ⟨by simp, by simp, fun x hx => by rw [List.mem_singleton.mp hx]; exact .one⟩
theorem FInv.step (I : FInv g n F) {p : Str × Lk} (hp : p ∈ g) : FInv g n (stepF F p) := by
  unfold stepF
  split
  · rename_i h
    refine ⟨?_, List.mem_append_left _ I.nm, fun x hx => ?_⟩
    · rw [List.nodup_append]
      refine ⟨I.nd, by simp, fun a ha b hb e => ?_⟩
      rw [List.mem_singleton.mp hb] at e
      exact h.1 (e ▸ ha)
    · rcases List.mem_append.mp hx with hx | hx
      · exact I.fr x hx
      · rw [List.mem_singleton.mp hx]
        obtain ⟨t, e, ht⟩ := (hasP_iff (G.ln p hp)).mp h.2
        refine .more (I.fr t ht) (List.mem_map.mpr ⟨p, hp, rfl⟩) ?_
        unfold knd
        rw [G.lks hp]
        exact e
  · exact I
theorem FInv.len (I : FInv g n F) (hn : n ∈ keys g) : F.length ≤ g.length := by
  rw [← keys_len]
  exact nodup_len I.nd fun x hx => G.fall_key hn (I.fr x hx)
theorem FInv.fin (I : FInv g n F) (C : Clo g F) (x : Str) : x ∈ F ↔ Fall g n x := by
  refine ⟨I.fr x, fun r => ?_⟩
  induction r with
  | one => exact I.nm
  | @more t x _ hx e ih =>
    refine Decidable.byContradiction fun q => ?_
    have hm := G.at_key hx
    have := C _ hm q
    rw [← Bool.not_eq_true, hasP_iff (G.ln _ hm)] at this
    exact this ⟨t, e, ih⟩
end
theorem stepF_len {F : List Str} {p : Str × Lk} : F.length ≤ (stepF F p).length := by unfold stepF; split <;> simp
theorem stepF_eq {F : List Str} {p : Str × Lk} (h : (stepF F p).length ≤ F.length) : stepF F p = F ∧ (p.1 ∉ F → hasP F p.2 = false) := by
  unfold stepF at h ⊢
  split at h
  · simp at h; omega
  · rename_i q
    rw [if_neg q]
    exact ⟨rfl, fun h1 => by rw [← Bool.not_eq_true]; exact fun h2 => q ⟨h1, h2⟩⟩
theorem foldF_len : ∀ {ps : Gr} {F : List Str}, F.length ≤ (ps.foldl stepF F).length
  | [], _ => Nat.le_refl _
  | p :: ps, F => Nat.le_trans stepF_len (foldF_len (ps := ps))
theorem foldF_eq : ∀ {ps : Gr} {F : List Str}, (ps.foldl stepF F).length ≤ F.length → ps.foldl stepF F = F ∧ ∀ p ∈ ps, p.1 ∉ F → hasP F p.2 = false
  | [], _, _ => ⟨rfl, fun p hp => nomatch hp⟩
  | p :: ps, F, h => by
    rw [List.foldl_cons] at h ⊢
    have h1 := foldF_len (ps := ps) (F := stepF F p)
    obtain ⟨e, k⟩ := stepF_eq (F := F) (p := p) (by omega)
    rw [e] at h ⊢
    obtain ⟨e2, k2⟩ := foldF_eq h
    exact ⟨e2, fun q hq => (List.mem_cons.mp hq).elim (fun z => z ▸ k) (k2 q)⟩
theorem foldF_clo {g : Gr} {F : List Str} (h : Clo g F) : g.foldl stepF F = F := by
  have : ∀ {ps : Gr}, (∀ p ∈ ps, p.1 ∉ F → hasP F p.2 = false) → ps.foldl stepF F = F := by
    intro ps
    induction ps with
    | nil => intro _; rfl
    | cons p ps ih =>
      intro hp
      have e : stepF F p = F := by
        unfold stepF
        rw [if_neg]
        rintro ⟨h1, h2⟩
        rw [hp p List.mem_cons_self h1] at h2
        cases h2
      rw [List.foldl_cons, e]
      exact ih fun q hq => hp q (List.mem_cons_of_mem _ hq)
  exact this h
theorem foldF_inv {g : Gr} (G : Gw g) {n : Str} : ∀ {ps : Gr} {F : List Str}, (∀ p ∈ ps, p ∈ g) → FInv g n F → FInv g n (ps.foldl stepF F)
  | [], _, _, I => I
  | p :: ps, F, h, I => foldF_inv G (ps := ps) (fun q hq => h q (List.mem_cons_of_mem _ hq)) (I.step G (h p List.mem_cons_self))
/-! ### results by what they hold -/
def IsS (P : Str → Prop) (r : List Str) : Prop := ∃ F, r = sortS F ∧ F.Nodup ∧ ∀ x, x ∈ F ↔ P x
theorem IsS.eq {P Q : Str → Prop} {r s : List Str} (h : IsS P r) (k : IsS Q s) (e : ∀ x, P x ↔ Q x) : r = s := by
  obtain ⟨F, rfl, h1, h2⟩ := h
  obtain ⟨F', rfl, h3, h4⟩ := k
  exact sortS_same h1 h3 fun x => (h2 x).trans ((e x).trans (h4 x).symm)
theorem IsS.mem {P : Str → Prop} {r : List Str} (h : IsS P r) (x : Str) : x ∈ r ↔ P x := by
  obtain ⟨F, rfl, h1, h2⟩ := h
  rw [mem_sortS]
  exact h2 x
theorem IsS.len {P : Str → Prop} {r b : List Str} (h : IsS P r) (hb : ∀ x, P x → x ∈ b) : r.length ≤ b.length := by
  obtain ⟨F, rfl, h1, h2⟩ := h
  rw [sortS_len]
  exact nodup_len h1 fun x hx => hb x ((h2 x).mp hx)
def Blk (g : Gr) (n x : Str) : Prop := x ∈ keys g ∧ ¬ Fall g n x ∧ ∃ t, knd g x t ≠ none ∧ Fall g n t
def Dep (g : Gr) (n x : Str) : Prop := x ∈ keys g ∧ Reach g x n
theorem Same.blk {g g2 : Gr} (h : Same g g2) {n x : Str} : Blk g n x ↔ Blk g2 n x := by
  unfold Blk
  simp only [h.ks, h.kd, h.fall_iff]
theorem Same.dep {g g2 : Gr} (h : Same g g2) {n x : Str} : Dep g n x ↔ Dep g2 n x := by
  unfold Dep
  rw [h.ks, h.reach_iff]
/-! ### rows -/
def rowD (g : Gr) (n : Str) : D := .tup [.str n, .tup ((sortS (keys (lks g n))).map fun t => .tup [.str ((knd g n t).getD ""), .str t])]
def rowsD (g : Gr) : D := .tup ((sortS (keys g)).map (rowD g))
theorem Same.rows {g g2 : Gr} (G : Gw g) (G2 : Gw g2) (h : Same g g2) : rowsD g = rowsD g2 := by
  unfold rowsD
  rw [sortS_same G.nd G2.nd h.ks]
  refine congrArg _ (List.map_congr_left fun n _ => ?_)
  unfold rowD
  have e : sortS (keys (lks g n)) = sortS (keys (lks g2 n)) := sortS_same (G.lks_nd n) (G2.lks_nd n) fun x => by rw [← knd_iff, ← knd_iff, h.kd]
  rw [e]
  refine congrArg (fun z => D.tup [.str n, .tup z]) (List.map_congr_left fun t _ => ?_)
  rw [h.kd]
/-! ### links that lead to what is earlier -/
inductive Topo : Gr → Prop
  | nil : Topo []
  | snoc {g : Gr} {n : Str} {lk : Lk} (h : Topo g) (hn : n ∉ keys g) (hl : ∀ t ∈ keys lk, t ∈ keys g) : Topo (g ++ [(n, lk)])
theorem lookup_app {α : Type} {a b : List (Str × α)} {n : Str} : (a ++ b).lookup n = if n ∈ keys a then a.lookup n else b.lookup n := by
  induction a with
  | nil => simp
  | cons p a ih =>
    obtain ⟨k, v⟩ := p
    rw [List.cons_append, List.lookup_cons, List.lookup_cons]
    cases q : n == k with
    | true => simp [eq_of_beq q]
    | false =>
      have hq : ¬ n = k := fun e => by rw [beq_iff_eq.mpr e] at q; cases q
      simp only [keys_cons, List.mem_cons, hq, false_or]
      exact ih
theorem Topo.acyclic {g : Gr} (h : Topo g) : (∀ n x, Reach g n x → x ∈ keys g) ∧ ∀ n, ¬ Reach g n n := by
  induction h with
  | nil =>
    have e : ∀ n x, ¬ Reach [] n x := fun n x r => by
      cases r with
      | one e => exact e rfl
      | more _ e => exact e rfl
    exact ⟨fun n x r => absurd r (e n x), fun n r => e n n r⟩
  | @snoc g n lk T hn hl ih =>
    have e1 : ∀ a, a ∈ keys g → ∀ t, knd (g ++ [(n, lk)]) a t = knd g a t := fun a ha t => by
      unfold knd lks
      rw [lookup_app, if_pos ha]
    have e2 : ∀ t, knd (g ++ [(n, lk)]) n t = lk.lookup t := fun t => by
      unfold knd lks
      rw [lookup_app, if_neg hn]
      simp
    have e3 : ∀ a t, knd (g ++ [(n, lk)]) a t ≠ none → t ∈ keys g := fun a t e => by
      have ha := knd_key e
      rw [keys_app] at ha
      rcases List.mem_append.mp ha with ha | ha
      · rw [e1 a ha] at e
        exact ih.1 a t (.one e)
      · rw [List.mem_singleton.mp ha] at e
        simp only at e
        rw [e2] at e
        exact hl t (Decidable.byContradiction fun q => e (lookup_no q))
    have e4 : ∀ a x, Reach (g ++ [(n, lk)]) a x → x ∈ keys g := fun a x r => by
      cases r with
      | one e => exact e3 a x e
      | more _ e => exact e3 _ x e
    have e5 : ∀ a, a ∈ keys g → ∀ x, Reach (g ++ [(n, lk)]) a x → Reach g a x := fun a ha x r => by
      induction r with
      | one e => exact .one (by rw [← e1 a ha]; exact e)
      | more r e ih => exact .more ih (by rw [← e1 _ (e4 _ _ r)]; exact e)
    refine ⟨fun a x r => by rw [keys_app]; exact List.mem_append_left _ (e4 a x r), fun a r => ?_⟩
    have := e4 a a r
    exact ih.2 a (e5 a this a r)
end Z

/-! what can be compared -/
namespace Z
open PySem L2
def gP (k : Nat) (d : D) : Prop := ∃ p, toP d = some p ∧ p.canLay0 = true ∧ p.depth ≤ k
theorem gP.mono {j k : Nat} {d : D} (h : gP j d) (e : j ≤ k) : gP k d := by
  obtain ⟨p, h1, h2, h3⟩ := h
  exact ⟨p, h1, h2, Nat.le_trans h3 e⟩
theorem gP_int {k : Nat} (i : Int) : gP k (.int i) := ⟨.int i, by simp [toP], rfl, Nat.zero_le _⟩
theorem gP_bl {k : Nat} (i : Bool) : gP k (.bl i) := ⟨.bool i, by simp [toP], rfl, Nat.zero_le _⟩
theorem gP_non {k : Nat} : gP k .non := ⟨.none, by simp [toP], rfl, Nat.zero_le _⟩
theorem gP_str {k : Nat} {s : Str} (h : asc s = true) : gP k (.str s) := ⟨.str s, by simp [toP], asc_strOk h, Nat.zero_le _⟩
theorem gPs {k : Nat} : ∀ {xs : List D}, (∀ x ∈ xs, gP k x) → ∃ ps, toPs xs = some ps ∧ PyData.canLayAll0 ps = true ∧ PyData.depthAll ps ≤ k
  | [], _ => ⟨[], by simp [toPs], rfl, Nat.zero_le _⟩
  | x :: xs, h => by
    obtain ⟨p, h1, h2, h3⟩ := h x List.mem_cons_self
    obtain ⟨ps, k1, k2, k3⟩ := gPs fun y hy => h y (List.mem_cons_of_mem _ hy)
    refine ⟨p :: ps, by simp [toPs, h1, k1], ?_, ?_⟩
    · show (p.canLay0 && PyData.canLayAll0 ps) = true
      rw [h2, k2]; rfl
    · show max p.depth (PyData.depthAll ps) ≤ k
      omega
theorem gP_tup {k : Nat} {xs : List D} (h : ∀ x ∈ xs, gP k x) : gP (k + 1) (.tup xs) := by
  obtain ⟨ps, h1, h2, h3⟩ := gPs h
  exact ⟨.tuple ps, by simp [toP, h1], h2, by show PyData.depthAll ps + 1 ≤ k + 1; omega⟩
theorem gP_lst {k : Nat} {xs : List D} (h : ∀ x ∈ xs, gP k x) : gP (k + 1) (.lst xs) := by
  obtain ⟨ps, h1, h2, h3⟩ := gPs h
  exact ⟨.list ps, by simp [toP, h1], h2, by show PyData.depthAll ps + 1 ≤ k + 1; omega⟩
theorem gP_nil {P : D → Prop} : ∀ x ∈ ([] : List D), P x := fun _ h => nomatch h
theorem gP_cons {P : D → Prop} {x : D} {l : List D} (h : P x) (r : ∀ y ∈ l, P y) : ∀ y ∈ x :: l, P y := fun y hy => (List.mem_cons.mp hy).elim (fun e => e ▸ h) (r y)
theorem gP_map {α : Type} {P : D → Prop} {f : α → D} {l : List α} (h : ∀ a ∈ l, P (f a)) : ∀ y ∈ l.map f, P y := fun y hy => by
  obtain ⟨a, ha, rfl⟩ := List.mem_map.mp hy
  exact h a ha
theorem shaped_of {k : Nat} {p : PyData} (h2 : p.canLay0 = true) (h3 : p.depth ≤ k) (hk : k ≤ 64) : SeqAt.shaped p = true := by
  show (p.canLay0 && decide (p.depth ≤ 64)) = true
  rw [h2, decide_eq_true (Nat.le_trans h3 hk)]; rfl
theorem eqD_refl {k : Nat} {d : D} (h : gP k d) (hs : scV d = none) (hk : k ≤ 64) : eqD d d = some true := by
  obtain ⟨p, h1, h2, h3⟩ := h
  unfold eqD eqS
  rw [hs]
  show eqP d d = _
  unfold eqP
  rw [h1]
  have := shaped_of h2 h3 hk
  show (if _ then _ else _) = _
  rw [if_pos ⟨this, this⟩, SeqAt.eqv_refl p h2]
theorem eqD_nil {k : Nat} {xs : List D} (h : ∀ x ∈ xs, gP k x) (hk : k < 64) : eqD (.lst xs) (.lst []) = some xs.isEmpty := by
  obtain ⟨ps, h1, h2, h3⟩ := gPs h
  unfold eqD eqS
  show eqP (.lst xs) (.lst []) = _
  unfold eqP
  have e1 : toP (.lst xs) = some (.list ps) := by simp [toP, h1]
  have e2 : toP (.lst []) = some (.list []) := by simp [toP, toPs]
  rw [e1, e2]
  show (if _ then _ else _) = _
  rw [if_pos ⟨shaped_of (k := k + 1) (p := .list ps) h2 (by show PyData.depthAll ps + 1 ≤ k + 1; omega) hk, rfl⟩]
  cases xs with
  | nil => simp [toPs] at h1; subst h1; rfl
  | cons x xs =>
    cases ps with
    | nil =>
      simp [toPs] at h1
      cases q : toP x <;> cases q2 : toPs xs <;> rw [q, q2] at h1 <;> cases h1
    | cons p ps => rfl
theorem fNe_nil {k : Nat} {xs : List D} {n m : Nat} (h : ∀ x ∈ xs, gP k x) (hk : k < 64) : fNe [(.lst xs, n), (.lst [], m)] = some (.bl (!xs.isEmpty), 0) := fNe_of (eqD_nil h hk)
theorem fNe_self {k : Nat} {xs : List D} {n m : Nat} (h : ∀ x ∈ xs, gP k x) (hk : k < 64) : fNe [(.tup xs, n), (.tup xs, m)] = some (.bl false, 0) := fNe_of (b := true) (eqD_refl (gP_tup h) rfl hk)
theorem perm_erase {α : Type} : ∀ {l : List α} {i : Nat} (h : i < l.length), (l[i] :: l.eraseIdx i).Perm l
  | x :: l, 0, _ => .refl _
  | x :: l, i + 1, h => by
    have ih := perm_erase (l := l) (i := i) (by simpa using h)
    show (l[i]'(by simpa using h) :: x :: l.eraseIdx i).Perm (x :: l)
    exact (List.Perm.swap _ _ _).trans (ih.cons _)
/-- the end of a walk: what came first is told -/
theorem fnK_rw {L : Nat} {r r' : R Fl} {x : Fr} (h : r = r') (k : fnK L r' = x) : fnK L r = x := h ▸ k
end Z

/-! names of objects -/
namespace Z
open PySem L2
def KW : List Str := ["create", "drop", "cascade", "rename", "redefine", "swap", "fail", "if", "while", "try", "batch", "else", "on", "end", "to", "needs", "part"]
theorem kw_split : Txt.split "create drop cascade rename redefine swap fail if while try batch else on end to needs part" " " = KW := by decide +kernel
theorem kw_lens : (((" " : Str).length == 0) = false) ∧ ("create drop cascade rename redefine swap fail if while try batch else on end to needs part" : Str).length + 2 ≤ big := by decide +kernel
abbrev LL : Str := "abcdefghijklmnopqrstuvwxyz"
theorem ll_len : LL.length = 26 := by decide +kernel
theorem ll_sl : sl LL = (List.range 26).map (97 + ·) := by decide +kernel
def inLL (k : Nat) : Bool := decide (k ∈ sl LL)
theorem inLL_iff {k : Nat} : inLL k = true ↔ 97 ≤ k ∧ k < 123 := by
  unfold inLL
  rw [decide_eq_true_eq, ll_sl, List.mem_map]
  constructor
  · rintro ⟨a, ha, rfl⟩
    have := List.mem_range.mp ha
    omega
  · rintro ⟨h1, h2⟩
    exact ⟨k - 97, List.mem_range.mpr (by omega), by omega⟩
def hl (t : Str) : Bool := decide (1 ≤ t.length) && (decide (t.length ≤ 8) && (sl t).all inLL)
/-- a name of an object -/
def nmOk (t : Str) : Bool := hl t && !decide (t ∈ KW)
theorem nmOk_len {t : Str} (h : nmOk t = true) : t.length ≤ 8 := by
  simp only [nmOk, hl, Bool.and_eq_true, decide_eq_true_eq] at h
  exact h.1.2.1
theorem nmOk_asc {t : Str} (h : nmOk t = true) : asc t = true := by
  simp only [nmOk, hl, Bool.and_eq_true, decide_eq_true_eq] at h
  exact asc_of fun k hk => by have := inLL_iff.mp (List.all_eq_true.mp h.1.2.2 k hk); omega
/-! codes -/
def mkS (l : List Nat) : Str := ⟨l.toArray⟩
@[simp] theorem sl_mkS (l : List Nat) : sl (mkS l) = l := by simp [sl, mkS]
theorem mkS_sl (s : Str) : mkS (sl s) = s := by cases s; simp [sl, mkS]
theorem mkS_inj {a b : List Nat} (h : mkS a = mkS b) : a = b := by rw [← sl_mkS a, h, sl_mkS]
theorem mkS_len (l : List Nat) : (mkS l).length = l.length := by rw [← sl_len, sl_mkS]
theorem mkS_app (a b : List Nat) : mkS a ++ mkS b = mkS (a ++ b) := by
  show (⟨a.toArray ++ b.toArray⟩ : Str) = ⟨(a ++ b).toArray⟩
  simp
theorem mkS_cut_l {l : List Nat} {k : Nat} (h : k ≤ l.length) : cutS (mkS l) none (some (k : Int)) = mkS (l.take k) := by
  unfold cutS
  rw [HT.sIx_none, HT.sIx_nat, mkS_len]
  show (⟨_⟩ : Str) = ⟨_⟩
  congr 2
  show (List.drop 0 (sl (mkS l))).take (min k l.length - 0) = _
  rw [sl_mkS]
  simp [Nat.min_eq_left h]
theorem mkS_cut_r {l : List Nat} {k : Nat} (h : k ≤ l.length) : cutS (mkS l) (some (k : Int)) none = mkS (l.drop k) := by
  unfold cutS
  rw [HT.sIx_none, HT.sIx_nat, mkS_len]
  show (⟨_⟩ : Str) = ⟨_⟩
  congr 2
  show (List.drop (min k l.length) (sl (mkS l))).take (l.length - min k l.length) = _
  rw [sl_mkS, Nat.min_eq_left h]
  exact List.take_of_length_le (by simp)
@[simp] theorem fMul_s {a : Str} {i : Int} {n m : Nat} (h : i < 1000000 ∧ -1000000 < i ∧ a.length ≤ 10) : fMul [(.str a, n), (.int i, m)] = some (.str (repS i.toNat a), 0) := by
  show fOr _ _ _ = _
  rw [fOr_none rfl]
  exact fOr_some (by show (if _ then _ else _) = _; rw [if_pos h])
theorem rep_0 (a : Str) : repS 0 a = mkS [] := rfl
theorem rep_1 (a : Str) : repS 1 a = a := by
  show mkS [sl a].flatten = a
  rw [List.flatten_cons, List.flatten_nil, List.append_nil, mkS_sl]
/-! the drawn names: alike but for a letter, each second one a letter longer, one more on a kept word -/
def qs (k : Nat) : List Nat := if k % 2 = 1 then [113] else []
def nmc (s1 s2 : List Nat) (f k : Nat) : List Nat := qs k ++ (s1 ++ (97 + (f + 7 * k) % 26) :: s2)
def nmx (s1 s2 : List Nat) (f k : Nat) : List Nat := nmc s1 s2 f k ++ if mkS (nmc s1 s2 f k) ∈ KW then [120] else []
theorem kw_q : ∀ w ∈ KW, (sl w).head? ≠ some 113 ∧ 1 ≤ (sl w).length ∧ (sl w).length ≤ 8 := by decide +kernel
theorem kw_x : ∀ w ∈ KW, mkS (sl w ++ [120]) ∉ KW := by decide +kernel
theorem nmc_odd {s1 s2 : List Nat} {f k : Nat} (h : k % 2 = 1) : mkS (nmc s1 s2 f k) ∉ KW := fun m => by
  refine (kw_q _ m).1 ?_
  rw [sl_mkS]
  simp [nmc, qs, h]
theorem nmc_len {s1 s2 : List Nat} {f k : Nat} : (nmc s1 s2 f k).length = k % 2 + s1.length + s2.length + 1 := by
  have : (qs k).length = k % 2 := by
    unfold qs
    split
    · simp; omega
    · simp; omega
  unfold nmc
  rw [List.length_append, List.length_append, this]
  simp
  omega
theorem nmc_inj {s1 s2 : List Nat} {f k j : Nat} (hk : k < 26) (hj : j < 26) (e : nmc s1 s2 f k = nmc s1 s2 f j) : k = j := by
  have hp : k % 2 = j % 2 := by
    have := congrArg List.length e
    rw [nmc_len, nmc_len] at this
    omega
  have hq : qs k = qs j := by unfold qs; rw [hp]
  unfold nmc at e
  rw [hq] at e
  have e2 := List.append_cancel_left (List.append_cancel_left e)
  have e3 : 97 + (f + 7 * k) % 26 = 97 + (f + 7 * j) % 26 := (List.cons.inj e2).1
  omega
theorem nmx_inj {s1 s2 : List Nat} {f k j : Nat} (hk : k < 26) (hj : j < 26) (e : nmx s1 s2 f k = nmx s1 s2 f j) : k = j := by
  unfold nmx at e
  have key : ∀ {k j : Nat}, mkS (nmc s1 s2 f k) ∈ KW → mkS (nmc s1 s2 f j) ∉ KW → nmc s1 s2 f k ++ [120] = nmc s1 s2 f j → False := by
    intro k j h1 h2 e
    have hk : k % 2 = 0 := by
      rcases Nat.mod_two_eq_zero_or_one k with h | h
      · exact h
      · exact absurd h1 (nmc_odd h)
    have hl := congrArg List.length e
    rw [List.length_append, nmc_len, nmc_len] at hl
    simp at hl
    have hj : j % 2 = 1 := by omega
    have q := kw_q _ h1
    rw [sl_mkS] at q
    have e2 : (nmc s1 s2 f j).head? = some 113 := by simp [nmc, qs, hj]
    rw [← e] at e2
    cases hc : nmc s1 s2 f k with
    | nil => rw [hc] at q; simp at q
    | cons x r =>
      rw [hc] at q e2
      exact q.1 e2
  by_cases h1 : mkS (nmc s1 s2 f k) ∈ KW
  · by_cases h2 : mkS (nmc s1 s2 f j) ∈ KW
    · rw [if_pos h1, if_pos h2] at e
      exact nmc_inj hk hj (List.append_cancel_right e)
    · rw [if_pos h1, if_neg h2, List.append_nil] at e
      exact (key h1 h2 e).elim
  · by_cases h2 : mkS (nmc s1 s2 f j) ∈ KW
    · rw [if_neg h1, if_pos h2, List.append_nil] at e
      exact (key h2 h1 e.symm).elim
    · rw [if_neg h1, if_neg h2, List.append_nil, List.append_nil] at e
      exact nmc_inj hk hj e
theorem nmx_ok {s1 s2 : List Nat} {f k : Nat} (hl1 : s1.length + s2.length ≤ 6) (h1 : ∀ c ∈ s1, inLL c = true) (h2 : ∀ c ∈ s2, inLL c = true) : nmOk (mkS (nmx s1 s2 f k)) = true := by
  have hc : ∀ c ∈ nmc s1 s2 f k, inLL c = true := by
    intro c hc
    unfold nmc at hc
    rcases List.mem_append.mp hc with hc | hc
    · unfold qs at hc
      split at hc
      · rw [List.mem_singleton.mp hc]; decide +kernel
      · cases hc
    · rcases List.mem_append.mp hc with hc | hc
      · exact h1 c hc
      · rcases List.mem_cons.mp hc with rfl | hc
        · exact inLL_iff.mpr (by omega)
        · exact h2 c hc
  have hlen := nmc_len (s1 := s1) (s2 := s2) (f := f) (k := k)
  have hm : k % 2 < 2 := Nat.mod_lt _ (by decide)
  unfold nmx
  by_cases h : mkS (nmc s1 s2 f k) ∈ KW
  · have hk : k % 2 = 0 := by
      rcases Nat.mod_two_eq_zero_or_one k with h' | h'
      · exact h'
      · exact absurd h (nmc_odd h')
    have hx := kw_x _ h
    rw [sl_mkS] at hx
    rw [if_pos h]
    simp only [nmOk, hl, Bool.and_eq_true, decide_eq_true_eq, Bool.not_eq_true', decide_eq_false_iff_not]
    refine ⟨⟨?_, ?_, ?_⟩, hx⟩
    · rw [mkS_len]; simp
    · rw [mkS_len, List.length_append, hlen]; simp; omega
    · rw [sl_mkS, List.all_eq_true]
      intro c hx
      rcases List.mem_append.mp hx with hx | hx
      · exact hc c hx
      · rw [List.mem_singleton.mp hx]; decide +kernel
  · rw [if_neg h, List.append_nil]
    simp only [nmOk, hl, Bool.and_eq_true, decide_eq_true_eq, Bool.not_eq_true', decide_eq_false_iff_not]
    refine ⟨⟨?_, ?_, ?_⟩, h⟩
    · rw [mkS_len]; omega
    · rw [mkS_len, hlen]; omega
    · rw [sl_mkS, List.all_eq_true]
      exact hc
/-- the names one after another -/
def nms (s1 s2 : List Nat) (f n : Nat) : List Str := (List.range n).map fun k => mkS (nmx s1 s2 f k)
theorem nms_succ {s1 s2 : List Nat} {f n : Nat} : nms s1 s2 f (n + 1) = nms s1 s2 f n ++ [mkS (nmx s1 s2 f n)] := by
  unfold nms
  rw [List.range_succ, List.map_append]
  rfl
theorem nms_len {s1 s2 : List Nat} {f n : Nat} : (nms s1 s2 f n).length = n := by simp [nms]
theorem nms_nd {s1 s2 : List Nat} {f n : Nat} (hn : n ≤ 26) : (nms s1 s2 f n).Nodup := by
  unfold nms
  refine List.pairwise_map.mpr (List.Pairwise.imp_of_mem ?_ (List.nodup_range (n := n)))
  intro a b ha hb h e
  have := List.mem_range.mp ha
  have := List.mem_range.mp hb
  exact h (nmx_inj (by omega) (by omega) (mkS_inj e))
end Z

/-! loops over ranges; draws -/
namespace Z
open PySem L2
theorem nat_lo {j : Nat} : (-4611686018427387904 : Int) ≤ (j : Int) := by omega
theorem nat_hi {j : Nat} (h : j ≤ 1000000) : (j : Int) < 4611686018427387904 := by omega
theorem r1K2_nat {s : S} {j n : Nat} (h : j ≤ 1000000) : r1K2 s (int1 [(.int (j : Int), n)]) = .ok (rngL 0 j) s := by
  rw [int1_i (by omega) (by omega), r1K2_some]
  rfl
theorem forL_rng {tg : Tg} {body : M Fl} {I : Nat → S → Prop} {n : Nat} (h : ∀ k, k < n → ∀ s, I k s → ∃ s1 s2, tg.set (.int (k : Int)) s = some s1 ∧ body s1 = .ok .nx s2 ∧ I (k + 1) s2) {s : S} (h0 : I 0 s) : ∃ s', forL tg body (rngL 0 n) s = .ok .nx s' ∧ I n s' := by
  have key : ∀ j k s, k + j = n → I k s → ∃ s', forL tg body (rngL (k : Int) j) s = .ok .nx s' ∧ I n s' := by
    intro j
    induction j with
    | zero =>
      intro k s e hi
      have : k = n := by omega
      subst this
      exact ⟨s, rfl, hi⟩
    | succ j ih =>
      intro k s e hi
      obtain ⟨s1, s2, e1, e2, k2⟩ := h k (by omega) s hi
      obtain ⟨s', e3, k3⟩ := ih (k + 1) s2 (by omega) k2
      refine ⟨s', ?_, k3⟩
      rw [rngL_cons]
      simp only [forL, e1, e2]
      exact e3
  exact key n 0 s (by omega) h0
theorem forL_enum {α : Type} {tg : Tg} {body : M Fl} {I : Nat → S → Prop} {c : α → D} {ys : List α} (h : ∀ k (hk : k < ys.length) s, I k s → ∃ s1 s2, tg.set (.tup [.int (k : Int), c ys[k]]) s = some s1 ∧ body s1 = .ok .nx s2 ∧ I (k + 1) s2) {s : S} (h0 : I 0 s) :
    ∃ s', forL tg body (enumD (ys.map c)) s = .ok .nx s' ∧ I ys.length s' := by
  have key : ∀ (zs : List α) (k : Nat) s, k + zs.length = ys.length → ys.drop k = zs → I k s → ∃ s', forL tg body (((zs.map c).zipIdx k).map fun p => .tup [.int (p.2 : Nat), p.1]) s = .ok .nx s' ∧ I ys.length s' := by
    intro zs
    induction zs with
    | nil =>
      intro k s e _ hi
      have : k = ys.length := by simpa using e
      subst this
      exact ⟨s, rfl, hi⟩
    | cons z zs ih =>
      intro k s e hz hi
      have hk : k < ys.length := by simp at e; omega
      have hy : ys[k] = z := by
        have := List.getElem_cons_drop hk
        rw [hz] at this
        exact (List.cons.inj this).1
      have hz2 : ys.drop (k + 1) = zs := by
        have := List.getElem_cons_drop hk
        rw [hz] at this
        exact (List.cons.inj this).2
      obtain ⟨s1, s2, e1, e2, k2⟩ := h k hk s hi
      rw [hy] at e1
      obtain ⟨s', e3, k3⟩ := ih (k + 1) s2 (by simp at e; omega) hz2 k2
      refine ⟨s', ?_, k3⟩
      rw [List.map_cons, List.zipIdx_cons, List.map_cons]
      simp only [forL, e1, e2]
      exact e3
  exact key ys 0 s (by simp) rfl h0
theorem perm_map_inv {α β : Type} {f : α → β} {l m : List β} (h : l.Perm m) : ∀ {xs : List α}, m = xs.map f → ∃ os : List α, l = os.map f ∧ os.Perm xs := by
  induction h with
  | nil => intro xs e; exact ⟨[], rfl, by cases xs with | nil => exact .refl _ | cons _ _ => cases e⟩
  | cons x _ ih =>
    intro xs e
    cases xs with
    | nil => cases e
    | cons y xs =>
      have q1 := (List.cons.inj e).1
      have q2 := (List.cons.inj e).2
      obtain ⟨os, q3, hp⟩ := ih q2
      exact ⟨y :: os, by rw [q1, q3]; rfl, hp.cons _⟩
  | swap x y l =>
    intro xs e
    match xs, e with
    | a :: b :: xs, e =>
      have q1 := (List.cons.inj e).1
      have q2 := (List.cons.inj (List.cons.inj e).2).1
      have q3 := (List.cons.inj (List.cons.inj e).2).2
      exact ⟨b :: a :: xs, by rw [q1, q2, q3]; rfl, List.Perm.swap _ _ _⟩
  | trans _ _ ih1 ih2 =>
    intro xs e
    obtain ⟨os, e2, hp⟩ := ih2 e
    obtain ⟨os2, e3, hp2⟩ := ih1 e2
    exact ⟨os2, e3, hp2.trans hp⟩
theorem r1K2_0 {s : S} {n : Nat} : r1K2 s (int1 [(.int 0, n)]) = .ok [] s := by
  rw [int1_i (by omega) (by omega), r1K2_some]
  rfl
theorem lcL_rng {us : List Nat} {tg : Tg} {t : M Bool} {m : M T} {I : Nat → List D → S → Prop} {n : Nat} (h : ∀ k, k < n → ∀ acc s, I k acc s → acc.length < big ∧ ∃ o s', lcStep us tg t m (.int (k : Int)) s = some (o, s') ∧ I (k + 1) (acc ++ o.toList) s') {s : S} (h0 : I 0 [] s) :
    ∃ acc' s', lcL us tg t m (rngL 0 n) [] s = .ok acc' s' ∧ I n acc' s' := by
  have key : ∀ j k acc s, k + j = n → I k acc s → ∃ acc' s', lcL us tg t m (rngL (k : Int) j) acc s = .ok acc' s' ∧ I n acc' s' := by
    intro j
    induction j with
    | zero =>
      intro k acc s e hi
      have : k = n := by omega
      subst this
      exact ⟨acc, s, rfl, hi⟩
    | succ j ih =>
      intro k acc s e hi
      obtain ⟨hb, o, s2, e1, k2⟩ := h k (by omega) acc s hi
      obtain ⟨acc', s', e3, k3⟩ := ih (k + 1) _ s2 (by omega) k2
      refine ⟨acc', s', ?_, k3⟩
      rw [rngL_cons, lcL_step e1 hb]
      exact e3
  exact key n 0 [] s (by omega) h0
theorem fAdd_mk {a b : List Nat} {n m : Nat} (h : a.length + b.length ≤ 1000) : fAdd [(.str (mkS a), n), (.str (mkS b), m)] = some (.str (mkS (a ++ b)), 0) := by
  have hb : 1000 ≤ big := by decide
  rw [fAdd_s, if_pos (by rw [mkS_len, mkS_len]; omega), mkS_app]
theorem chS_mk (c : Nat) : chS c = .str (mkS [c]) := rfl
theorem draw_ll (b : Bx) : ∃ c, atI (sl LL) (tkR b 26) = some c ∧ inLL c = true := by
  have hl : (sl LL).length = 26 := by decide +kernel
  obtain ⟨c, hc, e⟩ := atI_mem (xs := sl LL) (tk_ge (b := b) (m := 26) (by decide)) (by rw [hl]; exact tk_lt (by decide))
  exact ⟨c, e, decide_eq_true hc⟩
theorem ll_at {j : Nat} (h : j < 26) : atI (sl LL) (j : Int) = some (97 + j) := by
  rw [ll_sl, atI_ok (by omega) (by simp; omega)]
  simp
theorem rep_q (k : Nat) : repS ((k : Int) % 2).toNat (mkS [113]) = mkS (qs k) := by
  rcases Nat.mod_two_eq_zero_or_one k with h | h
  · have e : ((k : Int) % 2).toNat = 0 := by omega
    rw [e, rep_0]
    simp [qs, h]
  · have e : ((k : Int) % 2).toNat = 1 := by omega
    rw [e, rep_1]
    simp [qs, h]
theorem q_mk : ("q" : Str) = mkS [113] := by decide +kernel
theorem x_mk : ("x" : Str) = mkS [120] := by decide +kernel
theorem tk_nat {b : Bx} {m : Int} (h : 0 < m) : ∃ j : Nat, tkR b m = (j : Int) ∧ (j : Int) < m := ⟨(tkR b m).toNat, by have := tk_ge (b := b) h; omega, by have := tk_ge (b := b) h; have := tk_lt (b := b) h; omega⟩
end Z

/-! rows -/
namespace Z
open PySem L2
abbrev prD (l : Str × Str) : D := .tup [.str l.2, .str l.1]
def eRow (p : Str × Lk) : D := .tup [.str p.1, .tup (p.2.map prD)]
structure Shuf (g g2 : Gr) : Prop where
  ks : (keys g2).Perm (keys g)
  lk : ∀ p ∈ g2, p.2.Perm (lks g p.1)
theorem Shuf.gw {g g2 : Gr} (G : Gw g) (h : Shuf g g2) : Gw g2 where
  nd := h.ks.nodup_iff.mpr G.nd
  ln p hp := ((h.lk p hp).map fun q : Str × Str => q.1).nodup_iff.mpr (G.lks_nd p.1)
  cl p hp t ht := h.ks.mem_iff.mpr (G.to_key (knd_iff.mpr (((h.lk p hp).map fun q : Str × Str => q.1).mem_iff.mp ht)))
  sz := by have := h.ks.length_eq; rw [keys_len, keys_len] at this; rw [this]; exact G.sz
  sl p hp := by rw [(h.lk p hp).length_eq]; exact G.lks_len p.1
theorem Shuf.same {g g2 : Gr} (G : Gw g) (h : Shuf g g2) : Same g g2 where
  ks n := h.ks.mem_iff.symm
  kd n t := by
    by_cases q : n ∈ keys g2
    · have hm := (h.gw G).at_key q
      have := h.lk _ hm
      exact (lookup_perm this ((h.gw G).lks_nd n) t).symm
    · have q2 : n ∉ keys g := fun z => q (h.ks.mem_iff.mpr z)
      unfold knd lks
      rw [lookup_no q, lookup_no q2]
/-- names with a mark -/
def tr (F : List Str) : List (Str × Bool) := F.map fun x => (x, true)
@[simp] theorem keys_tr (F : List Str) : keys (tr F) = F := by
  unfold keys tr
  rw [List.map_map]
  exact List.map_id _
@[simp] theorem tr_len (F : List Str) : (tr F).length = F.length := List.length_map ..
theorem tr_put {F : List Str} {h : Str} (n : h ∉ F) : putL (tr F) h true = tr (F ++ [h]) := by
  rw [putL_new (by rw [keys_tr]; exact n)]
  simp [tr]
def partIn (F : List Str) (l : Str × Str) : Bool := decide (l.2 = "part") && decide (l.1 ∈ F)
theorem partIn_1 {F : List Str} {l : Str × Str} (h : l.2 = "part") : partIn F l = decide (l.1 ∈ F) := by unfold partIn; rw [decide_eq_true h]; rfl
theorem partIn_0 {F : List Str} {l : Str × Str} (h : ¬ l.2 = "part") : partIn F l = false := by unfold partIn; rw [decide_eq_false h]; rfl
theorem hasP_any {F : List Str} {lk : Lk} : lk.any (partIn F) = hasP F lk := rfl
theorem filter_empty {α : Type} (p : α → Bool) : ∀ l : List α, (l.filter p).isEmpty = !l.any p
  | [] => rfl
  | x :: l => by
    rw [List.filter_cons, List.any_cons]
    cases h : p x with
    | true => rfl
    | false => simpa [h] using filter_empty p l
end Z

/-! drawn graphs -/
namespace Z
open PySem L2
/-- the links of one object -/
def Lok (ks : List Str) (lk : Lk) : Prop := (keys lk).Nodup ∧ (∀ t ∈ keys lk, t ∈ ks) ∧ ∀ l ∈ lk, l.2 = "needs" ∨ l.2 = "part"
theorem Lok.put {ks : List Str} {lk : Lk} (h : Lok ks lk) {t kd : Str} (ht : t ∈ ks) (hk : kd = "needs" ∨ kd = "part") : Lok ks (putL lk t kd) := by
  obtain ⟨h1, h2, h3⟩ := h
  refine ⟨?_, ?_, ?_⟩
  · rw [keys_putL]
    split
    · exact h1
    · rename_i q
      rw [List.nodup_append]
      refine ⟨h1, by simp, fun a ha b hb e => ?_⟩
      rw [List.mem_singleton.mp hb] at e
      exact q (e ▸ ha)
  · intro x hx
    rw [keys_putL] at hx
    split at hx
    · exact h2 x hx
    · rcases List.mem_append.mp hx with hx | hx
      · exact h2 x hx
      · rw [List.mem_singleton.mp hx]; exact ht
  · intro l hl
    rcases putL_mem hl with hl | rfl
    · exact h3 l hl
    · exact hk
theorem putL_len {α : Type} {l : List (Str × α)} {a : Str} {v : α} : (putL l a v).length ≤ l.length + 1 := by
  unfold putL
  split <;> simp
structure GrOk (d : Nat) (g : Gr) : Prop where
  tp : Topo g
  lk : ∀ p ∈ g, (keys p.2).Nodup ∧ p.2.length ≤ d ∧ ∀ l ∈ p.2, l.2 = "needs" ∨ l.2 = "part"
theorem Topo.facts {g : Gr} (h : Topo g) : (keys g).Nodup ∧ ∀ p ∈ g, ∀ t ∈ keys p.2, t ∈ keys g := by
  induction h with
  | nil => exact ⟨List.nodup_nil, fun p hp => nomatch hp⟩
  | @snoc g n lk T hn hl ih =>
    refine ⟨?_, fun p hp t ht => ?_⟩
    · rw [keys_app, List.nodup_append]
      refine ⟨ih.1, by simp, fun a ha b hb e => ?_⟩
      rw [List.mem_singleton.mp hb] at e
      have e' : a = n := e
      exact hn (e' ▸ ha)
    · rw [keys_app]
      rcases List.mem_append.mp hp with hp | hp
      · exact List.mem_append_left _ (ih.2 p hp t ht)
      · rw [List.mem_singleton.mp hp] at ht
        exact List.mem_append_left _ (hl t ht)
theorem GrOk.gw {d : Nat} {g : Gr} (h : GrOk d g) (hd : d ≤ 1000) (hl : g.length ≤ 1000) : Gw g :=
  ⟨h.tp.facts.1, fun p hp => (h.lk p hp).1, h.tp.facts.2, hl, fun p hp => Nat.le_trans (h.lk p hp).2.1 hd⟩
theorem GrOk.ac {d : Nat} {g : Gr} (h : GrOk d g) : ∀ n, ¬ Reach g n n := h.tp.acyclic.2
theorem knd_val {d : Nat} {g : Gr} (h : GrOk d g) {n t k : Str} (e : knd g n t = some k) : k = "needs" ∨ k = "part" := by
  unfold knd lks at e
  cases q : g.lookup n with
  | none => rw [q] at e; cases e
  | some lk =>
    rw [q] at e
    exact (h.lk _ (lookup_some_mem q)).2.2 _ (lookup_some_mem e)
theorem gP_row {d : Nat} {g : Gr} (h : GrOk d g) (hs : ∀ n ∈ keys g, asc n = true) {n : Str} (hn : n ∈ keys g) : gP 10 (rowD g n) := by
  refine (gP_tup (k := 9) (gP_cons (gP_str (hs n hn)) (gP_cons ?_ gP_nil))).mono (by decide)
  refine gP_tup (k := 8) (gP_map fun t ht => ?_)
  obtain ⟨k, e⟩ := lookup_key (mem_sortS.mp ht)
  have e2 : knd g n t = some k := e
  have hk : asc k = true := by rcases knd_val h e2 with e | e <;> rw [e] <;> decide +kernel
  have ht2 : t ∈ keys g := h.tp.acyclic.1 n t (.one (by rw [e2]; exact fun z => nomatch z))
  rw [e2]
  exact (gP_tup (k := 7) (gP_cons (gP_str hk) (gP_cons (gP_str (hs t ht2)) gP_nil))).mono (by decide)
theorem cut_1 {α : Type} {xs : List α} {j : Nat} : cutD xs none (some (1 + (j : Int))) = xs.take (1 + j) := by
  rw [show (1 + (j : Int)) = ((1 + j : Nat) : Int) by omega, cutD_first]
theorem cut_2 {α : Type} {xs : List α} : cutD xs none (some 2) = xs.take 2 := cutD_first (k := 2)
theorem r1K2_1 {s : S} {j n : Nat} (h : j ≤ 100000) : r1K2 s (int1 [(.int (1 + (j : Int)), n)]) = .ok (rngL 0 (1 + j)) s := by
  rw [show (1 + (j : Int)) = ((1 + j : Nat) : Int) by omega, r1K2_nat (by omega)]
@[simp] theorem fIsi_tt {xs : List D} {n : Nat} : fIsi "tuple" [(.tup xs, n)] = some (.bl true, 0) := by
  have e : kitB "tuple" "tuple" = some true := by decide +kernel
  unfold fIsi
  simp only [tyN, e]
  rfl
end Z

/-! dict(x), d.get(k, z), is None -/
namespace Z
open PySem L2
section
variable {c : Zc} {L : Nat} {W : WX} {vc : Nat → Option V} {Z H Z' H' Z1 H1 : Hp} {σ : St} {vx : List (Option V)} {st tx : S} {fp fp1 : List Addr}
/-! ### dict(x) -/
def pairsOf : List D → Option (List (Key × D))
  | [] => some []
  | .tup [k, v] :: r => match kyV k, pairsOf r with
    | some ky, some kvs => some ((ky, v) :: kvs)
    | _, _ => none
  | _ => none
def fDict : F
  | [(.dct kvs, n)] => if n ≤ 1 then some (.dct kvs, 1) else none
  | [(.lst xs, n)] => if n ≤ 1 then (match pairsOf xs with
    | some kvs => some (.dct (mergeD [] kvs), 1)
    | none => none) else none
  | _ => none
def rCopyD : List V → Hp → VK → Prop := fun xs H Q => ∃ a kvs, xs = [.ref a] ∧ Rd H a (.dK kvs) ∧ ∀ p, H p = none → Q (.ref p) (upd H p (.dK kvs))
def rDictP (K : PySem.W.Frag) : List V → Hp → VK → Prop := fun xs H Q => ∃ (a : Addr) (ps : List Addr) (kvs : List (Key × V)), xs = [.ref a] ∧ SqL K H a (ps.map V.ref) ∧ Paired (fun p kv => SqT K H p [kV kv.1, kv.2]) ps kvs ∧
    ∀ p, H p = none → Q (.ref p) (upd H p (.dK (mergeK [] kvs)))
theorem call_dictC {X : Cx} : CallR X (.type "dict") rCopyD := by
  intro pins s σ H xs us Q I r q
  obtain ⟨a, kvs, ex, hr, q⟩ := q
  subst ex
  obtain ⟨u, eu, rx⟩ := vals1 r
  subst eu
  obtain rfl : u = Value.ref a := rx
  exact d_copyOf I hr fun p s' hp I' => ⟨.ref p, _, I', rfl, q p hp⟩
theorem kDt {Q : VK} {kvs : List (Key × D)} {vs : List (Key × V)} (s : Sub Z H) (k : ∀ Z' H' v g, Al Z H Z' H' g → RT c Z' H' 1 (.dct kvs) v g → Q v H') (hk : kvs.map (·.1) = vs.map (·.1)) (hx : ∀ (i : Nat) d v, (kvs.map (·.2))[i]? = some d → (vs.map (·.2))[i]? = some v → RF c Z d v) (p : Addr) (hp : H p = none) : Q (.ref p) (upd H p (.dK vs)) :=
  k Z _ _ _ (al_new s hp) (rt_dct hk hx)
theorem pairs_rel : ∀ {xs : List D} {kvs : List (Key × D)} {vs : List V}, pairsOf xs = some kvs → Sub Z H → xs.length = vs.length → (∀ (i : Nat) d w, xs[i]? = some d → vs[i]? = some w → RF c Z d w) →
    ∃ (ps : List Addr) (kvs' : List (Key × V)), vs = ps.map V.ref ∧ Paired (fun p kv => SqT c.K H p [kV kv.1, kv.2]) ps kvs' ∧ kvs.map (·.1) = kvs'.map (·.1) ∧ ∀ (i : Nat) d v, (kvs.map (·.2))[i]? = some d → (kvs'.map (·.2))[i]? = some v → RF c Z d v
  | [], kvs, [], h, s, _, _ => by
    cases h
    exact ⟨[], [], rfl, .nil, rfl, fun i d v h => by simp at h⟩
  | x :: r, kvs, v :: vs, h, s, hl, hx => by
    have h0 := hx 0 x v rfl rfl
    match x, h, h0 with
    | .tup [k, d], h, h0 =>
      simp only [pairsOf] at h
      cases e1 : kyV k with
      | none => rw [e1] at h; cases h
      | some ky =>
        cases e2 : pairsOf r with
        | none => rw [e1, e2] at h; cases h
        | some kr =>
          rw [e1, e2] at h
          cases h
          obtain ⟨ps, kvs', g1, g2, g3, g4⟩ := pairs_rel e2 s (vs := vs) (by simpa using hl) fun i d v h1 h2 => hx (i + 1) d v (by simpa using h1) (by simpa using h2)
          cases h0 with
          | @tup a ws _ ht hl0 hx0 =>
            match ws, hl0, hx0, ht with
            | [y, z], hl0, hx0, ht =>
              have rk := kyV_rf (hx0 0 k y rfl rfl) e1
              have rv := hx0 1 d z rfl rfl
              subst rk
              refine ⟨a :: ps, (ky, z) :: kvs', by rw [g1]; rfl, .cons (s.sqT ht) g2, by simp [g3], fun i d v h1 h2 => ?_⟩
              cases i with
              | zero => cases h1; cases h2; exact rv
              | succ i => exact g4 i d v (by simpa using h1) (by simpa using h2)
            | [], hl0, _, _ => cases hl0
            | [_], hl0, _, _ => cases hl0
            | _ :: _ :: _ :: _, hl0, _, _ => simp at hl0
    | .tup [], h, _ => simp [pairsOf] at h
    | .tup [_], h, _ => simp [pairsOf] at h
    | .tup (_ :: _ :: _ :: _), h, _ => simp [pairsOf] at h
    | .non, h, _ => simp [pairsOf] at h
    | .bl _, h, _ => simp [pairsOf] at h
    | .int _, h, _ => simp [pairsOf] at h
    | .str _, h, _ => simp [pairsOf] at h
    | .lst _, h, _ => simp [pairsOf] at h
    | .dct _, h, _ => simp [pairsOf] at h
    | .obj _ _, h, _ => simp [pairsOf] at h
    | .rol _, h, _ => simp [pairsOf] at h
  | [], _, _ :: _, _, _, hl, _ => by cases hl
  | _ :: _, _, [], _, _, hl, _ => by cases hl
theorem ruDict : RuZ c (fun xs H Q => rCopyD xs H Q ∨ rDictP c.K xs H Q) fDict := by
  intro Z H fp vs ts t Q e s h k
  match ts, e with
  | [(d, n)], e =>
    obtain ⟨x, rfl, hx⟩ := tre1 h
    cases d with
    | dct kvs =>
      simp only [fDict] at e
      split at e
      · rename_i hn
        cases e
        obtain ⟨a, ws, rfl, ha, hk, hi⟩ := tre_dct s hx
        rw [one_le hn] at hi
        exact .inl ⟨a, ws, rfl, ha, fun p hp => kDt s k hk (fun i d v h1 h2 => tre_rf (hi i d v h1 h2)) p hp⟩
      · cases e
    | lst xs =>
      simp only [fDict] at e
      split at e
      · rename_i hn
        cases q : pairsOf xs with
        | none => rw [q] at e; cases e
        | some kvs =>
          rw [q] at e
          cases e
          obtain ⟨a, ws, rfl, ha, hl, hi⟩ := tre_lst s hx
          rw [one_le hn] at hi
          obtain ⟨ps, kvs', g1, g2, g3, g4⟩ := pairs_rel q s hl fun i d w h1 h2 => tre_rf (hi i d w h1 h2)
          obtain ⟨m1, m2⟩ := merge_rel (Rl := fun d v => RF c Z d v) g3 g4 (kvs := []) (vs := []) rfl fun i d v h => by simp at h
          subst g1
          exact .inr ⟨a, ps, kvs', rfl, .inl (.inl ha), g2, fun p hp => kDt s k m1 m2 p hp⟩
      · cases e
    | _ => cases e
  | [], e => cases e
  | (d, _) :: _ :: _, e => cases d <;> cases e
/-! ### is None -/
def isNon : D → Bool
  | .non => true
  | _ => false
def fIsN : F
  | [(d, _)] => some (.bl (isNon d), 0)
  | _ => none
def fNotN : F
  | [(d, _)] => some (.bl (!isNon d), 0)
  | _ => none
theorem tre_isn {d : D} {n : Nat} {v : V} (s : Sub Z H) (h : Tre c Z H fp v (d, n)) : decide (v = .non) = isNon d := by
  cases d with
  | non => rw [tre_sc (t := (.non, n)) (u := .non) h rfl]; rfl
  | bl b => rw [tre_sc (t := (.bl b, n)) (u := .bl b) h rfl]; rfl
  | int i => rw [tre_sc (t := (.int i, n)) (u := .int i) h rfl]; rfl
  | str a => rw [tre_sc (t := (.str a, n)) (u := .str a) h rfl]; rfl
  | lst xs => obtain ⟨a, _, rfl, _⟩ := tre_lst s h; rfl
  | dct xs => obtain ⟨a, _, rfl, _⟩ := tre_dct s h; rfl
  | tup xs =>
    obtain ⟨f, _, r⟩ := h
    cases n with
    | zero => obtain ⟨r, _⟩ := r; cases r; rfl
    | succ n => obtain ⟨a, _, _, e, _⟩ := r; cases e; rfl
  | obj C xs =>
    obtain ⟨f, _, r⟩ := h
    cases n with
    | zero => obtain ⟨r, _⟩ := r; cases r; rfl
    | succ n => obtain ⟨_, a, _, _, _, e, _⟩ := r; cases e; rfl
  | rol xs =>
    obtain ⟨f, _, r⟩ := h
    cases n with
    | zero => obtain ⟨r, _⟩ := r; cases r; rfl
    | succ n => cases n <;> (obtain ⟨r, _⟩ := r; cases r; rfl)
theorem ruIsN : RuZ c (r1 fun x H Q => Q (.bl (decide (x = .non))) H) fIsN := by
  intro Z H fp vs ts t Q e s h k
  match ts, e with
  | [(d, n)], e =>
    cases e
    obtain ⟨x, rfl, hx⟩ := tre1 h
    show Q (.bl (decide (x = .non))) H
    rw [tre_isn s hx]
    exact kF s k .bl
theorem ruNotN : RuZ c (r1 fun x H Q => Q (.bl (!decide (x = .non))) H) fNotN := by
  intro Z H fp vs ts t Q e s h k
  match ts, e with
  | [(d, n)], e =>
    cases e
    obtain ⟨x, rfl, hx⟩ := tre1 h
    show Q (.bl (!decide (x = .non))) H
    rw [tre_isn s hx]
    exact kF s k .bl
/-! ### d.get(k, z) -/
def mGd (o : Opd) (mk mz : M T) : M T := fun s => match evs [o] s with
  | .ok hs s1 => match get1 o hs s1 with
    | some (.dct _, _) => (match evm [mk, mz] s1 with
      | .ok [k, z] s2 => (match get1 o hs s2 with
        | some (.dct kvs, n) => if n ≤ 1 then (match kyV k.1 with
          | some ky => .ok (((kvs.find? fun p => decide (p.1 = ky)).map (·.2)).getD z.1, 0) s2
          | none => .no) else .no
        | _ => .no)
      | .ok _ _ => .no
      | .ex x s2 => .ex x s2
      | .no => .no)
    | _ => .no
  | .ex x s1 => .ex x s1
  | .no => .no
theorem find_none {κ α : Type} [DecidableEq κ] {k : κ} : ∀ {kvs : List (κ × α)} {vs : List (κ × V)}, kvs.map (·.1) = vs.map (·.1) → (kvs.find? fun p => decide (p.1 = k)).map (·.2) = none → valV vs k = none
  | [], [], _, _ => rfl
  | (k1, d1) :: kvs, (k2, v) :: vs, e, h => by
    simp only [List.map_cons, List.cons.injEq] at e
    obtain ⟨e1, e2⟩ := e
    subst e1
    by_cases q : k1 = k
    · subst q
      simp [List.find?] at h
    · simp only [List.find?, decide_eq_false q] at h
      have := find_none e2 h
      simpa [valV, List.find?, q] using this
  | [], _ :: _, e, _ => by cases e
  | _ :: _, [], e, _ => by cases e
theorem mGd_rd {o : Opd} {mk mz : M T} {Q : VK} (hL : okL L [o] = true) (h : rd c L W (mGd o mk mz) σ H Q) : tDGet2 (tO c L W o) (rd c L W mk) (rd c L W mz) σ H Q := by
  obtain ⟨Z, vc, vx, st, tx, fp, w, h⟩ := h
  refine tO_run w hL ?_
  cases q : evs [o] st with
  | no => simp only [mGd, q] at h; exact h
  | ex x s => simp only [mGd, q] at h; exact h
  | ok hs s1 =>
    simp only [mGd, q] at h
    intro Z1 H1 v vy ty fp1 t1 w1 r1
    unfold get1 at h
    cases q2 : gets [o] hs s1 with
    | none => simp only [q2] at h; exact h.elim
    | some ts0 =>
      obtain ⟨t, rfl⟩ := gets_one q2
      simp only [q2] at h
      have tr := r1.tree1 w1 hL q2
      obtain ⟨d, n⟩ := t
      cases d with
      | dct kvs0 =>
        obtain ⟨a, vs0, rfl, ra, _, _⟩ := tre_dct w1.sub tr
        refine ⟨a, rfl, .inl ⟨vs0, ra⟩, ?_⟩
        have run : tMs c L W [mk, mz] σ H1 fun vs H3 => ∃ y z, vs = [y, z] ∧ ∃ o, DGet H3 a y o ∧ Q (o.getD z) H3 := by
          refine tMs_run w1 ?_
          cases q3 : evm [mk, mz] s1 with
          | no => simp only [q3] at h; exact h
          | ex x s2 => simp only [q3] at h; exact ex_pops w.hvc r1.len t1 h
          | ok ts s2 =>
            intro Z2 H2 vs fp2 t2 hl w2
            match ts, hl, q3, w2 with
            | [], _, q3, _ => simp only [q3] at h; exact h.elim
            | [_], _, q3, _ => simp only [q3] at h; exact h.elim
            | _ :: _ :: _ :: _, _, q3, _ => simp only [q3] at h; exact h.elim
            | [k, z], hl, q3, w2 =>
              simp only [q3] at h
              match vs, hl, w2 with
              | [y, u], hl, w2 =>
                have w2' : Wl c L vc Z2 H2 σ ((vx ++ vy) ++ [y, u].map some) s2 ((tx ++ ty) ++ [k, z].map fun t => .ow t.1 t.2) fp2 := w2
                obtain ⟨Z3, g3, w3, t3, rf⟩ := Wl.frz w2' w1.hvc hl
                cases q4 : gets [o] hs s2 with
                | none => simp only [q4] at h; exact h.elim
                | some ts1 =>
                  obtain ⟨t', rfl⟩ := gets_one q4
                  simp only [q4] at h
                  have tr2 := r1.tree1 w3 hL q4
                  obtain ⟨d', n'⟩ := t'
                  cases d' with
                  | dct kvs =>
                    simp only at h
                    split at h
                    · rename_i hn
                      cases q5 : kyV k.1 with
                      | none => simp only [q5] at h; exact h.elim
                      | some ky =>
                        simp only [q5] at h
                        obtain ⟨a', ws, ea, ra2, hk, hi⟩ := tre_dct w3.sub tr2
                        cases ea
                        rw [one_le hn] at hi
                        have ry := kyV_rf (rf 0 k.1 y rfl rfl) q5
                        subst ry
                        have rz := rf 1 z.1 u rfl rfl
                        obtain ⟨g4, hg4, w4⟩ := Wl.pops r1.len w3 w.hvc
                        have fin : ∀ {d : D} {x : V}, RF c Z3 d x → ((kvs.find? fun p => decide (p.1 = ky)).map (·.2)).getD z.1 = d → Q x H2 := fun {d x} r e => by
                          rw [e] at h
                          exact h Z3 H2 x _ (((t1.trans t2).trans t3).trans (Stp.less hg4)) (w4.pushF r)
                        refine ⟨_, _, rfl, valV ws ky, .inl ⟨ws, ky, ra2, rfl, rfl⟩, ?_⟩
                        cases q6 : (kvs.find? fun p => decide (p.1 = ky)).map (·.2) with
                        | none =>
                          rw [find_none hk q6]
                          exact fin rz (by rw [q6]; rfl)
                        | some d1 =>
                          obtain ⟨j, x, e1, e2, e3⟩ := find_rel hk q6
                          rw [e3]
                          exact fin (tre_rf (hi j d1 x e1 e2)) (by rw [q6]; rfl)
                    · exact h.elim
                  | _ => exact h.elim
        exact rd_mono (fun y H2 h2 => rd_mono (fun z H3 h3 => by
          obtain ⟨y', z', e, r⟩ := h3
          cases e
          exact r) h2) run
      | _ => exact h.elim
end
section
variable {X : Cx} {c : Zc} {L : Nat} {W : WX} {pos : Pos}
theorem b_dict {e : Expr} {o : Opd} {p : Pos} (hm : X.mg "dict" = none) (ha : ZO X c L W e o) (hK : c.K = X.K := by rfl) (hc : X.calm = true := by rfl) (hg : Gl X "dict" := by rfl) (hL : okL L [o] = true := by rfl) (he : starEach [e] X.env = [(false, eval e X.env)] := by rfl) : ZE X c L W (.Call (.Name "dict" p) [e] [] pos) (mOp fDict [o]) :=
  ze_ct (CallR.or call_dictC (hK ▸ call_dictP hc)) ruDict hg hm (by decide +kernel) (zos_cons ha zos_nil he) hL (he := he)
theorem z_isN {e : Expr} {o : Opd} {j : Nat} {p : Pos} (ha : ZO X c L W e o) (hL : okL L [o] = true := by rfl) : ZE X c L W (.Compare e [.Is] [.Constant .none j p] pos) (mOp fIsN [o]) :=
  PE.imp (pe_cmp (pc_isN ha)) fun σ H Q h => run_op ruIsN (okL_mem hL) h
theorem z_notN {e : Expr} {o : Opd} {j : Nat} {p : Pos} (ha : ZO X c L W e o) (hL : okL L [o] = true := by rfl) : ZE X c L W (.Compare e [.IsNot] [.Constant .none j p] pos) (mOp fNotN [o]) :=
  PE.imp (pe_cmp (pc_notN ha)) fun σ H Q h => run_op ruNotN (okL_mem hL) h
theorem zt_isN {e : Expr} {o : Opd} {j : Nat} {p : Pos} (ha : ZO X c L W e o) (hL : okL L [o] = true := by rfl) : ZT X c L W (.Compare e [.Is] [.Constant .none j p] pos) (mB (mOp fIsN [o])) :=
  PT.imp (pt_cmp (pc_isN ha)) fun σ H Q h => run_op ruIsN (okL_mem hL) (mB_rd h)
theorem zt_notN {e : Expr} {o : Opd} {j : Nat} {p : Pos} (ha : ZO X c L W e o) (hL : okL L [o] = true := by rfl) : ZT X c L W (.Compare e [.IsNot] [.Constant .none j p] pos) (mB (mOp fNotN [o])) :=
  PT.imp (pt_cmp (pc_notN ha)) fun σ H Q h => run_op ruNotN (okL_mem hL) (mB_rd h)
theorem z_get {e ek ez : Expr} {o : Opd} {mk mz : M T} {apos cpos : Pos} (hu : X.A.units + 64 < cLine) (ho : ZO X c L W e o) (hk : ZE X c L W ek mk) (hz : ZE X c L W ez mz) (hbase : attributeBase e "get" X.env (eval e X.env) = eval e X.env := by rfl)
    (hfew : ((backTo cpos (starEach [ek, ez] X.env)).all (fun x => !x.1) && (backToKw cpos (keywordEach [] X.env)).all (fun x => x.1.isSome) && decide (([ek, ez] : List Expr).length + ([] : List Keyword).length + (if ([] : List Keyword).isEmpty then 0 else 1) < 30)) = true := by rfl)
    (hline : (apos.endLine == cpos.line) = true := by rfl) (htr : backTo cpos (starEach [ek, ez] X.env) = [(false, eval ek X.env), (false, eval ez X.env)] := by rfl) (hL : okL L [o] = true := by rfl) : ZE X c L W (.Call (.Attribute e "get" apos) [ek, ez] [] cpos) (mGd o mk mz) :=
  PE.imp (pe_dget2 (by omega) ho hk hz ⟨hbase, hfew, hline, htr⟩) fun σ H Q h => mGd_rd hL h
end
/-! ### run by simp -/
def fdK : Option (List (Key × D)) → Option T
  | some kvs => some (.dct (mergeD [] kvs), 1)
  | none => none
@[simp] theorem fdK_some {kvs : List (Key × D)} : fdK (some kvs) = some (.dct (mergeD [] kvs), 1) := rfl
@[simp] theorem fDict_d {kvs : List (Key × D)} {n : Nat} (h : n ≤ 1) : fDict [(.dct kvs, n)] = some (.dct kvs, 1) := by show (if _ then _ else _) = _; rw [if_pos h]
@[simp] theorem fDict_e {α : Type} {f : α → D} {l : List (Str × α)} {n : Nat} (h : n ≤ 1) : fDict [(eD f l, n)] = some (eD f l, 1) := fDict_d h
theorem fDict_l {xs : List D} {n : Nat} (h : n ≤ 1) : fDict [(.lst xs, n)] = fdK (pairsOf xs) := by
  show (if _ then _ else _) = _
  rw [if_pos h]
  cases pairsOf xs <;> rfl
theorem pairsOf_map {α β : Type} {f : β → D} (g : α → Str × β) : ∀ xs : List α, pairsOf (xs.map fun x => .tup [.str (g x).1, f (g x).2]) = some (xs.map fun x => (.inr (g x).1, f (g x).2))
  | [] => rfl
  | x :: xs => by
    rw [List.map_cons]
    show (match kyV (.str (g x).1), pairsOf _ with | some ky, some kvs => some ((ky, f (g x).2) :: kvs) | _, _ => none) = _
    rw [pairsOf_map g xs]
    rfl
theorem mergeD_map {α β : Type} {f : β → D} (g : α → Str × β) : ∀ (xs : List α) (acc : List (Str × β)), mergeD (acc.map fun p => (Sum.inr p.1, f p.2)) (xs.map fun x => ((.inr (g x).1 : Key), f (g x).2)) = (xs.foldl (fun acc x => putL acc (g x).1 (g x).2) acc).map fun p => (Sum.inr p.1, f p.2)
  | [], acc => rfl
  | x :: xs, acc => by
    rw [List.map_cons, List.foldl_cons]
    show mergeD (putL _ _ _) _ = _
    rw [putL_map]
    exact mergeD_map g xs _
/-- dict([(k, v) ..]), unlike keys -/
theorem fDict_m {α β : Type} {f : β → D} (g : α → Str × β) {xs : List α} {n : Nat} (h : n ≤ 1) (hn : (xs.map fun x => (g x).1).Nodup) : fDict [(.lst (xs.map fun x => .tup [.str (g x).1, f (g x).2]), n)] = some (eD f (xs.map g), 1) := by
  rw [fDict_l h, pairsOf_map, fdK_some]
  have := mergeD_map (f := f) g xs []
  rw [foldl_putL_new g (by simpa using hn)] at this
  rw [List.nil_append] at this
  show some (D.dct (mergeD (([] : List (Str × β)).map fun p => ((Sum.inr p.1 : Key), f p.2)) _), 1) = _
  rw [this]
  rfl
@[simp] theorem fIsN_n {n : Nat} : fIsN [(.non, n)] = some (.bl true, 0) := rfl
@[simp] theorem fNotN_n {n : Nat} : fNotN [(.non, n)] = some (.bl false, 0) := rfl
@[simp] theorem fIsN_s {a : Str} {n : Nat} : fIsN [(.str a, n)] = some (.bl false, 0) := rfl
@[simp] theorem fNotN_s {a : Str} {n : Nat} : fNotN [(.str a, n)] = some (.bl true, 0) := rfl
@[simp] theorem fIsN_t {a : List D} {n : Nat} : fIsN [(.tup a, n)] = some (.bl false, 0) := rfl
@[simp] theorem fNotN_t {a : List D} {n : Nat} : fNotN [(.tup a, n)] = some (.bl true, 0) := rfl
def gdK2 (k z : T) (s : S) : Option T → R T
  | some (.dct kvs, n) => if n ≤ 1 then (match kyV k.1 with
    | some ky => .ok (((kvs.find? fun p => decide (p.1 = ky)).map (·.2)).getD z.1, 0) s
    | none => .no) else .no
  | _ => .no
def gdK1 (o : Opd) (hs : List (Option T)) : R (List T) → R T
  | .ok [k, z] s => gdK2 k z s (get1 o hs s)
  | .ok _ _ => .no
  | .ex x s => .ex x s
  | .no => .no
def gdK0 (o : Opd) (hs : List (Option T)) (mk mz : M T) (s : S) : Option T → R T
  | some (.dct _, _) => gdK1 o hs (evm [mk, mz] s)
  | _ => .no
def gdK (o : Opd) (mk mz : M T) : R (List (Option T)) → R T := thn1 fun hs s => gdK0 o hs mk mz s (get1 o hs s)
@[simp] theorem gdK_ok {o : Opd} {mk mz : M T} {hs : List (Option T)} {s : S} : gdK o mk mz (.ok hs s) = gdK0 o hs mk mz s (get1 o hs s) := rfl
@[simp] theorem gdK0_e {o : Opd} {hs : List (Option T)} {mk mz : M T} {s : S} {α : Type} {f : α → D} {l : List (Str × α)} {n : Nat} : gdK0 o hs mk mz s (some (eD f l, n)) = gdK1 o hs (evm [mk, mz] s) := rfl
@[simp] theorem gdK1_ok {o : Opd} {hs : List (Option T)} {k z : T} {s : S} : gdK1 o hs (.ok [k, z] s) = gdK2 k z s (get1 o hs s) := rfl
@[simp] theorem gdK2_e {a : Str} {m : Nat} {z : T} {s : S} {α : Type} {f : α → D} {l : List (Str × α)} {n : Nat} (h : n ≤ 1) : gdK2 (.str a, m) z s (some (eD f l, n)) = .ok (((l.lookup a).map f).getD z.1, 0) s := by
  show (if _ then _ else _) = _
  rw [if_pos h]
  show R.ok _ _ = _
  rw [find_e]
@[simp] theorem mGd_eq {o : Opd} {mk mz : M T} {s : S} : mGd o mk mz s = gdK o mk mz (evs [o] s) := by
  unfold mGd gdK
  cases evs [o] s with
  | no => rfl
  | ex x s => rfl
  | ok hs s =>
    show _ = gdK0 o hs mk mz s (get1 o hs s)
    unfold gdK0
    simp only
    cases get1 o hs s with
    | none => rfl
    | some t =>
      obtain ⟨d, n⟩ := t
      cases d with
      | dct kvs =>
        simp only
        unfold gdK1
        cases evm [mk, mz] s with
        | no => rfl
        | ex x s => rfl
        | ok ts s =>
          match ts with
          | [] => rfl
          | [_] => rfl
          | _ :: _ :: _ :: _ => rfl
          | [k, z] =>
            show _ = gdK2 k z s (get1 o hs s)
            unfold gdK2
            simp only
      | _ => rfl
end Z

/-! statements over graphs: what they come to, by relations alone -/
namespace Z
open PySem L2
/-- a catalog's graph over some names -/
structure GG (nm : List Str) (g : Gr) : Prop where
  gw : Gw g
  ac : ∀ n, ¬ Reach g n n
  kd : ∀ p ∈ g, ∀ l ∈ p.2, l.2 = "needs" ∨ l.2 = "part"
  ks : ∀ n ∈ keys g, n ∈ nm
inductive Stm where
  | create (n : Str) (lk : Lk) | drop (n : Str) | cascade (n : Str) | rename (a b : Str) | redefine (n : Str) (lk : Lk) | swap (a b : Str)
/-- links as they are given: target, kind; unlike targets -/
def LkOk (lk : Lk) : Prop := (keys lk).Nodup ∧ ∀ l ∈ lk, l.2 = "needs" ∨ l.2 = "part"
def StOk (nm : List Str) : Stm → Prop
  | .create n lk => n ∈ nm ∧ LkOk lk ∧ ∀ t ∈ keys lk, t ∈ nm
  | .redefine n lk => n ∈ nm ∧ LkOk lk ∧ ∀ t ∈ keys lk, t ∈ nm
  | .drop n => n ∈ nm
  | .cascade n => n ∈ nm
  | .rename a b => a ∈ nm ∧ b ∈ nm
  | .swap a b => a ∈ nm ∧ b ∈ nm
def lksT (lk : Lk) : D := .tup (lk.map prD)
def eSt : Stm → D
  | .create n lk => .tup [.str "create", .str n, lksT lk]
  | .drop n => .tup [.str "drop", .str n]
  | .cascade n => .tup [.str "cascade", .str n]
  | .rename a b => .tup [.str "rename", .str a, .str b]
  | .redefine n lk => .tup [.str "redefine", .str n, lksT lk]
  | .swap a b => .tup [.str "swap", .str a, .str b]
def cutG (r : List Str) (g : Gr) : Gr := g.filter fun p => decide (p.1 ∉ r)
def miss (g : Gr) (lk : Lk) : Option Str := (keys lk).find? fun t => decide (t ∉ keys g)
def swp (a b x : Str) : Str := if x = a then b else if x = b then a else x
def relab (f : Str → Str) (g : Gr) : Gr := g.map fun p => (f p.1, p.2.map fun l => (f l.1, l.2))
def Goes (g : Gr) (r : List Str) (w : Str) (d : D) (g' : Gr) : Prop := w = "done" ∧ d = .tup (r.map D.str) ∧ g' = cutG r g
def Stays (g : Gr) (w0 n : Str) (w : Str) (d : D) (g' : Gr) : Prop := w = w0 ∧ d = .str n ∧ g' = g
def Made (h : Gr) (w : Str) (d : D) (g' : Gr) : Prop := w = "done" ∧ d = .non ∧ g' = h
/-- what a statement comes to -/
def Sp (g : Gr) : Stm → Str → D → Gr → Prop
  | .drop n => fun w d g' => (n ∉ keys g ∧ Stays g "missing" n w d g') ∨ (n ∈ keys g ∧ (∃ x, Blk g n x) ∧ Stays g "blocked" n w d g') ∨ (n ∈ keys g ∧ (∀ x, ¬ Blk g n x) ∧ ∃ r, IsS (Fall g n) r ∧ Goes g r w d g')
  | .cascade n => fun w d g' => (n ∉ keys g ∧ Stays g "missing" n w d g') ∨ (n ∈ keys g ∧ ∃ r, IsS (fun x => x = n ∨ Dep g n x) r ∧ Goes g r w d g')
  | .create n lk => fun w d g' => (n ∈ keys g ∧ Stays g "taken" n w d g') ∨ (n ∉ keys g ∧ ∃ t, miss g lk = some t ∧ Stays g "missing" t w d g') ∨ (n ∉ keys g ∧ miss g lk = none ∧ Made (putL g n lk) w d g')
  | .redefine n lk => fun w d g' => (n ∉ keys g ∧ Stays g "missing" n w d g') ∨ (n ∈ keys g ∧ ∃ t, miss g lk = some t ∧ Stays g "missing" t w d g') ∨
      (n ∈ keys g ∧ miss g lk = none ∧ (∃ t ∈ keys lk, t = n ∨ Reach g t n) ∧ Stays g "cycle" n w d g') ∨ (n ∈ keys g ∧ miss g lk = none ∧ (∀ t ∈ keys lk, ¬ (t = n ∨ Reach g t n)) ∧ Made (putL g n lk) w d g')
  | .rename a b => fun w d g' => (a ∉ keys g ∧ Stays g "missing" a w d g') ∨ (a ∈ keys g ∧ b ∈ keys g ∧ Stays g "taken" b w d g') ∨ (a ∈ keys g ∧ b ∉ keys g ∧ Made (relab (swp a b) g) w d g')
  | .swap a b => fun w d g' => (a ∉ keys g ∧ Stays g "missing" a w d g') ∨ (a ∈ keys g ∧ b ∉ keys g ∧ Stays g "missing" b w d g') ∨ (a ∈ keys g ∧ b ∈ keys g ∧ Made (relab (swp a b) g) w d g')
/-! ### the same in, the same out -/
theorem lookup_filter {α : Type} (q : Str → Bool) : ∀ {l : List (Str × α)} {a : Str}, (l.filter fun p => q p.1).lookup a = if q a = true then l.lookup a else none
  | [], a => by simp
  | (k, v) :: l, a => by
    rw [List.filter_cons]
    by_cases e : a = k
    · subst e
      cases h : q a with
      | true => simp
      | false => simp only [Bool.false_eq_true, if_false]; rw [lookup_filter q, h]; simp
    · have e2 : (a == k) = false := by simpa using e
      cases h : q k with
      | true => simp only [if_true]; rw [List.lookup_cons, List.lookup_cons, e2, lookup_filter q]
      | false => simp only [Bool.false_eq_true, if_false]; rw [lookup_filter q, List.lookup_cons, e2]
theorem keys_cut {r : List Str} {g : Gr} {n : Str} : n ∈ keys (cutG r g) ↔ n ∈ keys g ∧ n ∉ r := by
  unfold cutG keys
  simp only [List.mem_map, List.mem_filter, decide_eq_true_eq]
  constructor
  · rintro ⟨p, ⟨h1, h2⟩, rfl⟩; exact ⟨⟨p, h1, rfl⟩, h2⟩
  · rintro ⟨⟨p, h1, rfl⟩, h2⟩; exact ⟨p, ⟨h1, h2⟩, rfl⟩
theorem knd_cut {r : List Str} {g : Gr} {n t : Str} : knd (cutG r g) n t = if n ∈ r then none else knd g n t := by
  unfold knd lks cutG
  have := lookup_filter (fun x => decide (x ∉ r)) (l := g) (a := n)
  rw [this]
  by_cases h : n ∈ r
  · simp [h]
  · simp [h]
theorem Same.cut {g g2 : Gr} (h : Same g g2) (r : List Str) : Same (cutG r g) (cutG r g2) := ⟨fun n => by rw [keys_cut, keys_cut, h.ks], fun n t => by rw [knd_cut, knd_cut, h.kd]⟩
theorem lookup_put {α : Type} {l : List (Str × α)} {a x : Str} {v : α} : (putL l a v).lookup x = if x = a then some v else l.lookup x := by
  by_cases h : a ∈ keys l
  · have hp : putL l a v = l.map fun p => if p.1 = a then (p.1, v) else p := by
      unfold putL
      rw [if_pos]
      obtain ⟨p, hp, q⟩ := List.mem_map.mp h
      exact List.any_eq_true.mpr ⟨p, hp, decide_eq_true q⟩
    rw [hp]
    clear hp
    induction l with
    | nil => cases h
    | cons p l ih =>
      obtain ⟨k, w⟩ := p
      rw [List.map_cons]
      by_cases e : k = a
      · subst e
        simp only [if_true]
        rw [List.lookup_cons, List.lookup_cons]
        by_cases ex : x = k
        · subst ex; simp
        · have : (x == k) = false := by simpa using ex
          rw [this]
          simp only [ex, if_false]
          by_cases hm : k ∈ keys l
          · rw [ih hm]; simp [ex]
          · congr 1
            refine (List.map_congr_left fun p hp => ?_).trans (List.map_id _)
            have : ¬ p.1 = k := fun z => hm (z ▸ List.mem_map.mpr ⟨p, hp, rfl⟩)
            simp [this]
      · simp only [e, if_false]
        rw [List.lookup_cons, List.lookup_cons]
        have hm : a ∈ keys l := (List.mem_cons.mp h).resolve_left fun z => e z.symm
        by_cases ex : x = k
        · subst ex; simp [e]
        · have : (x == k) = false := by simpa using ex
          rw [this]
          exact ih hm
  · rw [putL_new h, lookup_app]
    by_cases hx : x ∈ keys l
    · have : ¬ x = a := fun e => h (e ▸ hx)
      simp [hx, this]
    · rw [if_neg hx, lookup_no hx, List.lookup_cons]
      by_cases e : x = a
      · subst e; simp
      · have : (x == a) = false := by simpa using e
        simp [this, e]
theorem keys_put {α : Type} {l : List (Str × α)} {a x : Str} {v : α} : x ∈ keys (putL l a v) ↔ x = a ∨ x ∈ keys l := by
  rw [keys_putL]
  split
  · rename_i h
    exact ⟨.inr, fun z => z.elim (fun e => e ▸ h) id⟩
  · rw [List.mem_append, List.mem_singleton]
    exact ⟨fun z => z.elim .inr .inl, fun z => z.elim .inr .inl⟩
theorem knd_put {g : Gr} {n x t : Str} {lk : Lk} : knd (putL g n lk) x t = if x = n then lk.lookup t else knd g x t := by
  unfold knd lks
  rw [lookup_put]
  split <;> rfl
theorem Same.put {g g2 : Gr} (h : Same g g2) (n : Str) (lk : Lk) : Same (putL g n lk) (putL g2 n lk) := ⟨fun x => by rw [keys_put, keys_put, h.ks], fun x t => by rw [knd_put, knd_put, h.kd]⟩
theorem swp_swp (a b x : Str) : swp a b (swp a b x) = x := by
  unfold swp
  by_cases h1 : x = a
  · subst h1
    by_cases h2 : b = x
    · subst h2; simp
    · simp [h2]
  · by_cases h2 : x = b
    · subst h2; simp [h1]
    · simp [h1, h2]
theorem lookup_map {α β : Type} {f : Str → Str} (hf : ∀ x, f (f x) = x) (u : α → β) : ∀ {l : List (Str × α)} {x : Str}, (l.map fun p => (f p.1, u p.2)).lookup x = (l.lookup (f x)).map u
  | [], x => rfl
  | (k, v) :: l, x => by
    rw [List.map_cons, List.lookup_cons, List.lookup_cons]
    by_cases e : x = f k
    · subst e
      rw [hf]
      simp
    · have e2 : ¬ f x = k := fun z => e (by rw [← z, hf])
      have h1 : (x == f k) = false := by simpa using e
      have h2 : (f x == k) = false := by simpa using e2
      rw [h1, h2]
      exact lookup_map hf u
theorem keys_relab {f : Str → Str} (hf : ∀ x, f (f x) = x) {g : Gr} {n : Str} : n ∈ keys (relab f g) ↔ f n ∈ keys g := by
  unfold relab keys
  rw [List.map_map]
  simp only [List.mem_map, Function.comp]
  constructor
  · rintro ⟨p, h, rfl⟩; exact ⟨p, h, (hf _).symm⟩
  · rintro ⟨p, h, e⟩; exact ⟨p, h, by rw [e, hf]⟩
theorem knd_relab {f : Str → Str} (hf : ∀ x, f (f x) = x) {g : Gr} {n t : Str} : knd (relab f g) n t = knd g (f n) (f t) := by
  unfold knd lks relab
  rw [lookup_map hf (fun lk : Lk => lk.map fun l => (f l.1, l.2))]
  cases g.lookup (f n) with
  | none => rfl
  | some lk =>
    show (lk.map fun l => (f l.1, l.2)).lookup t = _
    rw [lookup_map hf (fun k : Str => k)]
    show Option.map _ (lk.lookup (f t)) = lk.lookup (f t)
    cases lk.lookup (f t) <;> rfl
theorem Same.relab {f : Str → Str} (hf : ∀ x, f (f x) = x) {g g2 : Gr} (h : Same g g2) : Same (relab f g) (relab f g2) := ⟨fun x => by rw [keys_relab hf, keys_relab hf, h.ks], fun x t => by rw [knd_relab hf, knd_relab hf, h.kd]⟩
theorem Same.miss {g g2 : Gr} (h : Same g g2) (lk : Lk) : miss g lk = miss g2 lk := by
  unfold Z.miss
  congr 1
  funext t
  rw [decide_eq_decide.mpr (not_congr (h.ks t))]
/-- a statement comes to one word -/
theorem Sp.eq {g g2 : Gr} (S : Same g g2) {st : Stm} {w w2 : Str} {d d2 : D} {g' g2' : Gr} (h : Sp g st w d g') (k : Sp g2 st w2 d2 g2') : w = w2 ∧ d = d2 ∧ Same g' g2' := by
  have stay : ∀ {w0 n : Str}, Stays g w0 n w d g' → Stays g2 w0 n w2 d2 g2' → w = w2 ∧ d = d2 ∧ Same g' g2' := fun a b => by
    obtain ⟨rfl, rfl, rfl⟩ := a
    obtain ⟨rfl, rfl, rfl⟩ := b
    exact ⟨rfl, rfl, S⟩
  have goes : ∀ {P Q : Str → Prop} {r r2 : List Str}, (∀ x, P x ↔ Q x) → IsS P r → IsS Q r2 → Goes g r w d g' → Goes g2 r2 w2 d2 g2' → w = w2 ∧ d = d2 ∧ Same g' g2' := fun {P Q r r2} e i j a b => by
    have := i.eq j e
    subst this
    obtain ⟨rfl, rfl, rfl⟩ := a
    obtain ⟨rfl, rfl, rfl⟩ := b
    exact ⟨rfl, rfl, S.cut _⟩
  have made : ∀ {h1 h2 : Gr}, Same h1 h2 → Made h1 w d g' → Made h2 w2 d2 g2' → w = w2 ∧ d = d2 ∧ Same g' g2' := fun e a b => by
    obtain ⟨rfl, rfl, rfl⟩ := a
    obtain ⟨rfl, rfl, rfl⟩ := b
    exact ⟨rfl, rfl, e⟩
  cases st with
  | drop n =>
    simp only [Sp, ← S.ks, ← S.blk] at h k
    rcases h with ⟨a, h⟩ | ⟨a, b, h⟩ | ⟨a, b, r, i, h⟩ <;> rcases k with ⟨c, k⟩ | ⟨c, e, k⟩ | ⟨c, e, r2, j, k⟩
    all_goals first
      | exact stay h k
      | exact absurd a c
      | exact absurd c a
      | exact goes (fun x => S.fall_iff) i j h k
      | exact (b.elim fun x hx => e x hx).elim
      | exact (e.elim fun x hx => b x hx).elim
  | cascade n =>
    simp only [Sp, ← S.ks] at h k
    rcases h with ⟨a, h⟩ | ⟨a, r, i, h⟩ <;> rcases k with ⟨c, k⟩ | ⟨c, r2, j, k⟩
    all_goals first
      | exact stay h k
      | exact absurd a c
      | exact absurd c a
      | exact goes (fun x => or_congr .rfl S.dep) i j h k
  | create n lk =>
    simp only [Sp, ← S.ks, ← S.miss] at h k
    rcases h with ⟨a, h⟩ | ⟨a, t, b, h⟩ | ⟨a, b, h⟩ <;> rcases k with ⟨c, k⟩ | ⟨c, u, e, k⟩ | ⟨c, e, k⟩
    all_goals first
      | exact stay h k
      | exact absurd a c
      | exact absurd c a
      | exact made (S.put _ _) h k
      | (rw [b] at e; cases e; exact stay h k)
      | (rw [b] at e; cases e)
  | redefine n lk =>
    simp only [Sp, ← S.ks, ← S.miss, ← S.reach_iff] at h k
    rcases h with ⟨a, h⟩ | ⟨a, t, b, h⟩ | ⟨a, b, x, h⟩ | ⟨a, b, x, h⟩ <;> rcases k with ⟨c, k⟩ | ⟨c, u, e, k⟩ | ⟨c, e, y, k⟩ | ⟨c, e, y, k⟩
    all_goals first
      | exact stay h k
      | exact absurd a c
      | exact absurd c a
      | exact made (S.put _ _) h k
      | (rw [b] at e; cases e; exact stay h k)
      | (rw [b] at e; cases e; done)
      | exact (x.elim fun t ht => y t ht.1 ht.2).elim
      | exact (y.elim fun t ht => x t ht.1 ht.2).elim
  | rename a b =>
    simp only [Sp, ← S.ks] at h k
    rcases h with ⟨x, h⟩ | ⟨x, y, h⟩ | ⟨x, y, h⟩ <;> rcases k with ⟨u, k⟩ | ⟨u, v, k⟩ | ⟨u, v, k⟩
    all_goals first
      | exact stay h k
      | exact absurd x u
      | exact absurd u x
      | exact absurd y v
      | exact absurd v y
      | exact made (S.relab (swp_swp a b)) h k
  | swap a b =>
    simp only [Sp, ← S.ks] at h k
    rcases h with ⟨x, h⟩ | ⟨x, y, h⟩ | ⟨x, y, h⟩ <;> rcases k with ⟨u, k⟩ | ⟨u, v, k⟩ | ⟨u, v, k⟩
    all_goals first
      | exact stay h k
      | exact absurd x u
      | exact absurd u x
      | exact absurd y v
      | exact absurd v y
      | exact made (S.relab (swp_swp a b)) h k
end Z

/-! statements keep a catalog a catalog -/
namespace Z
open PySem L2
theorem gw_of {nm : List Str} (hn : nm.length ≤ 1000) {g : Gr} (nd : (keys g).Nodup) (ln : ∀ p ∈ g, (keys p.2).Nodup) (cl : ∀ p ∈ g, ∀ t ∈ keys p.2, t ∈ keys g) (ks : ∀ n ∈ keys g, n ∈ nm) : Gw g :=
  ⟨nd, ln, cl, by rw [← keys_len]; exact Nat.le_trans (nodup_len nd ks) hn, fun p hp => by rw [← keys_len]; exact Nat.le_trans (nodup_len (ln p hp) fun t ht => ks t (cl p hp t ht)) hn⟩
theorem GrOk.gg {d : Nat} {g : Gr} {nm : List Str} (h : GrOk d g) (hn : nm.length ≤ 1000) (ks : ∀ n ∈ keys g, n ∈ nm) : GG nm g :=
  ⟨gw_of hn h.tp.facts.1 (fun p hp => (h.lk p hp).1) h.tp.facts.2 ks, h.ac, fun p hp => (h.lk p hp).2.2, ks⟩
section
variable {nm : List Str} (hn : nm.length ≤ 1000) {g : Gr} (G : GG nm g)
include hn G
theorem GG.shuf {g2 : Gr} (h : Shuf g g2) : GG nm g2 := by
  have S := h.same G.gw
  refine ⟨h.gw G.gw, fun n r => G.ac n (S.reach_iff.mpr r), fun p hp l hl => ?_, fun n m => G.ks n ((S.ks n).mpr m)⟩
  have hk : p.1 ∈ keys g := (S.ks _).mpr (List.mem_map.mpr ⟨p, hp, rfl⟩)
  exact G.kd _ (G.gw.at_key hk) l ((h.lk p hp).mem_iff.mp hl)
theorem GG.cut {r : List Str} (h : ∀ x ∈ keys g, x ∉ r → ∀ t, knd g x t ≠ none → t ∉ r) : GG nm (cutG r g) := by
  have hm : ∀ p ∈ cutG r g, p ∈ g ∧ p.1 ∉ r := fun p hp => by
    have := List.mem_filter.mp hp
    exact ⟨this.1, by simpa using this.2⟩
  have sub : ∀ n x, Reach (cutG r g) n x → Reach g n x := fun n x R => by
    have e : ∀ {n t}, knd (cutG r g) n t ≠ none → knd g n t ≠ none := fun {n t} e => by
      rw [knd_cut] at e
      split at e
      · exact absurd rfl e
      · exact e
    induction R with
    | one h => exact .one (e h)
    | more _ h ih => exact .more ih (e h)
  refine ⟨gw_of hn ?_ (fun p hp => G.gw.ln p (hm p hp).1) (fun p hp t ht => ?_) (fun n hn => G.ks n (keys_cut.mp hn).1), fun n R => G.ac n (sub n n R), fun p hp => G.kd p (hm p hp).1, fun n hn => G.ks n (keys_cut.mp hn).1⟩
  · exact G.gw.nd.sublist ((List.filter_sublist).map _)
  · obtain ⟨h1, h2⟩ := hm p hp
    have hk : knd g p.1 t ≠ none := knd_iff.mpr (by rw [G.gw.lks h1]; exact ht)
    exact keys_cut.mpr ⟨G.gw.cl p h1 t ht, h p.1 (List.mem_map.mpr ⟨p, h1, rfl⟩) h2 t hk⟩
theorem GG.put {n : Str} {lk : Lk} (hm : n ∈ nm) (hl : LkOk lk) (ht : ∀ t ∈ keys lk, t ∈ keys g) (hc : n ∉ keys g ∨ ∀ t ∈ keys lk, ¬ (t = n ∨ Reach g t n)) : GG nm (putL g n lk) := by
  have hp : ∀ p ∈ putL g n lk, p ∈ g ∨ p = (n, lk) := fun p hp => putL_mem hp
  have old : ∀ {x t}, x ≠ n → knd (putL g n lk) x t = knd g x t := fun {x t} e => by rw [knd_put, if_neg e]
  have new : ∀ {t}, knd (putL g n lk) n t = lk.lookup t := fun {t} => by rw [knd_put, if_pos rfl]
  have hcy : ∀ t ∈ keys lk, ¬ (t = n ∨ Reach g t n) := hc.elim (fun q t h z => z.elim (fun e => q (e ▸ ht t h)) fun R => q (G.gw.reach_key R)) id
  -- from another object: an old path, or one to n and on from n
  have A : ∀ x, x ≠ n → ∀ y, Reach (putL g n lk) x y → Reach g x y ∨ (Reach g x n ∧ Reach (putL g n lk) n y) := fun x hx y R => by
    induction R with
    | one e => rw [old hx] at e; exact .inl (.one e)
    | @more t u R e ih =>
      rcases ih with h | ⟨h1, h2⟩
      · by_cases q : t = n
        · subst q; exact .inr ⟨h, .one e⟩
        · rw [old q] at e; exact .inl (.more h e)
      · exact .inr ⟨h1, .more h2 e⟩
  have first : ∀ {x y}, Reach (putL g n lk) x y → ∃ t, knd (putL g n lk) x t ≠ none ∧ (y = t ∨ Reach (putL g n lk) t y) := fun {x y} R => by
    induction R with
    | one e => exact ⟨_, e, .inl rfl⟩
    | more _ e ih =>
      obtain ⟨t, h1, h2⟩ := ih
      refine ⟨t, h1, .inr ?_⟩
      rcases h2 with rfl | h2
      · exact .one e
      · exact .more h2 e
  -- from n: an old path behind a new link
  have B : ∀ y, Reach (putL g n lk) n y → ∃ t ∈ keys lk, y = t ∨ Reach g t y := fun y R => by
    obtain ⟨t, e, h⟩ := first R
    rw [new] at e
    have hk : t ∈ keys lk := Decidable.byContradiction fun q => e (lookup_no q)
    have hne : t ≠ n := fun z => hcy t hk (.inl z)
    refine ⟨t, hk, h.imp id fun R' => ?_⟩
    rcases A t hne y R' with z | ⟨z, _⟩
    · exact z
    · exact absurd (.inr z) (hcy t hk)
  refine ⟨gw_of hn ?_ (fun p h => ?_) (fun p h t hp' => ?_) ?_, fun x R => ?_, fun p h => ?_, ?_⟩
  · rw [keys_putL]
    split
    · exact G.gw.nd
    · rename_i q
      rw [List.nodup_append]
      refine ⟨G.gw.nd, by simp, fun a ha b hb e => ?_⟩
      rw [List.mem_singleton.mp hb] at e
      exact q (e ▸ ha)
  · rcases hp p h with h | rfl
    · exact G.gw.ln p h
    · exact hl.1
  · rw [keys_put]
    rcases hp p h with h | rfl
    · exact .inr (G.gw.cl p h t hp')
    · exact .inr (ht t hp')
  · intro x hx
    rcases keys_put.mp hx with rfl | hx
    · exact hm
    · exact G.ks x hx
  · by_cases q : x = n
    · subst q
      obtain ⟨t, hk, h⟩ := B x R
      exact hcy t hk (h.imp Eq.symm id)
    · rcases A x q x R with h | ⟨h1, h2⟩
      · exact G.ac x h
      · obtain ⟨t, hk, h⟩ := B x h2
        refine hcy t hk (.inr ?_)
        rcases h with rfl | h
        · exact h1
        · have tr : ∀ {a b c}, Reach g a b → Reach g b c → Reach g a c := fun {a b c} r1 r2 => by
            induction r2 with
            | one e => exact .more r1 e
            | more _ e ih => exact .more ih e
          exact tr h h1
  · rcases hp p h with h | rfl
    · exact G.kd p h
    · exact hl.2
  · intro x hx
    rcases keys_put.mp hx with rfl | hx
    · exact hm
    · exact G.ks x hx
theorem GG.relab {f : Str → Str} (hf : ∀ x, f (f x) = x) (hk : ∀ n ∈ keys g, f n ∈ nm) : GG nm (relab f g) := by
  have inj : ∀ {a b}, f a = f b → a = b := fun {a b} e => by rw [← hf a, e, hf]
  have nd : ∀ {ks : List Str}, ks.Nodup → (ks.map f).Nodup := fun {ks} h => List.pairwise_map.mpr (h.imp fun h e => h (inj e))
  have k1 : keys (Z.relab f g) = (keys g).map f := by unfold Z.relab keys; rw [List.map_map, List.map_map]; rfl
  have k2 : ∀ lk : Lk, keys (lk.map fun l => (f l.1, l.2)) = (keys lk).map f := fun lk => by unfold keys; rw [List.map_map, List.map_map]; rfl
  have ks : ∀ n ∈ keys (Z.relab f g), n ∈ nm := fun n h => by
    have := hk _ ((keys_relab hf).mp h)
    rwa [hf] at this
  refine ⟨gw_of hn (by rw [k1]; exact nd G.gw.nd) (fun p hp => ?_) (fun p hp t ht => ?_) ks, fun n R => ?_, fun p hp l hl => ?_, ks⟩
  · obtain ⟨q, hq, rfl⟩ := List.mem_map.mp hp
    rw [k2]
    exact nd (G.gw.ln q hq)
  · obtain ⟨q, hq, rfl⟩ := List.mem_map.mp hp
    rw [k2] at ht
    obtain ⟨u, hu, rfl⟩ := List.mem_map.mp ht
    rw [k1]
    exact List.mem_map.mpr ⟨u, G.gw.cl q hq u hu, rfl⟩
  · have back : ∀ {x y}, Reach (Z.relab f g) x y → Reach g (f x) (f y) := fun {x y} R => by
      induction R with
      | one e => rw [knd_relab hf] at e; exact .one e
      | more _ e ih => rw [knd_relab hf] at e; exact .more ih e
    exact G.ac _ (back R)
  · obtain ⟨q, hq, rfl⟩ := List.mem_map.mp hp
    obtain ⟨u, hu, rfl⟩ := List.mem_map.mp hl
    exact G.kd q hq u hu
theorem miss_none {lk : Lk} (h : miss g lk = none) : ∀ t ∈ keys lk, t ∈ keys g := fun t ht => by
  have := List.find?_eq_none.mp h t ht
  simpa using this
/-- a statement keeps it -/
theorem GG.step {st : Stm} (ok : StOk nm st) {w : Str} {d : D} {g' : Gr} (h : Sp g st w d g') : GG nm g' := by
  have stay : ∀ {w0 n : Str}, Stays g w0 n w d g' → GG nm g' := fun a => by obtain ⟨_, _, rfl⟩ := a; exact G
  cases st with
  | drop n =>
    rcases h with ⟨_, h⟩ | ⟨_, _, h⟩ | ⟨a, b, r, i, _, _, rfl⟩
    · exact stay h
    · exact stay h
    · refine G.cut hn fun x hx hxr t e htr => b x ⟨hx, fun z => hxr ((i.mem x).mpr z), t, e, (i.mem t).mp htr⟩
  | cascade n =>
    rcases h with ⟨_, h⟩ | ⟨a, r, i, _, _, rfl⟩
    · exact stay h
    · refine G.cut hn fun x hx hxr t e htr => hxr ((i.mem x).mpr (.inr ⟨hx, ?_⟩))
      rcases (i.mem t).mp htr with rfl | ⟨_, R⟩
      · exact .one e
      · have tr : ∀ {a b c}, Reach g a b → Reach g b c → Reach g a c := fun {a b c} r1 r2 => by
          induction r2 with
          | one e => exact .more r1 e
          | more _ e ih => exact .more ih e
        exact tr (.one e) R
  | create n lk =>
    rcases h with ⟨_, h⟩ | ⟨_, _, _, h⟩ | ⟨a, b, _, _, rfl⟩
    · exact stay h
    · exact stay h
    · exact G.put hn ok.1 ok.2.1 (miss_none hn G b) (.inl a)
  | redefine n lk =>
    rcases h with ⟨_, h⟩ | ⟨_, _, _, h⟩ | ⟨_, _, _, h⟩ | ⟨a, b, c, _, _, rfl⟩
    · exact stay h
    · exact stay h
    · exact stay h
    · exact G.put hn ok.1 ok.2.1 (miss_none hn G b) (.inr c)
  | rename a b =>
    rcases h with ⟨_, h⟩ | ⟨_, _, h⟩ | ⟨_, _, _, _, rfl⟩
    · exact stay h
    · exact stay h
    · refine G.relab hn (swp_swp a b) fun n h => ?_
      unfold swp
      split
      · exact ok.2
      · split
        · exact ok.1
        · exact G.ks n h
  | swap a b =>
    rcases h with ⟨_, h⟩ | ⟨_, _, h⟩ | ⟨_, _, _, _, rfl⟩
    · exact stay h
    · exact stay h
    · refine G.relab hn (swp_swp a b) fun n h => ?_
      unfold swp
      split
      · exact ok.2
      · split
        · exact ok.1
        · exact G.ks n h
end
end Z

/-! tools for the walks of statements -/
namespace Z
open PySem L2
theorem dcL_fm {α β : Type} {us : List Nat} {tg : Tg} {t : M Bool} {mk mv : M T} {c : α → D} {f : β → D} (p : α → Bool) (g : α → Str × β) {s : S} : ∀ {xs : List α} {acc : List (Str × β)}, (∀ x ∈ xs, dcStep us tg t mk mv (c x) s = some (if p x = true then some (.inr (g x).1, f (g x).2) else none, s)) → acc.length + xs.length ≤ big →
    dcL us tg t mk mv (xs.map c) (acc.map fun p => (Sum.inr p.1, f p.2)) s = .ok (((xs.filter p).foldl (fun acc x => putL acc (g x).1 (g x).2) acc).map fun p => (Sum.inr p.1, f p.2)) s
  | [], acc, _, _ => rfl
  | x :: xs, acc, h, hb => by
    rw [List.map_cons, dcL_step (h x List.mem_cons_self) (by simp at hb ⊢; omega), List.filter_cons]
    by_cases q : p x = true
    · have hp := putL_len (l := acc) (a := (g x).1) (v := (g x).2)
      rw [if_pos q, if_pos q, List.foldl_cons]
      show dcL us tg t mk mv (xs.map c) (putL _ _ _) s = _
      rw [putL_map]
      exact dcL_fm p g (fun y hy => h y (List.mem_cons_of_mem _ hy)) (by simp at hb; omega)
    · rw [if_neg q, if_neg q]
      show dcL us tg t mk mv (xs.map c) (acc.map fun p => (Sum.inr p.1, f p.2)) s = _
      exact dcL_fm p g (fun y hy => h y (List.mem_cons_of_mem _ hy)) (by simp at hb; omega)
/-- unlike keys, no test -/
theorem dcL_new {α β : Type} {us : List Nat} {tg : Tg} {t : M Bool} {mk mv : M T} {c : α → D} {f : β → D} (g : α → Str × β) {s : S} {xs : List α} (h : ∀ x ∈ xs, dcStep us tg t mk mv (c x) s = some (some (.inr (g x).1, f (g x).2), s)) (hl : xs.length ≤ big) (hn : (xs.map fun x => (g x).1).Nodup) :
    dcL us tg t mk mv (xs.map c) [] s = .ok ((xs.map g).map fun p => (Sum.inr p.1, f p.2)) s := by
  have := dcL_mp (f := f) (acc := []) g h (by simpa using hl)
  rw [foldl_putL_new g (by simpa using hn)] at this
  simpa using this
theorem dcL_newF {α β : Type} {us : List Nat} {tg : Tg} {t : M Bool} {mk mv : M T} {c : α → D} {f : β → D} (p : α → Bool) (g : α → Str × β) {s : S} {xs : List α} (h : ∀ x ∈ xs, dcStep us tg t mk mv (c x) s = some (if p x = true then some (.inr (g x).1, f (g x).2) else none, s)) (hl : xs.length ≤ big) (hn : ((xs.filter p).map fun x => (g x).1).Nodup) :
    dcL us tg t mk mv (xs.map c) [] s = .ok (((xs.filter p).map g).map fun p => (Sum.inr p.1, f p.2)) s := by
  have := dcL_fm (f := f) (acc := []) p g h (by simpa using hl)
  rw [foldl_putL_new g (by simpa using hn)] at this
  simpa using this
/-- the table of a dict of texts -/
def tbl (tb : List (Str × Str)) (x : Str) : Str := (tb.lookup x).getD x
theorem gd_tbl {tb : List (Str × Str)} {x : Str} : ((tb.lookup x).map D.str).getD (.str x) = .str (tbl tb x) := by
  unfold tbl
  cases tb.lookup x <;> rfl
theorem tbl_fold {tb : List (Str × Str)} {x : Str} : (tb.lookup x).getD x = tbl tb x := by unfold tbl; rfl
theorem tbl_1 {a b x : Str} : tbl [(a, b)] x = if x = a then b else x := by
  unfold tbl
  rw [List.lookup_cons]
  by_cases h : x = a
  · subst h; simp
  · have : (x == a) = false := by simpa using h
    rw [this]; simp [h]
theorem tbl_2 {a b x : Str} : tbl (putL [(a, b)] b a) x = swp a b x := by
  unfold tbl swp
  rw [lookup_put, List.lookup_cons]
  by_cases h : x = b
  · subst h
    by_cases h2 : x = a
    · subst h2; simp
    · simp [h2]
  · by_cases h2 : x = a
    · subst h2; simp [h]
    · have : (x == a) = false := by simpa using h2
      simp [h, h2, this]
theorem relab_congr {f f2 : Str → Str} {g : Gr} (G : Gw g) (h : ∀ x ∈ keys g, f x = f2 x) : relab f g = relab f2 g := by
  unfold relab
  refine List.map_congr_left fun p hp => ?_
  rw [h p.1 (List.mem_map.mpr ⟨p, hp, rfl⟩)]
  congr 1
  exact List.map_congr_left fun l hl => by rw [h l.1 (G.cl p hp l.1 (List.mem_map.mpr ⟨l, hl, rfl⟩))]
theorem ks_1 {a b : Str} {s : S} : dsK1 s (keysOf [D.str a, D.str b]) = .ok (eD D.str [(a, b)], 1) s := rfl
theorem ks_2 {a b : Str} {s : S} : dsK1 s (keysOf [D.str a, D.str b, D.str b, D.str a]) = .ok (eD D.str (putL [(a, b)] b a), 1) s := by
  show R.ok (D.dct (mergeD [] [(Sum.inr a, D.str b), (Sum.inr b, D.str a)]), 1) s = _
  have := putL_map (f := D.str) (l := [(a, b)]) (a := b) (v := a)
  show R.ok (D.dct (putL [(Sum.inr a, D.str b)] (Sum.inr b) (D.str a)), 1) s = _
  rw [show [((Sum.inr a : Key), D.str b)] = [(a, b)].map fun p => (Sum.inr p.1, D.str p.2) from rfl, this]
  rfl
theorem its_lksT {lk : Lk} : itsOf (lksT lk) = some (lk.map prD) := rfl
def forK (tg : Tg) (body : M Fl) (ds : List D) : R Fl → R Fl
  | .ok .nx s => forL tg body ds s
  | .ok .ct s => forL tg body ds s
  | .ok .bk s => .ok .nx s
  | r => r
theorem forL_one {tg : Tg} {body : M Fl} {d : D} {ds : List D} {s s1 : S} {r : R Fl} (h : tg.set d s = some s1) (e : body s1 = r) : forL tg body (d :: ds) s = forK tg body ds r := by
  subst e
  simp only [forL, h]
  cases body s1 with
  | ok f s => cases f <;> rfl
  | _ => rfl
theorem nd_map {f : Str → Str} {ks : List Str} (h : ks.Nodup) (inj : ∀ a ∈ ks, ∀ b ∈ ks, f a = f b → a = b) : (ks.map f).Nodup :=
  List.pairwise_map.mpr (h.imp_of_mem fun ha hb hne e => hne (inj _ ha _ hb e))
end Z

/-! words that are unlike -/
namespace Z
open PySem L2
@[simp] theorem wne_1 : ¬ ("create" : Str) = "drop" := by decide +kernel
@[simp] theorem wne_2 : ¬ ("create" : Str) = "cascade" := by decide +kernel
@[simp] theorem wne_3 : ¬ ("create" : Str) = "rename" := by decide +kernel
@[simp] theorem wne_4 : ¬ ("create" : Str) = "redefine" := by decide +kernel
@[simp] theorem wne_5 : ¬ ("create" : Str) = "swap" := by decide +kernel
@[simp] theorem wne_6 : ¬ ("drop" : Str) = "create" := by decide +kernel
@[simp] theorem wne_7 : ¬ ("drop" : Str) = "cascade" := by decide +kernel
@[simp] theorem wne_8 : ¬ ("drop" : Str) = "rename" := by decide +kernel
@[simp] theorem wne_9 : ¬ ("drop" : Str) = "redefine" := by decide +kernel
@[simp] theorem wne_10 : ¬ ("drop" : Str) = "swap" := by decide +kernel
@[simp] theorem wne_11 : ¬ ("cascade" : Str) = "create" := by decide +kernel
@[simp] theorem wne_12 : ¬ ("cascade" : Str) = "drop" := by decide +kernel
@[simp] theorem wne_13 : ¬ ("cascade" : Str) = "rename" := by decide +kernel
@[simp] theorem wne_14 : ¬ ("cascade" : Str) = "redefine" := by decide +kernel
@[simp] theorem wne_15 : ¬ ("cascade" : Str) = "swap" := by decide +kernel
@[simp] theorem wne_16 : ¬ ("rename" : Str) = "create" := by decide +kernel
@[simp] theorem wne_17 : ¬ ("rename" : Str) = "drop" := by decide +kernel
@[simp] theorem wne_18 : ¬ ("rename" : Str) = "cascade" := by decide +kernel
@[simp] theorem wne_19 : ¬ ("rename" : Str) = "redefine" := by decide +kernel
@[simp] theorem wne_20 : ¬ ("rename" : Str) = "swap" := by decide +kernel
@[simp] theorem wne_21 : ¬ ("redefine" : Str) = "create" := by decide +kernel
@[simp] theorem wne_22 : ¬ ("redefine" : Str) = "drop" := by decide +kernel
@[simp] theorem wne_23 : ¬ ("redefine" : Str) = "cascade" := by decide +kernel
@[simp] theorem wne_24 : ¬ ("redefine" : Str) = "rename" := by decide +kernel
@[simp] theorem wne_25 : ¬ ("redefine" : Str) = "swap" := by decide +kernel
@[simp] theorem wne_26 : ¬ ("swap" : Str) = "create" := by decide +kernel
@[simp] theorem wne_27 : ¬ ("swap" : Str) = "drop" := by decide +kernel
@[simp] theorem wne_28 : ¬ ("swap" : Str) = "cascade" := by decide +kernel
@[simp] theorem wne_29 : ¬ ("swap" : Str) = "rename" := by decide +kernel
@[simp] theorem wne_30 : ¬ ("swap" : Str) = "redefine" := by decide +kernel
@[simp] theorem wne_31 : ¬ ("done" : Str) = "taken" := by decide +kernel
@[simp] theorem wne_32 : ¬ ("done" : Str) = "missing" := by decide +kernel
@[simp] theorem wne_33 : ¬ ("done" : Str) = "blocked" := by decide +kernel
@[simp] theorem wne_34 : ¬ ("done" : Str) = "cycle" := by decide +kernel
@[simp] theorem wne_35 : ¬ ("taken" : Str) = "done" := by decide +kernel
@[simp] theorem wne_36 : ¬ ("taken" : Str) = "missing" := by decide +kernel
@[simp] theorem wne_37 : ¬ ("taken" : Str) = "blocked" := by decide +kernel
@[simp] theorem wne_38 : ¬ ("taken" : Str) = "cycle" := by decide +kernel
@[simp] theorem wne_39 : ¬ ("missing" : Str) = "done" := by decide +kernel
@[simp] theorem wne_40 : ¬ ("missing" : Str) = "taken" := by decide +kernel
@[simp] theorem wne_41 : ¬ ("missing" : Str) = "blocked" := by decide +kernel
@[simp] theorem wne_42 : ¬ ("missing" : Str) = "cycle" := by decide +kernel
@[simp] theorem wne_43 : ¬ ("blocked" : Str) = "done" := by decide +kernel
@[simp] theorem wne_44 : ¬ ("blocked" : Str) = "taken" := by decide +kernel
@[simp] theorem wne_45 : ¬ ("blocked" : Str) = "missing" := by decide +kernel
@[simp] theorem wne_46 : ¬ ("blocked" : Str) = "cycle" := by decide +kernel
@[simp] theorem wne_47 : ¬ ("cycle" : Str) = "done" := by decide +kernel
@[simp] theorem wne_48 : ¬ ("cycle" : Str) = "taken" := by decide +kernel
@[simp] theorem wne_49 : ¬ ("cycle" : Str) = "missing" := by decide +kernel
@[simp] theorem wne_50 : ¬ ("cycle" : Str) = "blocked" := by decide +kernel
@[simp] theorem wne_51 : ¬ ("create" : Str) = "graph" := by decide +kernel
@[simp] theorem wne_52 : ¬ ("drop" : Str) = "graph" := by decide +kernel
@[simp] theorem wne_53 : ¬ ("cascade" : Str) = "graph" := by decide +kernel
@[simp] theorem wne_54 : ¬ ("rename" : Str) = "graph" := by decide +kernel
@[simp] theorem wne_55 : ¬ ("redefine" : Str) = "graph" := by decide +kernel
@[simp] theorem wne_56 : ¬ ("swap" : Str) = "graph" := by decide +kernel
@[simp] theorem wne_57 : ¬ ("rows" : Str) = "graph" := by decide +kernel
@[simp] theorem wbe_1 : (("create" : Str) == ("graph" : Str)) = false := by decide +kernel
@[simp] theorem wbe_2 : (("drop" : Str) == ("graph" : Str)) = false := by decide +kernel
@[simp] theorem wbe_3 : (("cascade" : Str) == ("graph" : Str)) = false := by decide +kernel
@[simp] theorem wbe_4 : (("rename" : Str) == ("graph" : Str)) = false := by decide +kernel
@[simp] theorem wbe_5 : (("redefine" : Str) == ("graph" : Str)) = false := by decide +kernel
@[simp] theorem wbe_6 : (("swap" : Str) == ("graph" : Str)) = false := by decide +kernel
@[simp] theorem wbe_7 : (("rows" : Str) == ("graph" : Str)) = false := by decide +kernel
@[simp] theorem fNe_nn {n m : Nat} : fNe [(.lst [], n), (.lst [], m)] = some (.bl false, 0) := fNe_of (b := true) (by decide)
theorem miss_all {g : Gr} {lk : Lk} (h : miss g lk = none) : ∀ t ∈ keys lk, t ∈ keys g := fun t ht => by
  have := List.find?_eq_none.mp h t ht
  simpa using this
end Z

/-! statements' ends can be compared -/
namespace Z
open PySem L2
section
variable {nm : List Str} {g : Gr} (G : GG nm g) (hs : ∀ n ∈ nm, asc n = true)
include G hs
theorem GG.gP_row {n : Str} (hn : n ∈ keys g) : gP 10 (rowD g n) := by
  refine (gP_tup (k := 9) (gP_cons (gP_str (hs n (G.ks n hn))) (gP_cons ?_ gP_nil))).mono (by decide)
  refine gP_tup (k := 8) (gP_map fun t ht => ?_)
  obtain ⟨k, e⟩ := lookup_key (mem_sortS.mp ht)
  have e2 : knd g n t = some k := e
  have hk : asc k = true := by
    rcases (show k = "needs" ∨ k = "part" from G.kd _ (G.gw.at_key hn) _ (lookup_some_mem e)) with e | e <;> rw [e] <;> decide +kernel
  have ht2 : t ∈ keys g := G.gw.to_key (n := n) (by rw [e2]; exact fun z => nomatch z)
  rw [e2]
  exact (gP_tup (k := 7) (gP_cons (gP_str hk) (gP_cons (gP_str (hs t (G.ks t ht2))) gP_nil))).mono (by decide)
theorem GG.rows_ne {n m : Nat} : fNe [(rowsD g, n), (rowsD g, m)] = some (.bl false, 0) := fNe_self (k := 10) (gP_map fun n hn => G.gP_row hs (mem_sortS.mp hn)) (by decide)
theorem Sp.cmp {st : Stm} (ok : StOk nm st) {w : Str} {d : D} {g' : Gr} (h : Sp g st w d g') : asc w = true ∧ gP 3 d := by
  have stay : ∀ {w0 n : Str}, asc w0 = true → n ∈ nm → Stays g w0 n w d g' → asc w = true ∧ gP 3 d := fun a b c => by
    obtain ⟨rfl, rfl, rfl⟩ := c
    exact ⟨a, gP_str (hs _ b)⟩
  have goes : ∀ {r : List Str}, (∀ x ∈ r, x ∈ keys g) → Goes g r w d g' → asc w = true ∧ gP 3 d := fun a c => by
    obtain ⟨rfl, rfl, rfl⟩ := c
    exact ⟨by decide +kernel, (gP_tup (k := 2) (gP_map fun x hx => gP_str (hs x (G.ks x (a x hx)))))⟩
  have made : ∀ {h : Gr}, Made h w d g' → asc w = true ∧ gP 3 d := fun c => by
    obtain ⟨rfl, rfl, rfl⟩ := c
    exact ⟨by decide +kernel, gP_non⟩
  have mi : ∀ {lk : Lk} {t : Str}, miss g lk = some t → t ∈ keys lk := fun h => List.mem_of_find?_eq_some h
  cases st with
  | drop n =>
    rcases h with ⟨_, h⟩ | ⟨_, _, h⟩ | ⟨a, _, r, i, h⟩
    · exact stay (by decide +kernel) ok h
    · exact stay (by decide +kernel) ok h
    · exact goes (fun x hx => G.gw.fall_key a ((i.mem x).mp hx)) h
  | cascade n =>
    rcases h with ⟨_, h⟩ | ⟨a, r, i, h⟩
    · exact stay (by decide +kernel) ok h
    · refine goes (fun x hx => ?_) h
      rcases (i.mem x).mp hx with rfl | hx
      · exact a
      · exact hx.1
  | create n lk =>
    rcases h with ⟨_, h⟩ | ⟨_, t, e, h⟩ | ⟨_, _, h⟩
    · exact stay (by decide +kernel) ok.1 h
    · exact stay (by decide +kernel) (ok.2.2 t (mi e)) h
    · exact made h
  | redefine n lk =>
    rcases h with ⟨_, h⟩ | ⟨_, t, e, h⟩ | ⟨_, _, _, h⟩ | ⟨_, _, _, h⟩
    · exact stay (by decide +kernel) ok.1 h
    · exact stay (by decide +kernel) (ok.2.2 t (mi e)) h
    · exact stay (by decide +kernel) ok.1 h
    · exact made h
  | rename a b =>
    rcases h with ⟨_, h⟩ | ⟨_, _, h⟩ | ⟨_, _, h⟩
    · exact stay (by decide +kernel) ok.1 h
    · exact stay (by decide +kernel) ok.2 h
    · exact made h
  | swap a b =>
    rcases h with ⟨_, h⟩ | ⟨_, _, h⟩ | ⟨_, _, h⟩
    · exact stay (by decide +kernel) ok.1 h
    · exact stay (by decide +kernel) ok.2 h
    · exact made h
theorem Sp.ne {st : Stm} (ok : StOk nm st) {w : Str} {d : D} {g' : Gr} (h : Sp g st w d g') {n m : Nat} : fNe [(.tup [.str w, d], n), (.tup [.str w, d], m)] = some (.bl false, 0) := by
  obtain ⟨a, b⟩ := Sp.cmp G hs ok h
  exact fNe_self (k := 3) (gP_cons (gP_str a) (gP_cons b gP_nil)) (by decide)
end
/-- what is refused changes nothing -/
theorem Sp.stay {g : Gr} {st : Stm} {w : Str} {d : D} {g' : Gr} (h : Sp g st w d g') (hw : w ≠ "done") : g' = g := by
  have made : ∀ {k : Gr}, Made k w d g' → g' = g := fun c => absurd c.1 hw
  have goes : ∀ {r : List Str}, Goes g r w d g' → g' = g := fun c => absurd c.1 hw
  cases st with
  | drop n => rcases h with ⟨_, h⟩ | ⟨_, _, h⟩ | ⟨_, _, _, _, h⟩ <;> first | exact h.2.2 | exact goes h
  | cascade n => rcases h with ⟨_, h⟩ | ⟨_, _, _, h⟩ <;> first | exact h.2.2 | exact goes h
  | create n lk => rcases h with ⟨_, h⟩ | ⟨_, _, _, h⟩ | ⟨_, _, h⟩ <;> first | exact made h | exact h.2.2
  | redefine n lk => rcases h with ⟨_, h⟩ | ⟨_, _, _, h⟩ | ⟨_, _, _, h⟩ | ⟨_, _, _, h⟩ <;> first | exact made h | exact h.2.2
  | rename a b => rcases h with ⟨_, h⟩ | ⟨_, _, h⟩ | ⟨_, _, h⟩ <;> first | exact made h | exact h.2.2
  | swap a b => rcases h with ⟨_, h⟩ | ⟨_, _, h⟩ | ⟨_, _, h⟩ <;> first | exact made h | exact h.2.2
/-- a create that is done returns nothing -/
theorem Sp.non {g : Gr} {n : Str} {lk : Lk} {w : Str} {d : D} {g' : Gr} (h : Sp g (.create n lk) w d g') (hw : w = "done") : d = .non := by
  subst hw
  rcases h with ⟨_, h⟩ | ⟨_, _, _, h⟩ | ⟨_, _, h⟩
  · exact absurd h.1 (by decide +kernel)
  · exact absurd h.1 (by decide +kernel)
  · exact h.2.1
end Z

/-! what an object leads to -/
namespace Z
open PySem L2
@[simp] theorem fIn_st {a : Str} {ss : List Str} {n m : Nat} : fIn [(.str a, n), (.tup (ss.map D.str), m)] = some (.bl (decide (a ∈ ss)), 0) := fIn_of (inQ_strs a ss)
@[simp] theorem fNotIn_st {a : Str} {ss : List Str} {n m : Nat} : fNotIn [(.str a, n), (.tup (ss.map D.str), m)] = some (.bl (!decide (a ∈ ss)), 0) := fNotIn_of (inQ_strs a ss)
/-- along links of some kinds through unknown objects -/
inductive Mid (g : Gr) (ns ks : List Str) (n : Str) : Str → Prop
  | one : Mid g ns ks n n
  | more {u v k : Str} (r : Mid g ns ks n u) (h : knd g u v = some k) (hk : k ∈ ks) (hv : v ∉ ns) : Mid g ns ks n v
def End (g : Gr) (ns ks : List Str) (n t : Str) : Prop := t ∈ ns ∧ ∃ u k, Mid g ns ks n u ∧ knd g u t = some k ∧ k ∈ ks
theorem Same.mid {g g2 : Gr} (h : Same g g2) {ns ks : List Str} {n x : Str} (r : Mid g ns ks n x) : Mid g2 ns ks n x := by
  induction r with
  | one => exact .one
  | more _ e hk hv ih => exact .more ih (by rw [← h.kd]; exact e) hk hv
theorem Same.end' {g g2 : Gr} (h : Same g g2) {ns ks : List Str} {n x : Str} (r : End g ns ks n x) : End g2 ns ks n x := by
  obtain ⟨h1, u, k, m, e, hk⟩ := r
  exact ⟨h1, u, k, h.mid m, by rw [← h.kd]; exact e, hk⟩
theorem Same.end_iff {g g2 : Gr} (h : Same g g2) {ns ks : List Str} {n x : Str} : End g ns ks n x ↔ End g2 ns ks n x := ⟨h.end', h.symm.end'⟩
theorem Gw.mid_key {g : Gr} (G : Gw g) {ns ks : List Str} {n x : Str} (hn : n ∈ keys g) (r : Mid g ns ks n x) : x ∈ keys g := by
  cases r with
  | one => exact hn
  | more _ e _ _ => exact G.to_key (by rw [e]; exact fun z => nomatch z)
theorem Gw.end_key {g : Gr} (G : Gw g) {ns ks : List Str} {n x : Str} (r : End g ns ks n x) : x ∈ keys g := by
  obtain ⟨h1, u, k, m, e, hk⟩ := r
  exact G.to_key (by rw [e]; exact fun z => nomatch z)
/-- the step at a link -/
structure KS where
  F : List Str
  M : List Str
  W : List Str
def insF (F : List Str) (t : Str) : List Str := if t ∈ F then F else F ++ [t]
theorem mem_insF {F : List Str} {t x : Str} : x ∈ insF F t ↔ x ∈ F ∨ x = t := by
  unfold insF
  split
  · rename_i h
    exact ⟨.inl, fun z => z.elim id fun e => e ▸ h⟩
  · rw [List.mem_append, List.mem_singleton]
theorem insF_nd {F : List Str} {t : Str} (h : F.Nodup) : (insF F t).Nodup := by
  unfold insF
  split
  · exact h
  · rename_i q
    rw [List.nodup_append]
    refine ⟨h, by simp, fun a ha b hb e => ?_⟩
    rw [List.mem_singleton.mp hb] at e
    exact q (e ▸ ha)
theorem insF_len {F : List Str} {t : Str} : (insF F t).length ≤ F.length + 1 := by unfold insF; split <;> simp
theorem tr_ins {F : List Str} {t : Str} : putL (tr F) t true = tr (insF F t) := by
  unfold insF
  by_cases q : t ∈ F
  · rw [if_pos q]
    unfold putL
    have e : ((tr F).any fun p => decide (p.1 = t)) = true := List.any_eq_true.mpr ⟨(t, true), List.mem_map.mpr ⟨t, q, rfl⟩, by simp⟩
    rw [if_pos e]
    unfold tr
    rw [List.map_map]
    refine List.map_congr_left fun x _ => ?_
    simp only [Function.comp]
    split
    · rename_i h; simp
    · rfl
  · rw [if_neg q, tr_put q]
def stepK (ns ks : List Str) (S : KS) (l : Str × Str) : KS := if l.2 ∈ ks ∧ l.1 ∈ ns then ⟨insF S.F l.1, S.M, S.W⟩ else if l.2 ∈ ks ∧ l.1 ∉ S.M then ⟨S.F, S.M ++ [l.1], S.W ++ [l.1]⟩ else S
/-- while the links r of h are left -/
structure KI (g : Gr) (ns ks : List Str) (n : Str) (o : Option (Str × Lk)) (S : KS) (k : Nat) : Prop where
  fn : S.F.Nodup
  mn : S.M.Nodup
  mm : ∀ x ∈ S.M, Mid g ns ks n x ∧ x ∉ ns
  ww : ∀ x ∈ S.W, x = n ∨ x ∈ S.M
  fe : ∀ t ∈ S.F, End g ns ks n t
  cl : ∀ u, u = n ∨ u ∈ S.M → u ∈ S.W ∨ ∀ t q, knd g u t = some q → q ∈ ks → (∃ r, o = some (u, r) ∧ r.lookup t = some q) ∨ ((t ∈ ns → t ∈ S.F) ∧ (t ∉ ns → t ∈ S.M))
  hk : k + S.M.length = S.W.length + g.length
section
variable {g : Gr} (G : Gw g) {ns ks : List Str} {n h : Str} {S : KS} {k : Nat}
include G
theorem KI.mlen (hn : n ∈ keys g) {o : Option (Str × Lk)} (I : KI g ns ks n o S k) : S.M.length ≤ g.length := by
  rw [← keys_len]
  exact nodup_len I.mn fun x hx => G.mid_key hn (I.mm x hx).1
theorem KI.flen {o : Option (Str × Lk)} (I : KI g ns ks n o S k) : S.F.length ≤ g.length := by
  rw [← keys_len]
  exact nodup_len I.fn fun x hx => G.end_key (I.fe x hx)
theorem KI.start : KI g ns ks n none ⟨[], [], [n]⟩ (g.length + 1) :=
  ⟨List.nodup_nil, List.nodup_nil, (fun x h => nomatch h), fun x hx => .inl (List.mem_singleton.mp hx), (fun x h => nomatch h), fun u hu => .inl (List.mem_singleton.mpr (hu.elim id fun z => nomatch z)), by simp; omega⟩
theorem KI.pop {F M W : List Str} (I : KI g ns ks n none ⟨F, M, W ++ [h]⟩ (k + 1)) : KI g ns ks n (some (h, lks g h)) ⟨F, M, W⟩ k := by
  refine ⟨I.fn, I.mn, I.mm, fun x hx => I.ww x (List.mem_append_left _ hx), I.fe, fun u hu => ?_, ?_⟩
  · rcases I.cl u hu with z | z
    · rcases List.mem_append.mp z with z | z
      · exact .inl z
      · rw [List.mem_singleton.mp z]
        exact .inr fun t q e hq => .inl ⟨_, rfl, e⟩
    · refine .inr fun t q e hq => ?_
      rcases z t q e hq with ⟨r, z, _⟩ | z
      · cases z
      · exact .inr z
  · have := I.hk
    simp at this ⊢
    omega
theorem KI.here {F M W : List Str} (hn : n ∈ keys g) {o : Option (Str × Lk)} (I : KI g ns ks n o ⟨F, M, W ++ [h]⟩ k) : Mid g ns ks n h ∧ h ∈ keys g := by
  have : Mid g ns ks n h := (I.ww h (by simp)).elim (fun e => e ▸ .one) fun m => (I.mm h m).1
  exact ⟨this, G.mid_key hn this⟩
theorem KI.step {r : Lk} {l : Str × Str} (hm : Mid g ns ks n h) (hl : knd g h l.1 = some l.2) (hr : l.1 ∉ keys r) (I : KI g ns ks n (some (h, l :: r)) S k) : KI g ns ks n (some (h, r)) (stepK ns ks S l) k := by
  obtain ⟨t0, q0⟩ := l
  have lk : ∀ {u t q r'}, some (h, (t0, q0) :: r) = some (u, r') → r'.lookup t = some q → (u = h ∧ t = t0 ∧ q = q0) ∨ (u = h ∧ r.lookup t = some q) := fun {u t q r'} e e2 => by
    cases e
    rw [List.lookup_cons] at e2
    by_cases c : t = t0
    · subst c
      simp at e2
      exact .inl ⟨rfl, rfl, e2.symm⟩
    · have : (t == t0) = false := by simpa using c
      rw [this] at e2
      exact .inr ⟨rfl, e2⟩
  unfold stepK
  split
  · rename_i c
    refine ⟨insF_nd I.fn, I.mn, I.mm, I.ww, fun t ht => ?_, fun u hu => (I.cl u hu).imp id fun z t q e hq => ?_, I.hk⟩
    · rcases mem_insF.mp ht with ht | rfl
      · exact I.fe t ht
      · exact ⟨c.2, h, q0, hm, hl, c.1⟩
    · rcases z t q e hq with ⟨r', e1, e2⟩ | z
      · rcases lk e1 e2 with ⟨_, rfl, rfl⟩ | ⟨rfl, e3⟩
        · exact .inr ⟨fun _ => mem_insF.mpr (.inr rfl), fun z => absurd c.2 z⟩
        · exact .inl ⟨r, rfl, e3⟩
      · exact .inr ⟨fun m => mem_insF.mpr (.inl (z.1 m)), z.2⟩
  · rename_i c
    split
    · rename_i c2
      have hns : t0 ∉ ns := fun z => c ⟨c2.1, z⟩
      refine ⟨I.fn, ?_, fun x hx => ?_, fun x hx => ?_, I.fe, fun u hu => ?_, ?_⟩
      · rw [List.nodup_append]
        refine ⟨I.mn, by simp, fun a ha b hb e => ?_⟩
        rw [List.mem_singleton.mp hb] at e
        exact c2.2 (e ▸ ha)
      · rcases List.mem_append.mp hx with hx | hx
        · exact I.mm x hx
        · rw [List.mem_singleton.mp hx]
          exact ⟨.more hm hl c2.1 hns, hns⟩
      · rcases List.mem_append.mp hx with hx | hx
        · exact (I.ww x hx).imp id (List.mem_append_left _)
        · exact .inr (List.mem_append_right _ hx)
      · have hu2 : (u = n ∨ u ∈ S.M) ∨ u = t0 := by
          rcases hu with hu | hu
          · exact .inl (.inl hu)
          · rcases List.mem_append.mp hu with hu | hu
            · exact .inl (.inr hu)
            · exact .inr (List.mem_singleton.mp hu)
        rcases hu2 with hu2 | rfl
        · rcases I.cl u hu2 with z | z
          · exact .inl (List.mem_append_left _ z)
          · refine .inr fun t q e hq => ?_
            rcases z t q e hq with ⟨r', e1, e2⟩ | z
            · rcases lk e1 e2 with ⟨_, rfl, rfl⟩ | ⟨rfl, e3⟩
              · exact .inr ⟨fun z => absurd z hns, fun _ => List.mem_append_right _ (List.mem_singleton.mpr rfl)⟩
              · exact .inl ⟨r, rfl, e3⟩
            · exact .inr ⟨z.1, fun m => List.mem_append_left _ (z.2 m)⟩
        · exact .inl (List.mem_append_right _ (List.mem_singleton.mpr rfl))
      · have := I.hk
        simp only [List.length_append, List.length_cons, List.length_nil]
        omega
    · rename_i c2
      refine ⟨I.fn, I.mn, I.mm, I.ww, I.fe, fun u hu => (I.cl u hu).imp id fun z t q e hq => ?_, I.hk⟩
      rcases z t q e hq with ⟨r', e1, e2⟩ | z
      · rcases lk e1 e2 with ⟨_, rfl, rfl⟩ | ⟨rfl, e3⟩
        · exact .inr ⟨fun m => absurd ⟨hq, m⟩ c, fun _ => Decidable.byContradiction fun m => c2 ⟨hq, m⟩⟩
        · exact .inl ⟨r, rfl, e3⟩
      · exact .inr z
theorem KI.shut {o : Option Str} (I : KI g ns ks n (some (h, [])) S k) : KI g ns ks n none S k :=
  ⟨I.fn, I.mn, I.mm, I.ww, I.fe, fun u hu => (I.cl u hu).imp id fun z t q e hq => by
    rcases z t q e hq with ⟨r', e1, e2⟩ | z
    · cases e1; cases e2
    · exact .inr z, I.hk⟩
theorem KI.fin {F M : List Str} (I : KI g ns ks n none ⟨F, M, []⟩ k) (t : Str) : t ∈ F ↔ End g ns ks n t := by
  refine ⟨I.fe t, fun ⟨ht, u, q, m, e, hq⟩ => ?_⟩
  have cl : ∀ u, u = n ∨ u ∈ M → ∀ t q, knd g u t = some q → q ∈ ks → (t ∈ ns → t ∈ F) ∧ (t ∉ ns → t ∈ M) := fun u hu t q e hq => by
    rcases I.cl u hu with z | z
    · cases z
    · rcases z t q e hq with ⟨r, z, _⟩ | z
      · cases z
      · exact z
  have hu : u = n ∨ u ∈ M := by
    clear e ht
    induction m with
    | one => exact .inl rfl
    | more _ e2 hk hv ih => exact .inr ((cl _ ih _ _ e2 hk).2 hv)
  exact (cl u hu t q e hq).1 ht
end
/-! ### what is told of it -/
def AK : List Str := ["part", "needs"]
def PK : List Str := ["part"]
def Ld (g : Gr) (ns : List Str) (n : Str) (d : D) : Prop := ∃ ts ps : List Str, IsS (End g ns AK n) ts ∧ (∀ x, x ∈ ps ↔ End g ns PK n x) ∧ d = .tup (ts.map fun t => .tup [.str (if t ∈ ps then "part" else "needs"), .str t])
theorem Ld.eq {g g2 : Gr} {ns : List Str} {n n2 : Str} {d d2 : D} (h : Ld g ns n d) (k : Ld g2 ns n2 d2) (e : ∀ ks t, End g ns ks n t ↔ End g2 ns ks n2 t) : d = d2 := by
  obtain ⟨ts, ps, h1, h2, rfl⟩ := h
  obtain ⟨ts2, ps2, k1, k2, rfl⟩ := k
  have := h1.eq k1 (e AK)
  subst this
  congr 1
  refine List.map_congr_left fun t _ => ?_
  have : t ∈ ps ↔ t ∈ ps2 := (h2 t).trans ((e PK t).trans (k2 t).symm)
  by_cases q : t ∈ ps
  · rw [if_pos q, if_pos (this.mp q)]
  · rw [if_neg q, if_neg fun z => q (this.mpr z)]
theorem Ld.gP {g : Gr} (G : Gw g) {ns : List Str} {n : Str} {d : D} (h : Ld g ns n d) (hs : ∀ n ∈ ns, asc n = true) : ∃ xs, d = .tup xs ∧ ∀ x ∈ xs, gP 4 x := by
  obtain ⟨ts, ps, h1, h2, rfl⟩ := h
  refine ⟨_, rfl, gP_map fun t ht => ?_⟩
  have hk : asc (if t ∈ ps then ("part" : Str) else "needs") = true := by split <;> decide +kernel
  exact (gP_tup (k := 3) (gP_cons (gP_str hk) (gP_cons (gP_str (hs t ((h1.mem t).mp ht).1)) gP_nil)))
theorem Ld.ne {g : Gr} (G : Gw g) {ns : List Str} {n : Str} {d : D} (h : Ld g ns n d) (hs : ∀ n ∈ ns, asc n = true) {a b : Nat} : fNe [(d, a), (d, b)] = some (.bl false, 0) := by
  obtain ⟨xs, rfl, h1⟩ := h.gP G hs
  exact fNe_self h1 (by decide)
/-! ### statements over known names -/
theorem Mid.put {g : Gr} {ns ks : List Str} {a n x : Str} {lk : Lk} (ha : a ∈ ns) (hn : n ≠ a) (r : Mid g ns ks n x) : Mid (putL g a lk) ns ks n x ∧ x ≠ a := by
  induction r with
  | one => exact ⟨.one, hn⟩
  | more r e hk hv ih => exact ⟨.more ih.1 (by rw [knd_put, if_neg ih.2]; exact e) hk hv, fun z => hv (z ▸ ha)⟩
theorem Mid.put' {g : Gr} {ns ks : List Str} {a n x : Str} {lk : Lk} (ha : a ∈ ns) (hn : n ≠ a) (r : Mid (putL g a lk) ns ks n x) : Mid g ns ks n x ∧ x ≠ a := by
  induction r with
  | one => exact ⟨.one, hn⟩
  | more r e hk hv ih => exact ⟨.more ih.1 (by rw [knd_put, if_neg ih.2] at e; exact e) hk hv, fun z => hv (z ▸ ha)⟩
theorem End.put {g : Gr} {ns ks : List Str} {a n x : Str} {lk : Lk} (ha : a ∈ ns) (hn : n ≠ a) : End (putL g a lk) ns ks n x ↔ End g ns ks n x := by
  constructor
  · rintro ⟨h, u, k, m, e, hk⟩
    obtain ⟨m1, m2⟩ := m.put' ha hn
    exact ⟨h, u, k, m1, by rw [knd_put, if_neg m2] at e; exact e, hk⟩
  · rintro ⟨h, u, k, m, e, hk⟩
    obtain ⟨m1, m2⟩ := m.put (lk := lk) ha hn
    exact ⟨h, u, k, m1, by rw [knd_put, if_neg m2]; exact e, hk⟩
theorem End.new {g : Gr} {ns ks : List Str} {a x : Str} {lk : Lk} (ht : ∀ t ∈ keys lk, t ∈ ns) : End (putL g a lk) ns ks a x ↔ ∃ k, lk.lookup x = some k ∧ k ∈ ks := by
  have hl : ∀ {t k}, lk.lookup t = some k → t ∈ ns := fun e => ht _ (List.mem_map.mpr ⟨_, lookup_some_mem e, rfl⟩)
  have hm : ∀ {u}, Mid (putL g a lk) ns ks a u → u = a := fun r => by
    induction r with
    | one => rfl
    | more r e hk hv ih => subst ih; rw [knd_put, if_pos rfl] at e; exact absurd (hl e) hv
  constructor
  · rintro ⟨h, u, k, m, e, hk⟩
    rw [hm m, knd_put, if_pos rfl] at e
    exact ⟨k, e, hk⟩
  · rintro ⟨k, e, hk⟩
    exact ⟨hl e, a, k, .one, by rw [knd_put, if_pos rfl]; exact e, hk⟩
theorem Ld.new {g : Gr} {ns : List Str} {a : Str} {lk : Lk} (ok : LkOk lk) (ht : ∀ t ∈ keys lk, t ∈ ns) : Ld (putL g a lk) ns a (.tup ((sortS (keys lk)).map fun t => .tup [.str ((lk.lookup t).getD ""), .str t])) := by
  refine ⟨sortS (keys lk), (keys lk).filter fun t => decide (lk.lookup t = some "part"), ⟨keys lk, rfl, ok.1, fun x => ?_⟩, fun x => ?_, ?_⟩
  · rw [End.new ht]
    constructor
    · intro hx
      obtain ⟨k, e⟩ := lookup_key hx
      refine ⟨k, e, ?_⟩
      rcases (show k = "needs" ∨ k = "part" from ok.2 _ (lookup_some_mem e)) with rfl | rfl <;> simp [AK]
    · rintro ⟨k, e, _⟩
      exact List.mem_map.mpr ⟨_, lookup_some_mem e, rfl⟩
  · rw [End.new ht, List.mem_filter, decide_eq_true_eq]
    constructor
    · rintro ⟨_, e⟩; exact ⟨"part", e, by simp [PK]⟩
    · rintro ⟨k, e, hk⟩
      have : k = "part" := by simpa [PK] using hk
      subst this
      exact ⟨List.mem_map.mpr ⟨_, lookup_some_mem e, rfl⟩, e⟩
  · congr 1
    refine List.map_congr_left fun t h => ?_
    have h := mem_sortS.mp h
    obtain ⟨k, e⟩ := lookup_key h
    rw [e]
    rcases (show k = "needs" ∨ k = "part" from ok.2 _ (lookup_some_mem e)) with rfl | rfl
    · rw [if_neg]
      · rfl
      · rw [List.mem_filter, decide_eq_true_eq, e]
        rintro ⟨_, z⟩
        exact absurd (Option.some.inj z) (by decide +kernel)
    · rw [if_pos (List.mem_filter.mpr ⟨h, by simpa using e⟩)]
      rfl
/-- what goes leaves nothing behind that led to it -/
theorem Sp.clo {nm : List Str} {g : Gr} (G : GG nm g) {st : Stm} {w : Str} {d : D} {g' : Gr} (hst : (∃ n, st = .drop n) ∨ ∃ n, st = .cascade n) (h : Sp g st w d g') : g' = g ∨ ∃ r, g' = cutG r g ∧ ∀ x ∈ keys g, x ∉ r → ∀ t, knd g x t ≠ none → t ∉ r := by
  rcases hst with ⟨n, rfl⟩ | ⟨n, rfl⟩
  · rcases h with ⟨_, h⟩ | ⟨_, _, h⟩ | ⟨a, b, r, i, h⟩
    · exact .inl h.2.2
    · exact .inl h.2.2
    · refine .inr ⟨r, h.2.2, fun x hx hr t ht m => b x ⟨hx, fun z => hr ((i.mem x).mpr z), t, ht, (i.mem t).mp m⟩⟩
  · rcases h with ⟨_, h⟩ | ⟨a, r, i, h⟩
    · exact .inl h.2.2
    · refine .inr ⟨r, h.2.2, fun x hx hr t ht m => hr ((i.mem x).mpr (.inr ⟨hx, ?_⟩))⟩
      rcases (i.mem t).mp m with rfl | z
      · exact .one ht
      · have R := z.2
        have tr : ∀ {u v}, knd g u v ≠ none → ∀ {y}, Reach g v y → Reach g u y := fun e y R => by
          induction R with
          | one h => exact .more (.one e) h
          | more _ h ih => exact .more ih h
        exact tr ht R
theorem cut_end {g : Gr} {r ns ks : List Str} (h : ∀ x ∈ keys g, x ∉ r → ∀ t, knd g x t ≠ none → t ∉ r) {n x : Str} (hn : n ∉ r) : End (cutG r g) ns ks n x ↔ End g ns ks n x := by
  have m1 : ∀ {u}, Mid (cutG r g) ns ks n u → Mid g ns ks n u ∧ u ∉ r := fun R => by
    induction R with
    | one => exact ⟨.one, hn⟩
    | @more u v k _ e hk hv ih =>
      rw [knd_cut, if_neg ih.2] at e
      have ne : knd g u v ≠ none := by rw [e]; exact fun z => nomatch z
      exact ⟨.more ih.1 e hk hv, h _ (knd_key ne) ih.2 _ ne⟩
  have m2 : ∀ {u}, Mid g ns ks n u → Mid (cutG r g) ns ks n u ∧ u ∉ r := fun R => by
    induction R with
    | one => exact ⟨.one, hn⟩
    | @more u v k _ e hk hv ih =>
      have ne : knd g u v ≠ none := by rw [e]; exact fun z => nomatch z
      exact ⟨.more ih.1 (by rw [knd_cut, if_neg ih.2]; exact e) hk hv, h _ (knd_key ne) ih.2 _ ne⟩
  constructor
  · rintro ⟨a, u, k, m, e, hk⟩
    obtain ⟨q1, q2⟩ := m1 m
    exact ⟨a, u, k, q1, by rw [knd_cut, if_neg q2] at e; exact e, hk⟩
  · rintro ⟨a, u, k, m, e, hk⟩
    obtain ⟨q1, q2⟩ := m2 m
    exact ⟨a, u, k, q1, by rw [knd_cut, if_neg q2]; exact e, hk⟩
/-- a statement over known names that is no renaming: what objects lead to -/
def flatSt : Stm → Prop
  | .rename _ _ => False
  | .swap _ _ => False
  | _ => True
theorem Sp.ends {nm ns : List Str} {g : Gr} (G : GG nm g) {st : Stm} {w : Str} {d : D} {g' : Gr} (ok : StOk ns st) (hf : flatSt st) (h : Sp g st w d g') :
    (∀ n ∈ keys g', n ∈ keys g ∧ ∀ ks t, End g' ns ks n t ↔ End g ns ks n t) ∨ ∃ a lk, (st = .create a lk ∨ st = .redefine a lk) ∧ w = "done" ∧ g' = putL g a lk ∧ a ∈ ns ∧ LkOk lk ∧ (∀ t ∈ keys lk, t ∈ ns) := by
  have stay : g' = g → ∀ n ∈ keys g', n ∈ keys g ∧ ∀ ks t, End g' ns ks n t ↔ End g ns ks n t := fun e n hn => by subst e; exact ⟨hn, fun _ _ => .rfl⟩
  have cut : (g' = g ∨ ∃ r, g' = cutG r g ∧ ∀ x ∈ keys g, x ∉ r → ∀ t, knd g x t ≠ none → t ∉ r) → ∀ n ∈ keys g', n ∈ keys g ∧ ∀ ks t, End g' ns ks n t ↔ End g ns ks n t := fun e => by
    rcases e with e | ⟨r, rfl, c⟩
    · exact stay e
    · intro n hn
      obtain ⟨h1, h2⟩ := keys_cut.mp hn
      exact ⟨h1, fun ks t => cut_end c h2⟩
  cases st with
  | drop n => exact .inl (cut (Sp.clo G (.inl ⟨n, rfl⟩) h))
  | cascade n => exact .inl (cut (Sp.clo G (.inr ⟨n, rfl⟩) h))
  | create n lk =>
    rcases h with ⟨_, h⟩ | ⟨_, _, _, h⟩ | ⟨a, b, h⟩
    · exact .inl (stay h.2.2)
    · exact .inl (stay h.2.2)
    · exact .inr ⟨n, lk, .inl rfl, h.1, h.2.2, ok⟩
  | redefine n lk =>
    rcases h with ⟨_, h⟩ | ⟨_, _, _, h⟩ | ⟨_, _, _, h⟩ | ⟨a, b, c, h⟩
    · exact .inl (stay h.2.2)
    · exact .inl (stay h.2.2)
    · exact .inl (stay h.2.2)
    · exact .inr ⟨n, lk, .inr rfl, h.1, h.2.2, ok⟩
  | rename a b => exact hf.elim
  | swap a b => exact hf.elim
end Z

/-! own special methods: x in c, len(c), c[x], c[x] = v, c op d -/
namespace Z
open PySem L2
open PySem.Spec PyProof.Rows
def rotL {α : Type} : List α → List α
  | [] => []
  | a :: l => l ++ [a]
def isObj (Cn : Str) : D → Bool
  | .obj C _ => decide (C = Cn)
  | _ => false
def spR (fn : Fn) (Cn : Str) (post : D → Bool) (s : S) : List Tk → R T
  | tk :: tks => if isObj Cn tk.1.1 = true then (match callR fn (tk :: tks) [] s with
    | .ok t s2 => if post t.1 = true then .ok t s2 else .no
    | .ex x s2 => .ex x s2
    | .no => .no) else .no
  | [] => .no
/-- a special method: rot, if the receiver is evaluated behind the first of the others -/
def mSp (fn : Fn) (Cn : Str) (rot : Bool) (post : D → Bool) (as : List Ag) : M T := fun s => match eva as s with
  | .ok tks s1 => spR fn Cn post s1 (if rot = true then rotL tks else tks)
  | .ex x s1 => .ex x s1
  | .no => .no
def pBool : D → Bool
  | .bl _ => true
  | _ => false
def pLen : D → Bool
  | .int i => decide (0 ≤ i ∧ i < 1000000000)
  | _ => false
def pAny : D → Bool := fun _ => true
def PoV (post : D → Bool) (P : V → Prop) : Prop := ∀ (c : Zc) (Z H : Hp) (fp : List Addr) (v : V) (d : D) (n : Nat), post d = true → Tre c Z H fp v (d, n) → P v
theorem po_bool : PoV pBool fun v => ∃ b, v = .bl b := fun c Z H fp v d n h r => by
  cases d with
  | bl b => exact ⟨b, tre_bl r⟩
  | _ => cases h
theorem po_len : PoV pLen fun v => ∃ i, v = .int i ∧ 0 ≤ i ∧ i < 1000000000 := fun c Z H fp v d n h r => by
  cases d with
  | int i =>
    simp only [pLen, decide_eq_true_eq] at h
    exact ⟨i, tre_int r, h.1, h.2⟩
  | _ => cases h
theorem po_any : PoV pAny fun _ => True := fun _ _ _ _ _ _ _ _ _ => trivial
/-- what is asked at the values -/
def rSp (C : Addr) (sp : L2.Sp) (P : V → Prop) (W : WX) (rot : Bool) (σ : L2.St) (vs : List V) (H : Hp) (Q : VK) : Prop := ∃ a dx fs rest, (if rot = true then rotL vs else vs) = V.ref a :: rest ∧ H a = some (.ins C dx fs) ∧ sp (V.ref a :: rest) H (fun v H2 => P v ∧ Q v H2) (fun cls d H' => W cls d σ H')
section
variable {c : Zc} {L : Nat} {W : WX} {vc : Nat → Option V} {Z H Z' H' Z1 H1 : Hp} {σ : L2.St} {vx : List (Option V)} {st tx : S} {fp fp1 : List Addr}
theorem Wl.rot {v : V} {vs : List V} {t : T} {ts : List T} (w : Wl c L vc Z H σ (vx ++ (v :: vs).map some) st (tx ++ (t :: ts).map fun t => .ow t.1 t.2) fp) (hvc : ∀ j v, vc j = some v → L ≤ j ∧ vx[j - L]? = some (some v)) (hl : vs.length = ts.length) :
    ∃ fp', (∀ a ∈ fp', a ∈ fp) ∧ Wl c L vc Z H σ (vx ++ (vs ++ [v]).map some) st (tx ++ (ts ++ [t]).map fun t => .ow t.1 t.2) fp' := by
  have lr := w.lr
  rw [← List.append_assoc, ← List.append_assoc] at lr
  have hl' : (st ++ tx).length = (σ ++ vx).length := by
    have := lr.len
    simp only [List.length_append, List.length_map, List.length_cons] at this ⊢
    omega
  obtain ⟨g, f, e, h1, h2⟩ := LR.split hl' lr
  obtain ⟨fa, fb, e2, r1, r2⟩ := h2
  have nd := w.nd
  rw [e, e2] at nd
  have n1 := List.nodup_append.mp nd
  have n2 := List.nodup_append.mp n1.2.1
  refine ⟨g ++ (fb ++ fa), fun a ha => ?_, w.len, w.hst, fun j u q => ?_, w.sub, ?_, ?_, fun a ha => ?_⟩
  · rw [e, e2]
    rcases List.mem_append.mp ha with ha | ha
    · exact List.mem_append_left _ ha
    · exact List.mem_append_right _ ((List.mem_append.mp ha).elim (List.mem_append_right _) (List.mem_append_left _))
  · obtain ⟨z1, z2⟩ := hvc j u q
    exact ⟨z1, by rw [List.getElem?_append_left (List.getElem?_eq_some_iff.mp z2).1]; exact z2⟩
  · rw [← List.append_assoc, ← List.append_assoc, List.map_append, List.map_append]
    exact LR.append h1 (LR.append r2 (LR.one r1))
  · refine List.nodup_append.mpr ⟨n1.1, List.nodup_append.mpr ⟨n2.2.1, n2.1, fun a ha b hb z => n2.2.2 b hb a ha z.symm⟩, fun a ha b hb => n1.2.2 a ha b ?_⟩
    exact (List.mem_append.mp hb).elim (List.mem_append_right _) (List.mem_append_left _)
  · refine w.dj a ?_
    rw [e, e2]
    rcases List.mem_append.mp ha with ha | ha
    · exact List.mem_append_left _ ha
    · exact List.mem_append_right _ ((List.mem_append.mp ha).elim (List.mem_append_right _) (List.mem_append_left _))
theorem Paired.app {α β : Type} {R : α → β → Prop} {as as' : List α} {bs bs' : List β} (h : Paired R as bs) (k : Paired R as' bs') : Paired R (as ++ as') (bs ++ bs') := by
  induction h with
  | nil => exact k
  | cons a _ ih => exact .cons a ih
theorem sp_run {fn : Fn} {np : Nat} {Cn : Str} {C : Addr} {post : D → Bool} {P : V → Prop} {tks : List Tk} {s : S} {vs : List V} {Q : VK} (hC : c.cl Cn = some C) (hP : PoV post P) (hvc : ∀ j v, vc j = some v → L ≤ j ∧ vx[j - L]? = some (some v)) (hnp : tks.length = np) (hl : vs.length = tks.length)
    (pr : Paired (fun tk v => TkR (σ ++ vx) ((σ ++ vx).length - tx.length) tk v) tks vs) (w : Wl c L vc Z H σ (vx ++ vs.map some) s (tx ++ (tks.map (·.1)).map fun t => .ow t.1 t.2) fp)
    (h : PoE c L W vc Z H σ vx tx fp (spR fn Cn post s tks) Q) : ∃ a dx fs rest, vs = V.ref a :: rest ∧ H a = some (.ins C dx fs) ∧ spZ c np fn (V.ref a :: rest) H (fun v H2 => P v ∧ Q v H2) (fun cls d H' => W cls d σ H') := by
  match tks, vs, pr, hl with
  | [], _, _, _ => exact h.elim
  | tk :: tks, v :: vs, pr, hl =>
    simp only [spR] at h
    split at h
    · rename_i hi
      have lr := w.lr
      rw [← List.append_assoc, ← List.append_assoc] at lr
      have hl' : (s ++ tx).length = (σ ++ vx).length := by
        have := lr.len
        simp only [List.length_append, List.length_map, List.length_cons] at this hl ⊢
        omega
      have i1 : ((s ++ tx) ++ ((tk :: tks).map (·.1)).map fun t => Ce.ow t.1 t.2)[(s ++ tx).length]? = some (Ce.ow tk.1.1 tk.1.2) := by simp
      have i2 : ((σ ++ vx) ++ (v :: vs).map some)[(s ++ tx).length]? = some (some v) := by rw [hl']; simp
      obtain ⟨f, hf, v', e', r⟩ := LR.items lr _ _ _ i1 i2
      cases e'
      cases hd : tk.1.1 with
      | obj C' fs0 =>
        rw [hd] at hi r
        simp only [isObj, decide_eq_true_eq] at hi
        obtain ⟨A, a, dx, fs, e1, e2, e3, _, _⟩ := tre_obj (fp := f) w.sub ⟨f, fun _ h => h, r⟩
        subst e1
        rw [hi, hC] at e2
        cases e2
        refine ⟨a, dx, fs, vs, rfl, e3, ?_⟩
        have := call_run (np := np) (fn := fn) (ds := []) (dvs := []) (Q := fun v H2 => P v ∧ Q v H2) (W := W) hvc (by simpa using hnp) hl .nil pr w ?_
        · simpa using this
        · show PoE c L W vc Z H σ vx tx fp (callR fn (tk :: tks) [] s) _
          cases q : callR fn (tk :: tks) [] s with
          | no => simp only [q] at h; exact h
          | ex x s2 => simp only [q] at h; exact h
          | ok t s2 =>
            simp only [q] at h
            split at h
            · rename_i hp
              intro Z' H' v fp' st' w'
              exact ⟨hP c Z' H' fp' v t.1 t.2 hp (tre_of_push w'), h Z' H' v fp' st' w'⟩
            · exact h.elim
      | _ => rw [hd] at hi; cases hi
    · exact h.elim
theorem mSp_rd {fn : Fn} {np : Nat} {Cn : Str} {C : Addr} {rot : Bool} {post : D → Bool} {P : V → Prop} {as : List Ag} {Q : VK} (hC : c.cl Cn = some C) (hP : PoV post P) (hL : okA L as = true) (hnp : as.length = np) (h : rd c L W (mSp fn Cn rot post as) σ H Q) :
    tAs c L W as σ H fun vs H1 => rSp C (spZ c np fn) P W rot σ vs H1 Q := by
  obtain ⟨Z, vc, vx, st, tx, fp, w, h⟩ := h
  refine tAs_run w (okA_mem hL) ?_
  unfold mSp at h
  cases q : eva as st with
  | no => simp only [q] at h; exact h.elim
  | ex x s =>
    simp only [q] at h
    intro Z2 H2 fp2 cls dd s2 ⟨vy, ty, hl, w2⟩ x2
    obtain ⟨g, hg, w3⟩ := Wl.pops hl w2 w.hvc
    exact h Z2 H2 g cls dd (s2.trans (Stp.less hg)) w3 x2
  | ok tks s =>
    simp only [q] at h
    intro Z2 H2 vs fp2 s2 hl pr w2
    have hn := eva_len q
    cases rot with
    | false => exact sp_run hC hP w.hvc (hn.trans hnp) hl pr w2 (PoE.behind s2 h)
    | true =>
      match tks, vs, pr, hl with
      | [], _, _, _ => exact h.elim
      | tk :: tks, v :: vs, pr, hl =>
        obtain ⟨fp3, hs, w3⟩ := Wl.rot (t := tk.1) (ts := tks.map (·.1)) w2 w.hvc (by simpa using hl)
        have pr2 : Paired (fun tk v => TkR (σ ++ vx) ((σ ++ vx).length - tx.length) tk v) (tks ++ [tk]) (vs ++ [v]) := by
          cases pr with
          | cons a b => exact Paired.app b (.cons a .nil)
        have w4 : Wl c L vc Z2 H2 σ (vx ++ (vs ++ [v]).map some) s (tx ++ ((tks ++ [tk]).map (·.1)).map fun t => .ow t.1 t.2) fp3 := by simpa using w3
        exact sp_run hC hP w.hvc (by simpa [hnp] using hn) (by show (vs ++ [v]).length = (tks ++ [tk]).length; simpa using hl) pr2 w4 (PoE.behind (s2.trans (Stp.less hs)) h)
theorem rd.mono {m : M T} {Q Q' : VK} (h : rd c L W m σ H Q) (k : ∀ v H, Q v H → Q' v H) : rd c L W m σ H Q' := by
  obtain ⟨Z, vc, vx, st, tx, fp, w, h⟩ := h
  refine ⟨Z, vc, vx, st, tx, fp, w, ?_⟩
  cases q : m st with
  | no => rw [q] at h; exact h
  | ex x s => rw [q] at h; exact h
  | ok t s => rw [q] at h; exact fun Z' H' v fp' s1 w1 => k _ _ (h Z' H' v fp' s1 w1)
end
/-! ### the callee, also below a built-in -/
theorem Rg.in1 {k : Nat} {A : Around} (r : Rg (k + 1) A) : Rg k A.in1 := ⟨r.rm.in1, r.gd⟩
theorem run_gA {X : Cx} {W : WX} {k : Nat} {f : Addr} {fd : FuncData} {ps : List Str} {ds : List Value} {dvs : List V} {sp : L2.Sp} {pins : List (Addr × Obj)} {σ : L2.St} {H : Hp} {s : Shared} {Q : VK} {us : List Value} {vs : List V} {A : Around} (e0 : Env0 X.prog X.w X.K X.mg X.base A X.stack s H) (tk : Takes X W) (F0 : FnG X.prog X.w X.K X.mg X.base k f fd ps sp) (hr : Rg k A) (hb : Binds X.K fd ps ds) (hd : Vals dvs ds)
    (I : Inv X pins σ H s) (r : Vals vs us) (h : sp (vs ++ dvs) H Q (fun cls d H' => W cls d σ H')) : wpAny (model X.prog X.w) A (call (.ref f) us) (EP X pins σ Q) X.xe s := by
  have r2 : Vals (vs ++ dvs) (us ++ ds) := r.append hd
  have hl : (us ++ ds).length = ps.length := by rw [← r2.length]; exact F0.len _ _ _ _ h
  refine wpAny_call (codeAny_mono (F0.run A X.stack s H ⟨us, []⟩ (us ++ ds) (vs ++ dvs) Q (fun cls d H' => W cls d σ H') hr e0 (hb s us I.kIn hl) r2 h) fun r s' hq => ?_)
  match r, hq with
  | .error e, hq => exact passAt tk σ pins H s e s' I hq
  | .ok (.ret u), hq => exact I.after hq
/-- c[x] = v by an own method -/
theorem setItem_K {M : Model} {A : Around} {E : Value → Shared → Prop} {s : Shared} {K : PySem.W.Frag} {x C L f : Addr} {h₀ : Heap} {m : Str → Option Value} {ox : Obj} {od : Option Obj} {i v : Value} {Q : Unit → Shared → Prop} (F : PyProof.Rows.Fr h₀ L s.heap m) (X₀ : K.In h₀) (I : PySem.W.InstAt s.heap x ox C od) (hq : PySem.W.noSeq K C = true) (hs : PySem.W.findIn K (.ref C) "__setitem__" = some (some (.ref f))) (hf : PySem.W.isFn K (.ref f) = true)
    (h : wpAny M A (call (.ref f) [.ref x, i, v]) (fun _ s' => Q () s') E s) : wpAny M A (setItem (.ref x) i v) Q E s := by
  have X := X₀.keeps F.keep
  unfold setItem sequenceKey
  refine wpAny_holding (wpAny_bind (wpAny_bind (I.type.here ?_)))
  refine wpAny_bind ((PySem.W.anyM_none X hq).here ?_)
  rw [if_pos (show (!false) = true from rfl)]
  exact wpAny_pure (wpAny_bind (PySem.W.special_fn X I hs (beq_iff_eq.mp hf) (wpAny_mono h (fun _ _ z => wpAny_pure z) fun _ _ z => z)))
/-! ### operations that may raise at the slots -/
def OpS (X : Cx) (f : Value → Value → Sem Value) (r : L2.St → V → V → Hp → VK → Prop) : Prop :=
  ∀ (pins : List (Addr × Obj)) (s : Shared) (σ : L2.St) (H : Hp) (x y : V) (v u : Value) (Q : VK), Inv X pins σ H s → RelV x v → RelV y u → r σ x y H Q → wpAny (model X.prog X.w) X.A (f v u) (EP X pins σ Q) X.xe s
section
variable {X : Cx} {a b : Expr} {pos : Pos} {ta tb : TE} {r : L2.St → V → V → Hp → VK → Prop}
def tOpS (r : L2.St → V → V → Hp → VK → Prop) (ta tb : TE) : TE := fun σ H Q => ta σ H fun x H1 => tb σ H1 fun y H2 => r σ x y H2 Q
theorem pe_cmpS {op : CmpOp} (ho : OpS X (compareOp op) r) (ha : PE X a ta) (hb : PE X b tb) (hm : behindInMarks op b = false) : PE X (.Compare a [op] [b] pos) (tOpS r ta tb) := by
  refine ⟨fun pins s σ H Q I h => ?_⟩
  exact wpAny_Compare1 (binT ha hb I h fun v u s2 x y H2 I2 rx ry q => ho pins s2 σ H2 x y v u Q I2 rx ry q) hm
theorem pt_cmpS {op : CmpOp} (ho : OpS X (compareOp op) r) (ha : PE X a ta) (hb : PE X b tb) (hm : behindInMarks op b = false) : PT X (.Compare a [op] [b] pos) (fun σ H Q => tOpS r ta tb σ H fun x H' => ∃ k, x = .bl k ∧ Q k H') := by
  refine ⟨fun pins s σ H Q I h => ?_⟩
  refine wpAny_isTrue_Compare1 (thn (ha.run pins s σ H _ I h) fun v s1 ⟨x, H1, I1, r1, q1⟩ => thn (hb.run pins s1 σ H1 _ I1 q1) fun u s2 ⟨y, H2, I2, r2, q2⟩ =>
    thn (ho pins s2 σ H2 x y v u _ I2 r1 r2 q2) fun c s3 ⟨z, H3, I3, r3, k, e, q3⟩ => ?_) hm
  subst e
  cases r3
  exact wpAny_truthy_bool ⟨H3, I3, q3⟩
theorem pe_opS {op : Operator} (ho : OpS X (binaryOp op) r) (ha : PE X a ta) (hb : PE X b tb) : PE X (.BinOp a op b pos) (tOpS r ta tb) := by
  refine ⟨fun pins s σ H Q I h => ?_⟩
  exact wpAny_BinOp (binT ha hb I h fun v u s2 x y H2 I2 rx ry q => ho pins s2 σ H2 x y v u Q I2 rx ry q)
end
/-! ### the special methods -/
section
variable {X : Cx} {c : Zc} {L : Nat} {W : WX} {pos : Pos} {k j : Nat} {Cn m : Str} {ps : List Str} {fn : Fn} {dds : List (List D)} {C f : Addr} {fd : FuncData} {sp : L2.Sp} {P : V → Prop}
theorem two_ref {a : Addr} {x y : V} {rest : List V} {rot : Bool} (e : (if rot = true then rotL [x, y] else [x, y]) = V.ref a :: rest) : (rot = true ∧ y = .ref a ∧ rest = [x]) ∨ (rot = false ∧ x = .ref a ∧ rest = [y]) := by
  cases rot with
  | true =>
    have : [y, x] = V.ref a :: rest := e
    cases this
    exact .inl ⟨rfl, rfl, rfl⟩
  | false =>
    have : [x, y] = V.ref a :: rest := e
    cases this
    exact .inr ⟨rfl, rfl, rfl⟩
theorem opIn_own (tk : Takes X W) (F0 : FnG X.prog X.w X.K X.mg X.base k f fd ps sp) (hr : Rg k X.A) (hb : Binds X.K fd ps []) (hm : Meth X.K C "__contains__" f) : OpS X (compareOp .In) (fun σ x y H Q => rSp C sp (fun v => ∃ b, v = .bl b) W true σ [x, y] H Q) := by
  intro pins s σ H x y v u Q I rx ry ⟨a, dx, fs, rest, e, ea, q⟩
  rcases two_ref e with ⟨_, rfl, rfl⟩ | ⟨z, _⟩
  · cases (show u = Value.ref a from ry)
    obtain ⟨mA, O, _⟩ := ins_get I.hok ea
    obtain ⟨od, J, _⟩ := O.look
    obtain ⟨mf, hF⟩ := I.fr
    refine PySem.W.in_K hF I.ok.mod.kin J hm.at_ hm.fn (wpAny_mono (run_g (us := [.ref a, v]) (vs := [.ref a, x]) tk F0 hr hb .nil I (.cons rfl (.cons rx .nil)) q) (fun w s' z => ?_) fun _ _ x => x)
    obtain ⟨z', H', I', rz, ⟨b, rfl⟩, qz⟩ := z
    cases (show w = Value.bool b from rz)
    exact wpAny_truthy_bool ⟨.bl b, H', I', rfl, qz⟩
  · cases z
theorem nil_of {dvs : List V} (h : Paired (fun d v => ∀ Z, RF c Z d v) [] dvs) : dvs = [] := by cases h; rfl
theorem nil_of2 {ds : List Value} (h : Vals [] ds) : ds = [] := by cases h; rfl
theorem ze_inC {a b : Expr} {x y : Ag} (tk : Takes X W) (C0 : Cm X.prog X.w c X.mg X.base k Cn "__contains__" ps fn dds) (hr : Rg j X.A) (hkj : k ≤ j) (hd : [] ∈ dds) (ha : ZG X c L W a x) (hb : ZG X c L W b y) (hm : behindInMarks .In b = false) (hK : c.K = X.K := by rfl) (hnp : 2 = ps.length := by rfl) (hL : okA L [x, y] = true := by rfl) :
    ZE X c L W (.Compare a [.In] [b] pos) (mSp fn Cn true pBool [x, y]) := by
  obtain ⟨C, f, fd, h1, F0, hc, hm', h2⟩ := C0.ex
  obtain ⟨K0, cl0⟩ := c
  cases hK
  obtain ⟨ds, dvs, b1, b2, b3⟩ := h2 [] hd
  obtain rfl := nil_of b3
  obtain rfl := nil_of2 b2
  exact PE.imp (pe_cmpS (opIn_own tk F0 (hr.mono hkj) b1 hm') ha hb hm) fun σ H Q h => mSp_rd h1 po_bool hL hnp h
theorem zt_inC {a b : Expr} {x y : Ag} (tk : Takes X W) (C0 : Cm X.prog X.w c X.mg X.base k Cn "__contains__" ps fn dds) (hr : Rg j X.A) (hkj : k ≤ j) (hd : [] ∈ dds) (ha : ZG X c L W a x) (hb : ZG X c L W b y) (hm : behindInMarks .In b = false) (hK : c.K = X.K := by rfl) (hnp : 2 = ps.length := by rfl) (hL : okA L [x, y] = true := by rfl) :
    ZT X c L W (.Compare a [.In] [b] pos) (mB (mSp fn Cn true pBool [x, y])) := by
  obtain ⟨C, f, fd, h1, F0, hc, hm', h2⟩ := C0.ex
  obtain ⟨K0, cl0⟩ := c
  cases hK
  obtain ⟨ds, dvs, b1, b2, b3⟩ := h2 [] hd
  obtain rfl := nil_of b3
  obtain rfl := nil_of2 b2
  exact PT.imp (pt_cmpS (opIn_own tk F0 (hr.mono hkj) b1 hm') ha hb hm) fun σ H Q h => mSp_rd h1 po_bool hL hnp (mB_rd h)
/-- len(c) -/
theorem ze_lenC {e : Expr} {x : Ag} {p : Pos} (tk : Takes X W) (C0 : Cm X.prog X.w c X.mg X.base k Cn "__len__" ps fn dds) (hr : Rg j X.A) (hkj : k + 1 ≤ j) (hd : [] ∈ dds) (hml : X.mg "len" = none) (ha : ZG X c L W e x) (hK : c.K = X.K := by rfl) (hnp : 1 = ps.length := by rfl) (hL : okA L [x] = true := by rfl)
    (hg : Gl X "len" := by rfl) (he : starEach [e] X.env = [(false, eval e X.env)] := by rfl) : ZE X c L W (.Call (.Name "len" p) [e] [] pos) (mSp fn Cn false pLen [x]) := by
  obtain ⟨C, f, fd, h1, F0, hc, hm', h2⟩ := C0.ex
  obtain ⟨K0, cl0⟩ := c
  cases hK
  obtain ⟨ds, dvs, b1, b2, b3⟩ := h2 [] hd
  obtain rfl := nil_of b3
  obtain rfl := nil_of2 b2
  refine ⟨fun pins s σ H Q I h => ?_⟩
  refine wpAny_Call_Name_kw (ld_blt (u := .builtin "len") I hg hml rfl ?_ (by decide) (by decide))
  refine PyProof.Rows.callWith_builtin1 (thn (((zgs_cons ha zgs_nil he : ZGs X ⟨X.K, cl0⟩ L W [e] [x])).run pos pins s σ H _ I (mSp_rd (rot := false) h1 po_len hL hnp h)) fun us s1 ⟨vs, H1, I1, rv, a, dx, fs, rest, ev, ea, q⟩ => ?_) he rfl
  have ev : vs = V.ref a :: rest := ev
  subst ev
  have hlen := F0.len _ _ _ _ q
  have hrest : rest = [] := by
    rw [← hnp] at hlen
    simpa using hlen
  subst hrest
  obtain ⟨u, hus, ru⟩ := rv.one
  subst hus
  · cases (show u = Value.ref a from ru)
    obtain ⟨mA, O, _⟩ := ins_get I1.hok ea
    obtain ⟨od, J, _⟩ := O.look
    obtain ⟨mf, hF⟩ := I1.fr
    refine PySem.W.len_K hF I1.ok.mod.kin J hm'.at_ hm'.fn (wpAny_mono (run_gA (us := [.ref a]) (vs := [.ref a]) I1.env0.in1 tk F0 ((hr.mono hkj).in1) b1 .nil I1 (.cons rfl .nil) q) (fun w s' z => ?_) fun _ _ x => x)
    obtain ⟨z', H', I', rz, ⟨i, rfl, hi0, hi1⟩, qz⟩ := z
    obtain ⟨t, rfl⟩ := (show ∃ t, w = Value.int i t from rz)
    have h63 : i < 2 ^ 63 := by omega
    exact ⟨⟨hi0, h63⟩, .int i, H', I'.tok _, ⟨_, rfl⟩, qz⟩
/-- c[x] -/
theorem ze_getC {a b : Expr} {x y : Ag} (tk : Takes X W) (C0 : Cm X.prog X.w c X.mg X.base k Cn "__getitem__" ps fn dds) (hfn : ∀ C f, c.cl Cn = some C → PySem.W.findIn c.K (.ref C) "__getitem__" = some (some (.ref f)) → PySem.W.fnIn c.K f = true) (hr : Rg j X.A) (hkj : k + 1 ≤ j) (hd : [] ∈ dds) (ha : ZG X c L W a x) (hb : ZG X c L W b y) (hsl : ∀ o i, subscripted b true (.ref o) i = runValue (.builtin "lifetime.subscript" ⟨[.ref o, i], []⟩)) (hK : c.K = X.K := by rfl) (hnp : 2 = ps.length := by rfl) (hL : okA L [x, y] = true := by rfl) :
    ZE X c L W (.Subscript a b pos) (mSp fn Cn false pAny [x, y]) := by
  obtain ⟨C, f, fd, h1, F0, hc, hm', h2⟩ := C0.ex
  have hfn := hfn C f h1 hm'.at_
  obtain ⟨K0, cl0⟩ := c
  cases hK
  obtain ⟨ds, dvs, b1, b2, b3⟩ := h2 [] hd
  obtain rfl := nil_of b3
  obtain rfl := nil_of2 b2
  refine ⟨fun pins s σ H Q I h => ?_⟩
  refine Subscript_ (binT (R := fun x y H2 => rSp C _ (fun _ => True) W false σ [x, y] H2 Q) ha hb I (mSp_rd (rot := false) h1 po_any hL hnp h) fun v u s2 x y H2 I2 rx ry ⟨a, dx, fs, rest, e, ea, q⟩ => ?_)
  rcases two_ref e with ⟨z, _⟩ | ⟨_, rfl, rfl⟩
  · cases z
  · cases (show v = Value.ref a from rx)
    obtain ⟨mA, O, _⟩ := ins_get I2.hok ea
    obtain ⟨od, J, _⟩ := O.look
    obtain ⟨mf, hF⟩ := I2.fr
    refine PySem.W.sub_K hF I2.ok.mod.kin J hm'.at_ hfn hm'.fn (wpAny_mono (run_gA (us := [.ref a, u]) (vs := [.ref a, y]) I2.env0.in1 tk F0 ((hr.mono hkj).in1) b1 .nil I2 (.cons rfl (.cons ry .nil)) q) (fun w s' z => ?_) fun _ _ x => x) (hsl a u)
    obtain ⟨z', H', I', rz, _, qz⟩ := z
    exact ⟨z', H', I', rz, qz⟩
/-- c[x] = v -/
theorem zs_setC {a b e : Expr} {x y z : Ag} {pt : Pos} (tk : Takes X W) (C0 : Cm X.prog X.w c X.mg X.base k Cn "__setitem__" ps fn dds) (hq : ∀ C, c.cl Cn = some C → PySem.W.noSeq c.K C = true) (hr : Rg j X.A) (hkj : k ≤ j) (hd : [] ∈ dds) (he : ZG X c L W e z) (ha : ZG X c L W a x) (hb : ZG X c L W b y) (hK : c.K = X.K := by rfl) (hnp : 3 = ps.length := by rfl) (hL : okA L [z, x, y] = true := by rfl)
    (hsw : swapsWithSole [.Subscript a b pt] e pos.line X.env = pure false := by rfl) (hst : swappedStores [.Subscript a b pt] e X.env = pure none := by rfl) (h1 : (assignEach [.Subscript a b pt] X.env).map (·.2) = [assign (.Subscript a b pt) X.env] := by rfl)
    (hag : ∀ v, assign (.Subscript a b pt) X.env v = (do
      let ov ← holding [v] (eval a X.env)
      let iv ← holding [v, ov] (eval b X.env)
      standAt pt
      holding [v, ov, iv] (setItem ov iv v)
      release [v, ov, iv] []) := by intro _; rfl) :
    ZS X c L W (.Assign [.Subscript a b pt] e pos) (mExpr (mSp fn Cn true pAny [z, x, y])) := by
  obtain ⟨C, f, fd, hcl, F0, hc, hm', h2⟩ := C0.ex
  have hq := hq C hcl
  obtain ⟨K0, cl0⟩ := c
  cases hK
  obtain ⟨ds, dvs, b1, b2, b3⟩ := h2 [] hd
  obtain rfl := nil_of b3
  obtain rfl := nil_of2 b2
  have hg : PG X (.Subscript a b pt) (fun v σ H Q => tAg ⟨X.K, cl0⟩ L W x σ H fun o H1 => tAg ⟨X.K, cl0⟩ L W y σ H1 fun i H2 => rSp C (spZ ⟨X.K, cl0⟩ ps.length fn) (fun _ => True) W true σ [v, o, i] H2 fun _ H3 => Q σ H3) := by
    refine ⟨fun pins s σ H v u Q I r h => ?_⟩
    rw [hag]
    refine wpAny_bind (wpAny_holding (thn (ha.run pins s σ H _ I h) fun ov s1 ⟨x, H1, I1, r1, q1⟩ => ?_))
    refine wpAny_bind (wpAny_holding (thn (hb.run pins s1 σ H1 _ I1 q1) fun iv s2 ⟨y, H2, I2, r2, a, dx, fs, rest, e, ea, q2⟩ => ?_))
    have e : [x, y, v] = V.ref a :: rest := e
    cases e
    cases (show ov = Value.ref a from r1)
    obtain ⟨mA, O, _⟩ := ins_get I2.hok ea
    obtain ⟨od, J, _⟩ := O.look
    obtain ⟨mf, hF⟩ := I2.fr
    refine wpAny_bind (wpAny_standAt (wpAny_bind (wpAny_holding (setItem_K hF I2.ok.mod.kin J hq hm'.at_ hm'.fn (wpAny_mono (run_g (us := [.ref a, iv, u]) (vs := [.ref a, y, v]) tk F0 (hr.mono hkj) b1 .nil I2 (.cons rfl (.cons r2 (.cons r .nil))) q2) (fun w s' z => ?_) fun _ _ x => x)))))
    obtain ⟨z', H', I', rz, _, qz⟩ := z
    exact wpAny_release ⟨σ, H', I', qz⟩
  refine PS.imp (ps_asg (tg := .Subscript a b pt) he hg hsw hst h1) fun Ds σ H h => ?_
  have := mSp_rd (rot := true) hcl po_any hL hnp (mExpr_rd h)
  exact this
end
end Z

/-! special methods run by simp -/
namespace Z
open PySem L2
def poK (post : D → Bool) : R T → R T
  | .ok t s => if post t.1 = true then .ok t s else .no
  | .ex x s => .ex x s
  | .no => .no
@[simp] theorem poK_ok {post : D → Bool} {t : T} {s : S} : poK post (.ok t s) = if post t.1 = true then .ok t s else .no := rfl
@[simp] theorem poK_ex {post : D → Bool} {x : Ex} {s : S} : poK post (.ex x s) = .ex x s := rfl
def spK (fn : Fn) (Cn : Str) (rot : Bool) (post : D → Bool) : R (List Tk) → R T := thn1 fun tks s => spR fn Cn post s (if rot = true then rotL tks else tks)
@[simp] theorem spK_ok {fn : Fn} {Cn : Str} {rot : Bool} {post : D → Bool} {tks : List Tk} {s : S} : spK fn Cn rot post (.ok tks s) = spR fn Cn post s (if rot = true then rotL tks else tks) := rfl
@[simp] theorem spK_ex {fn : Fn} {Cn : Str} {rot : Bool} {post : D → Bool} {x : Ex} {s : S} : spK fn Cn rot post (.ex x s) = .ex x s := rfl
@[simp] theorem mSp_eq {fn : Fn} {Cn : Str} {rot : Bool} {post : D → Bool} {as : List Ag} {s : S} : mSp fn Cn rot post as s = spK fn Cn rot post (eva as s) := by
  unfold mSp spK
  cases eva as s <;> rfl
@[simp] theorem spR_cons {fn : Fn} {Cn : Str} {post : D → Bool} {s : S} {tk : Tk} {tks : List Tk} : spR fn Cn post s (tk :: tks) = if isObj Cn tk.1.1 = true then poK post (caK1 (tk :: tks) s (fn ((tk :: tks).map (·.1)))) else .no := by
  show (if _ then _ else _) = _
  split
  · have := callR_eq (fn := fn) (tks := tk :: tks) (ds := []) (s := s)
    rw [List.map_nil, List.append_nil] at this
    rw [this]
    cases caK1 (tk :: tks) s (fn ((tk :: tks).map (·.1))) <;> rfl
  · rfl
@[simp] theorem rotL_cons {α : Type} {a : α} {l : List α} : rotL (a :: l) = l ++ [a] := rfl
@[simp] theorem isObj_o {Cn C : Str} {fs : List (Str × D)} : isObj Cn (.obj C fs) = decide (C = Cn) := rfl
@[simp] theorem pBool_b {b : Bool} : pBool (.bl b) = true := rfl
@[simp] theorem pAny_t {d : D} : pAny d = true := rfl
theorem pLen_n {n : Nat} (h : n ≤ 1000) : pLen (.int (n : Int)) = true := by
  simp only [pLen, decide_eq_true_eq]
  omega
end Z

/-! graphs in order -/
namespace Z
open PySem L2
def sLk (g : Gr) (n : Str) : Lk := (sortS (keys (lks g n))).map fun t => (t, (knd g n t).getD "")
def sGr (g : Gr) : Gr := (sortS (keys g)).map fun n => (n, sLk g n)
theorem keys_mk {α : Type} {f : Str → α} {l : List Str} : keys (l.map fun x => (x, f x)) = l := by unfold keys; rw [List.map_map]; exact List.map_id' _
theorem lookup_mk {α : Type} {f : Str → α} : ∀ {l : List Str} {a : Str}, (l.map fun x => (x, f x)).lookup a = if a ∈ l then some (f a) else none
  | [], a => by simp
  | x :: l, a => by
    rw [List.map_cons, List.lookup_cons, lookup_mk]
    by_cases h : a = x
    · subst h; simp
    · have : (a == x) = false := by simpa using h
      rw [this]
      simp [h]
theorem keys_sLk {g : Gr} {n : Str} : keys (sLk g n) = sortS (keys (lks g n)) := keys_mk
theorem keys_sGr {g : Gr} : keys (sGr g) = sortS (keys g) := keys_mk
theorem rowD_s {g : Gr} {n : Str} : rowD g n = .tup [.str n, .tup ((sLk g n).map prD)] := by
  unfold rowD sLk
  rw [List.map_map]
  rfl
theorem sLk_look {g : Gr} {n t : Str} : (sLk g n).lookup t = knd g n t := by
  unfold sLk
  rw [lookup_mk]
  by_cases h : t ∈ keys (lks g n)
  · rw [if_pos (mem_sortS.mpr h)]
    have := knd_iff.mpr h
    cases e : knd g n t with
    | none => exact absurd e this
    | some k => rfl
  · rw [if_neg fun z => h (mem_sortS.mp z)]
    exact (Decidable.byContradiction fun z => h (knd_iff.mp fun e => z e.symm))
theorem sGr_same (g : Gr) : Same g (sGr g) := by
  refine ⟨fun n => by rw [keys_sGr, mem_sortS], fun n t => ?_⟩
  by_cases h : n ∈ keys g
  · have e : (sGr g).lookup n = some (sLk g n) := by unfold sGr; rw [lookup_mk, if_pos (mem_sortS.mpr h)]
    show _ = (((sGr g).lookup n).getD []).lookup t
    rw [e]
    exact sLk_look.symm
  · have h2 : n ∉ keys (sGr g) := fun z => h (mem_sortS.mp (keys_sGr ▸ z))
    unfold knd lks
    rw [lookup_no h, lookup_no h2]
theorem sGr_gw {g : Gr} (G : Gw g) : Gw (sGr g) := by
  refine ⟨by rw [keys_sGr]; exact sortS_nd G.nd, fun p hp => ?_, fun p hp t ht => ?_, by unfold sGr; rw [List.length_map, sortS_len, keys_len]; exact G.sz, fun p hp => ?_⟩
  · obtain ⟨n, _, rfl⟩ := List.mem_map.mp hp
    rw [show (n, sLk g n).2 = sLk g n from rfl, keys_sLk]
    exact sortS_nd (G.lks_nd n)
  · obtain ⟨n, _, rfl⟩ := List.mem_map.mp hp
    have ht : t ∈ keys (sLk g n) := ht
    rw [keys_sLk, mem_sortS] at ht
    rw [keys_sGr, mem_sortS]
    exact G.to_key (knd_iff.mpr ht)
  · obtain ⟨n, _, rfl⟩ := List.mem_map.mp hp
    show (sLk g n).length ≤ 1000
    unfold sLk
    rw [List.length_map, sortS_len, keys_len]
    exact G.lks_len n
theorem Same.len {g g2 : Gr} (G : Gw g) (G2 : Gw g2) (S : Same g g2) : g.length = g2.length := by
  have h1 := nodup_len G.nd fun x hx => (S.ks x).mp hx
  have h2 := nodup_len G2.nd fun x hx => (S.ks x).mpr hx
  rw [keys_len, keys_len] at h1 h2
  omega
theorem fEq_nil0 {n m : Nat} : fEq [(.lst [], n), (.lst [], m)] = some (.bl true, 0) := fEq_of (eqD_nil (k := 1) (xs := []) (fun _ h => nomatch h) (by decide))
theorem fNe_nil0 {n m : Nat} : fNe [(.lst [], n), (.lst [], m)] = some (.bl false, 0) := fNe_nil (k := 1) (xs := []) (fun _ h => nomatch h) (by decide)
theorem lcL_none {α : Type} {us : List Nat} {tg : Tg} {t : M Bool} {m : M T} {c : α → D} {s : S} {xs : List α} (h : ∀ x ∈ xs, lcStep us tg t m (c x) s = some (none, s)) (hb : xs.length ≤ big) : lcL us tg t m (xs.map c) [] s = .ok [] s := by
  have := lcL_fm (us := us) (tg := tg) (t := t) (m := m) (c := c) (fun _ => false) (fun _ => D.non) (s := s) (xs := xs) (acc := []) (by simpa using h) (by simpa using hb)
  rw [show xs.filter (fun _ => false) = [] from List.filter_eq_nil_iff.mpr (by simp)] at this
  simpa using this
end Z

/-! a, b, c = x, y, z -/
namespace Z
open PySem L2
def mPar3 (i j l : Nat) (a b c : M T) : M Fl := fun s => match evm [a, b, c] s with
  | .ok [t, u, w] s' => if i < s'.length ∧ j < s'.length ∧ l < s'.length then .ok .nx (((s'.set l (.ow w.1 w.2)).set j (.ow u.1 u.2)).set i (.ow t.1 t.2)) else .no
  | .ok _ _ => .no
  | .ex x s' => .ex x s'
  | .no => .no
section
variable {c : Zc} {L : Nat} {W : WX} {vc : Nat → Option V} {Z H Z' H' Z1 H1 : Hp} {σ : L2.St} {vx : List (Option V)} {st tx : S} {fp fp1 : List Addr}
theorem mPar3_rd {i j l : Nat} {a b e : M T} {D : Ends} (hi : i < L) (hj : j < L) (hl : l < L) (hij : i ≠ j) (hil : i ≠ l) (hjl : j ≠ l) (h : rdS c L W (mPar3 i j l a b e) D σ H) : tPar3 i j l (tMs c L W [a, b, e]) D σ H := by
  obtain ⟨Z, vc, vx, st, tx, fp, w, h⟩ := h
  refine tMs_run w ?_
  cases q : evm [a, b, e] st with
  | no => simp only [mPar3, q] at h; exact h
  | ex x s => simp only [mPar3, q] at h; exact fun Z2 H2 => h Z2 H2 σ
  | ok ts s =>
    have hl2 := evm_len q
    match ts, hl2, q with
    | [t, u, y], _, q =>
      simp only [mPar3, q] at h
      intro Z1 H1 vs fp1 s1 hlv w1
      match vs, hlv with
      | [v, x, z], _ =>
        split at h
        · rename_i k
          have w1' : Wl c L vc Z1 H1 σ (((vx ++ [some v]) ++ [some x]) ++ [some z]) s (((tx ++ [.ow t.1 t.2]) ++ [.ow u.1 u.2]) ++ [.ow y.1 y.2]) fp1 := by simpa using w1
          have hvc1 : ∀ j v', vc j = some v' → L ≤ j ∧ (vx ++ [some v])[j - L]? = some (some v') := fun j v' e => by
            obtain ⟨k1, k2⟩ := w.hvc j v' e
            exact ⟨k1, by rw [List.getElem?_append_left (List.getElem?_eq_some_iff.mp k2).1]; exact k2⟩
          have hvc2 : ∀ j v', vc j = some v' → L ≤ j ∧ ((vx ++ [some v]) ++ [some x])[j - L]? = some (some v') := fun j v' e => by
            obtain ⟨k1, k2⟩ := hvc1 j v' e
            exact ⟨k1, by rw [List.getElem?_append_left (List.getElem?_eq_some_iff.mp k2).1]; exact k2⟩
          obtain ⟨fp2, h2, w2⟩ := w1'.putTop hvc2 hl k.2.2
          obtain ⟨fp3, h3, w3⟩ := w2.putTop hvc1 hj (by rw [List.length_set]; exact k.2.1)
          obtain ⟨fp4, h4, w4⟩ := w3.putTop w.hvc hi (by rw [List.length_set, List.length_set]; exact k.1)
          have e1 : ((σ.set l (some z)).set j (some x)).set i (some v) = ((σ.set i (some v)).set j (some x)).set l (some z) := by
            rw [List.set_comm _ _ (Ne.symm hjl), List.set_comm _ _ (Ne.symm hil), List.set_comm _ _ (Ne.symm hij)]
          rw [e1] at w4
          exact ⟨v, x, z, rfl, h Z1 H1 _ fp4 (((s1.trans (Stp.less h2)).trans (Stp.less h3)).trans (Stp.less h4)) w4⟩
        · exact h.elim
end
section
variable {X : Cx} {c : Zc} {L : Nat} {W : WX} {pos : Pos}
theorem zs_par3 {i j l : Nat} {x y z : Str} {a b d : Expr} {ma mb md : M T} {px py pz pt pt2 : Pos} {kt k2} (hc : X.calm = true) (hN : X.N.Nodup) (hi : X.N[i]? = some x) (hj : X.N[j]? = some y) (hl : X.N[l]? = some z) (hij : i ≠ j) (hil : i ≠ l) (hjl : j ≠ l) (hx : X.env.scope.names.lookup x = some .local) (hy : X.env.scope.names.lookup y = some .local) (hz : X.env.scope.names.lookup z = some .local) (ha : ZA X c L W [a, b, d] [ma, mb, md])
    (hw : swappedStores [.Tuple [.Name x px, .Name y py, .Name z pz] kt pt] (.Tuple [a, b, d] k2 pt2) X.env = pure (some [x, y, z]) := by first | rfl | kernel_rfl) (hs : swapsWithSole [.Tuple [.Name x px, .Name y py, .Name z pz] kt pt] (.Tuple [a, b, d] k2 pt2) pos.line X.env = pure false := by first | rfl | kernel_rfl) (hiL : i < L := by decide) (hjL : j < L := by decide) (hlL : l < L := by decide) :
    ZS X c L W (.Assign [.Tuple [.Name x px, .Name y py, .Name z pz] kt pt] (.Tuple [a, b, d] k2 pt2) pos) (mPar3 i j l ma mb md) :=
  PS.imp (ps_par3 hc hN hi hj hl hij hil hjl hx hy hz ha hw hs) fun _ _ _ h => mPar3_rd hiL hjL hlL hij hil hjl h
end
def paK3 (i j l : Nat) : R (List T) → R Fl
  | .ok [t, u, w] s' => if i < s'.length ∧ j < s'.length ∧ l < s'.length then .ok .nx (((s'.set l (.ow w.1 w.2)).set j (.ow u.1 u.2)).set i (.ow t.1 t.2)) else .no
  | .ok _ _ => .no
  | .ex x s' => .ex x s'
  | .no => .no
@[simp] theorem paK3_ok {i j l : Nat} {t u w : T} {s : S} : paK3 i j l (.ok [t, u, w] s) = if i < s.length ∧ j < s.length ∧ l < s.length then .ok .nx (((s.set l (.ow w.1 w.2)).set j (.ow u.1 u.2)).set i (.ow t.1 t.2)) else .no := rfl
@[simp] theorem paK3_ex {i j l : Nat} {x : Ex} {s : S} : paK3 i j l (.ex x s) = .ex x s := rfl
@[simp] theorem mPar3_eq {i j l : Nat} {a b c : M T} {s : S} : mPar3 i j l a b c s = paK3 i j l (evm [a, b, c] s) := by
  unfold mPar3 paK3
  rcases evm [a, b, c] s with ⟨ts, s'⟩ | ⟨x, s'⟩ | _
  · match ts with
    | [] => rfl
    | [_] => rfl
    | [_, _] => rfl
    | [_, _, _] => rfl
    | _ :: _ :: _ :: _ :: _ => rfl
  · rfl
  · rfl
end Z

/-! except X as e: y = e.f == z -/
namespace Z
open PySem L2
open PySem.Spec PyProof.Rows
def mXq (Cn : Str) (j : Nat) (f : Str) (n : Nat) : Ex → M Fl := fun x s => if x.C = Cn then (match x.fs.lookup f, tre s n with
  | some d, some t2 => (match fEq [(d, 0), t2] with
    | some t => if j < s.length then .ok .nx (s.set j (.ow t.1 t.2)) else .no
    | none => .no)
  | _, _ => .no) else .no
section
variable {X : Cx} {c : Zc} {L : Nat} {W : WX} {pos : Pos} {a C : Addr} {cls : Value} {d : Option Addr}
theorem zh_eq {Cn f : Str} {i j n : Nat} {y z : Str} {e : Expr} {py pz pc : Pos} (hK : c.K = X.K) (hu : X.A.units + 64 < cLine) (hN : X.N.Nodup) (hC : c.cl Cn = some C) (hj : X.N[j]? = some y) (hjl : Loc X.env.scope y) (hjL : j < L) (hnL : n < L) (h : cls = .ref C → PE X e (tXf a cls d C f (tVar i))) (hz : PE X (.Name z pz) (tVar n))
    (hs : swapsWith (.Compare e [.Eq] [.Name z pz] pc) (some (.Name y py)) pos.line X.env = pure false) (hf : X.fn y = true ∨ X.env.scope.names.lookup y = some .local) :
    PSs X [.Assign [.Name y py] (.Compare e [.Eq] [.Name z pz] pc) pos] (tsH c L (some i) (mXq Cn j f n) a cls d) := by
  by_cases hcls : cls = .ref C
  · refine PSs.imp (pss_one (ps_set hN hj hjl (pe_cmpR (opEq (c := c) hK hu) (h hcls) hz (nomark _)) hs hf)) fun D σ H hq => ?_
    obtain ⟨Z, vc, vx, st, tx, fp, x, w, hx, hsl, q⟩ := hq
    unfold mXq at q
    split at q
    · cases q2 : x.fs.lookup f with
      | none => rw [q2] at q; exact q.elim
      | some d1 =>
        cases q4 : tre st n with
        | none => rw [q2, q4] at q; exact q.elim
        | some t2 =>
          rw [q2, q4] at q
          simp only at q
          cases q5 : fEq [(d1, 0), t2] with
          | none => rw [q5] at q; exact q.elim
          | some t =>
            rw [q5] at q
            simp only at q
            split at q
            · rename_i hjs
              obtain ⟨dd, vs, v, e1, e2, e3, e4⟩ := isx_get hx q2
              obtain ⟨u, fu, k1, _, k3, k4⟩ := w.look hnL q4
              refine ⟨.ref a, hsl i rfl, rfl, hcls, dd, vs, v, e1, w.sub.get e2 (fun _ e => nomatch e), e3, u, k1, ?_⟩
              refine ruEq Z H fp [v, u] [(d1, 0), t2] t _ q5 w.sub (.cons (rf_tre e4) (.cons ⟨fu, k4, k3⟩ .nil)) fun Z' H' v' g al rt => ?_
              have w2 := w.al al rt
              obtain ⟨fp2, h1, w3⟩ := w2.putTop w.hvc hjL hjs
              exact q _ _ _ fp2 ((Stp.of_al al).trans (Stp.less h1)) w3
            · exact q.elim
    · exact q.elim
  · refine ⟨fun pins s σ H D I hq => ?_⟩
    obtain ⟨Z, vc, vx, st, tx, fp, x, w, hx, hsl, q⟩ := hq
    unfold mXq at q
    split at q
    · rename_i e
      obtain ⟨⟨A, e1, e2⟩, _⟩ := hx
      rw [e, hC] at e1
      cases e1
      exact absurd e2 hcls
    · exact q.elim
theorem zh_eqX {a : Addr} {oe : Obj} {cls : Value} {d : Option Addr} {pn : List (Addr × Obj)} {Cn f : Str} {i : Nat} (j n : Nat) {y z : Str} {e : Expr} {py pz pc : Pos} {P : Program} {w : World} {mg : Str → Option Value} {base : Heap} (C0 : Xc P w c mg base Cn f) (hu : X.A.units + 64 < cLine) (hN : X.N.Nodup)
    (h : ∀ C, XfC X.K C → PySem.W.findIn X.K (.ref C) f = some none → PE (X.suite a ((a, oe) :: pn)) e (tXf a cls d C f (tVar i))) (hz : PE (X.suite a ((a, oe) :: pn)) (.Name z pz) (tVar n)) (hK : c.K = X.K := by rfl) (hj : X.N[j]? = some y := by rfl) (hjl : Loc X.env.scope y := by first | exact Or.inl rfl | exact Or.inr rfl) (hjL : j < L := by decide) (hnL : n < L := by decide)
    (hs : swapsWith (.Compare e [.Eq] [.Name z pz] pc) (some (.Name y py)) pos.line X.env = pure false := by rfl) (hf : X.fn y = true ∨ X.env.scope.names.lookup y = some .local := by first | exact .inl rfl | exact .inr rfl) :
    PSs (X.suite a ((a, oe) :: pn)) [.Assign [.Name y py] (.Compare e [.Eq] [.Name z pz] pc) pos] (tsH c L (some i) (mXq Cn j f n) a cls d) := by
  obtain ⟨C, fI, fd, h1, h2, h3, h4, h5, h6, h7, h8, h9⟩ := C0.ex
  rw [hK] at h8 h9
  exact zh_eq (X := X.suite a ((a, oe) :: pn)) (c := c) hK hu hN h1 hj hjl hjL hnL (fun _ => h C h8 h9) hz hs hf
end
def xqK (j : Nat) (s : S) : Option D → Option T → R Fl
  | some d, some t2 => (match fEq [(d, 0), t2] with
    | some t => if j < s.length then .ok .nx (s.set j (.ow t.1 t.2)) else .no
    | none => .no)
  | _, _ => .no
def xqK2 (j : Nat) (s : S) : Option T → R Fl
  | some t => if j < s.length then .ok .nx (s.set j (.ow t.1 t.2)) else .no
  | none => .no
@[simp] theorem xqK2_some {j : Nat} {s : S} {t : T} : xqK2 j s (some t) = if j < s.length then .ok .nx (s.set j (.ow t.1 t.2)) else .no := rfl
@[simp] theorem xqK_some {j : Nat} {s : S} {d : D} {t2 : T} : xqK j s (some d) (some t2) = xqK2 j s (fEq [(d, 0), t2]) := by
  show (match fEq [(d, 0), t2] with | some t => _ | none => _) = _
  cases fEq [(d, 0), t2] <;> rfl
@[simp] theorem mXq_eq {Cn : Str} {j : Nat} {f : Str} {n : Nat} {x : Ex} {s : S} : mXq Cn j f n x s = if x.C = Cn then xqK j s (x.fs.lookup f) (tre s n) else .no := by
  unfold mXq
  split
  · unfold xqK
    cases x.fs.lookup f <;> cases tre s n <;> rfl
  · rfl
end Z

/-! x in l, l a list of data of any depth; lists repeated -/
namespace Z
open PySem L2
def inDp (x y : D) : Option Bool := match y with
  | .lst xs => match toP x, toPs xs with
    | some a, some bs => if SeqAt.shaped a = true ∧ SeqAt.shaped (.list bs) = true then some (bs.any fun z => PyData.eqv z a) else none
    | _, _ => none
  | _ => none
def fInD : F
  | [x, y] => (inDp x.1 y.1).map fun b => (.bl b, 0)
  | _ => none
def fNotInD : F
  | [x, y] => (inDp x.1 y.1).map fun b => (.bl (!b), 0)
  | _ => none
section
variable {c : Zc}
theorem inDp_dp {Z H : Hp} {fp : List Addr} {x y : V} {s t : T} {b : Bool} (sb : Sub Z H) (h1 : Tre c Z H fp x s) (h2 : Tre c Z H fp y t) (e : inDp s.1 t.1 = some b) : ∃ d ds, Dp c.K H x d ∧ Dp c.K H y (.list ds) ∧ SeqAt.shaped d = true ∧ SeqAt.shaped (.list ds) = true ∧ b = (ds.any fun z => PyData.eqv z d) := by
  obtain ⟨s, n⟩ := s
  obtain ⟨t, m⟩ := t
  cases t with
  | lst xs =>
    simp only [inDp] at e
    cases q : toP s with
    | none => rw [q] at e; cases e
    | some a =>
      cases q2 : toPs xs with
      | none => rw [q, q2] at e; cases e
      | some bs =>
        rw [q, q2] at e
        simp only at e
        split at e
        · rename_i hs
          cases e
          exact ⟨a, bs, tre_dp sb s h1 q, tre_dp sb (.lst xs) h2 (by simp [toP, q2]), hs.1, hs.2, rfl⟩
        · cases e
  | _ => simp only [inDp] at e; cases e
theorem ruInD : RuZ c (r2 (L2.rInD c.K)) fInD := by
  intro Z H fp vs ts t Q e s h k
  match ts, e with
  | [x, y], e =>
    obtain ⟨v, u, rfl, h1, h2⟩ := tre2 h
    simp only [fInD] at e
    cases q : inDp x.1 y.1 with
    | none => rw [q] at e; cases e
    | some b =>
      rw [q] at e
      cases e
      obtain ⟨d, ds, k1, k2, k3, k4, rfl⟩ := inDp_dp s h1 h2 q
      exact ⟨d, ds, k1, k2, k3, k4, kF s k .bl⟩
theorem ruNotInD : RuZ c (r2 (L2.rNotInD c.K)) fNotInD := by
  intro Z H fp vs ts t Q e s h k
  match ts, e with
  | [x, y], e =>
    obtain ⟨v, u, rfl, h1, h2⟩ := tre2 h
    simp only [fNotInD] at e
    cases q : inDp x.1 y.1 with
    | none => rw [q] at e; cases e
    | some b =>
      rw [q] at e
      cases e
      obtain ⟨d, ds, k1, k2, k3, k4, rfl⟩ := inDp_dp s h1 h2 q
      exact ⟨d, ds, k1, k2, k3, k4, kF s k .bl⟩
variable {X : Cx}
theorem opInD (hK : c.K = X.K) (hu : X.A.units + 65 < cLine) : OpR X (compareOp .In) (L2.rInD c.K) := hK ▸ L2.op_inD hu
theorem opNotInD (hK : c.K = X.K) (hu : X.A.units + 65 < cLine) : OpR X (compareOp .NotIn) (L2.rNotInD c.K) := hK ▸ L2.op_notInD hu
end
theorem Rg.hu65 {k : Nat} {A : Around} (r : Rg k A) : A.units + 65 < cLine := by have := r.rm.un; omega
/-! data that are equal just where they are the same -/
theorem eqv_sb (a b : Str) (p q : Bool) : PyData.eqv (.tuple [.str a, .bool p]) (.tuple [.str b, .bool q]) = (decide (a = b) && decide (p = q)) := by
  simp only [PyData.eqv, PyData.eqvAll]
  cases p <;> cases q <;> by_cases h : a = b <;> simp [h]
end Z

/-! all paths through unknown objects, link by link -/
namespace Z
open PySem L2
def eP (x : Str × Bool) : D := .tup [.str x.1, .bl x.2]
def pP (x : Str × Bool) : PyData := .tuple [.str x.1, .bool x.2]
theorem toP_eP (x : Str × Bool) : toP (eP x) = some (pP x) := by simp [eP, pP, toP, toPs]
theorem toPs_eP : ∀ F : List (Str × Bool), toPs (F.map eP) = some (F.map pP)
  | [] => by simp [toPs]
  | x :: F => by rw [List.map_cons, toPs, toP_eP, toPs_eP F]; rfl
theorem any_eP (x : Str × Bool) : ∀ F : List (Str × Bool), ((F.map pP).any fun z => PyData.eqv z (pP x)) = decide (x ∈ F)
  | [] => rfl
  | y :: F => by
    rw [List.map_cons, List.any_cons, any_eP x F]
    unfold pP
    rw [eqv_sb]
    obtain ⟨a, p⟩ := x
    obtain ⟨b, q⟩ := y
    by_cases h1 : b = a
    · subst h1
      cases p <;> cases q <;> simp
    · have h2 : ¬ a = b := fun e => h1 e.symm
      simp [h1, h2]
theorem gP_eP {x : Str × Bool} (h : asc x.1 = true) : gP 1 (eP x) := gP_tup (k := 0) (gP_cons (gP_str h) (gP_cons (gP_bl _) gP_nil))
theorem inDp_eP {x : Str × Bool} {F : List (Str × Bool)} (hx : asc x.1 = true) (hF : ∀ y ∈ F, asc y.1 = true) : inDp (eP x) (.lst (F.map eP)) = some (decide (x ∈ F)) := by
  show (match toP (eP x), toPs (F.map eP) with | some a, some bs => _ | _, _ => _) = _
  rw [toP_eP, toPs_eP]
  obtain ⟨p, h1, h2, h3⟩ := gP_eP hx
  rw [toP_eP] at h1
  cases h1
  obtain ⟨ps, k1, k2, k3⟩ := gPs (xs := F.map eP) (gP_map fun y hy => gP_eP (hF y hy))
  rw [toPs_eP] at k1
  cases k1
  show (if _ then _ else _) = _
  rw [if_pos ⟨shaped_of h2 h3 (by decide), shaped_of (k := 2) (p := .list (F.map pP)) k2 (by show PyData.depthAll _ + 1 ≤ 2; omega) (by decide)⟩, any_eP]
theorem fInD_eP {x : Str × Bool} {F : List (Str × Bool)} (hx : asc x.1 = true) (hF : ∀ y ∈ F, asc y.1 = true) {n m : Nat} : fInD [(eP x, n), (.lst (F.map eP), m)] = some (.bl (decide (x ∈ F)), 0) := by
  show (inDp _ _).map _ = _
  rw [inDp_eP hx hF]
  rfl
theorem fNotInD_eP {x : Str × Bool} {F : List (Str × Bool)} (hx : asc x.1 = true) (hF : ∀ y ∈ F, asc y.1 = true) {n m : Nat} : fNotInD [(eP x, n), (.lst (F.map eP), m)] = some (.bl (!decide (x ∈ F)), 0) := by
  show (inDp _ _).map _ = _
  rw [inDp_eP hx hF]
  rfl
theorem nodup_len2 {α : Type} [DecidableEq α] {a b : List α} (hn : a.Nodup) (h : ∀ x ∈ a, x ∈ b) : a.length ≤ b.length := by
  induction a generalizing b with
  | nil => exact Nat.zero_le _
  | cons x a ih =>
    obtain ⟨n1, n2⟩ := List.nodup_cons.mp hn
    have hx := h x List.mem_cons_self
    have := ih (b := b.erase x) n2 fun y hy => (List.mem_erase_of_ne (fun e : y = x => n1 (e ▸ hy))).mpr (h y (List.mem_cons_of_mem _ hy))
    rw [List.length_erase_of_mem hx] at this
    have : 0 < b.length := List.length_pos_of_mem hx
    simp
    omega
def nxt (f : Bool) (k : Str) : Bool := f && decide (k = "part")
inductive Exp (g : Gr) (ns : List Str) (n : Str) : Str → Bool → Prop
  | one : Exp g ns n n true
  | more {u t k : Str} {f : Bool} (r : Exp g ns n u f) (h : knd g u t = some k) (hv : t ∉ ns) : Exp g ns n t (nxt f k)
def Fnd (g : Gr) (ns : List Str) (n t : Str) (b : Bool) : Prop := ∃ u f k, Exp g ns n u f ∧ knd g u t = some k ∧ b = nxt f k
section
variable {g : Gr} {ns : List Str} {n : Str}
theorem Exp.part {u : Str} {f : Bool} (h : Exp g ns n u f) : f = true → Mid g ns PK n u := by
  induction h with
  | one => exact fun _ => .one
  | @more u t k f r h hv ih =>
    intro e
    simp only [nxt, Bool.and_eq_true, decide_eq_true_eq] at e
    exact .more (ih e.1) h (by rw [e.2]; simp [PK]) hv
theorem Exp.any {u : Str} {f : Bool} (kd : ∀ n t k, knd g n t = some k → k = "needs" ∨ k = "part") (h : Exp g ns n u f) : Mid g ns AK n u := by
  induction h with
  | one => exact .one
  | @more u t k f r h hv ih => exact .more ih h (by rcases kd _ _ _ h with rfl | rfl <;> simp [AK]) hv
theorem Mid.exp {u : Str} (h : Mid g ns PK n u) : Exp g ns n u true := by
  induction h with
  | one => exact .one
  | @more u v k r h hk hv ih =>
    have : k = "part" := by simpa [PK] using hk
    subst this
    exact Exp.more ih h hv
theorem Mid.exp2 {u : Str} (h : Mid g ns AK n u) : ∃ f, Exp g ns n u f := by
  induction h with
  | one => exact ⟨true, .one⟩
  | more r h hk hv ih =>
    obtain ⟨f, e⟩ := ih
    exact ⟨_, .more e h hv⟩
theorem Fnd.part {t : Str} (ht : t ∈ ns) : Fnd g ns n t true ↔ End g ns PK n t := by
  constructor
  · rintro ⟨u, f, k, e, h, hb⟩
    have hb2 := hb.symm
    simp only [nxt, Bool.and_eq_true, decide_eq_true_eq] at hb2
    exact ⟨ht, u, k, e.part hb2.1, h, by rw [hb2.2]; simp [PK]⟩
  · rintro ⟨_, u, k, m, h, hk⟩
    have : k = "part" := by simpa [PK] using hk
    subst this
    exact ⟨u, true, "part", m.exp, h, by simp [nxt]⟩
theorem Fnd.any {t : Str} (kd : ∀ n t k, knd g n t = some k → k = "needs" ∨ k = "part") (ht : t ∈ ns) : (Fnd g ns n t true ∨ Fnd g ns n t false) ↔ End g ns AK n t := by
  constructor
  · intro h
    have : ∃ b, Fnd g ns n t b := h.elim (fun z => ⟨_, z⟩) fun z => ⟨_, z⟩
    obtain ⟨b, u, f, k, e, h, _⟩ := this
    exact ⟨ht, u, k, e.any kd, h, by rcases kd _ _ _ h with rfl | rfl <;> simp [AK]⟩
  · rintro ⟨_, u, k, m, h, hk⟩
    obtain ⟨f, e⟩ := m.exp2
    have : Fnd g ns n t (nxt f k) := ⟨u, f, k, e, h, rfl⟩
    cases q : nxt f k with
    | true => rw [q] at this; exact .inl this
    | false => rw [q] at this; exact .inr this
end
abbrev PF := List (Str × Bool)
structure PI (g : Gr) (ns : List Str) (n : Str) (o : Option ((Str × Bool) × Lk)) (F W : PF) (k : Nat) : Prop where
  fn : F.Nodup
  fk : ∀ x ∈ F, Fnd g ns n x.1 x.2
  ww : ∀ x ∈ W, Exp g ns n x.1 x.2
  cl : ∀ x : Str × Bool, (x = (n, true) ∨ (x ∈ F ∧ x.1 ∉ ns)) → x ∈ W ∨ ∀ t q, knd g x.1 t = some q → (∃ r, o = some (x, r) ∧ r.lookup t = some q) ∨ (t, nxt x.2 q) ∈ F
  hk : W.length + 2 * g.length ≤ k + F.length
def stepP (ns : List Str) (h : Str × Bool) (F W : PF) (l : Str × Str) : PF × PF := if (l.1, nxt h.2 l.2) ∈ F then (F, W) else (F ++ [(l.1, nxt h.2 l.2)], if l.1 ∈ ns then W else W ++ [(l.1, nxt h.2 l.2)])
section
variable {g : Gr} (G : Gw g) {ns : List Str} {n : Str} {h : Str × Bool} {F W : PF} {k : Nat}
include G
theorem PI.key {o : Option ((Str × Bool) × Lk)} (I : PI g ns n o F W k) : ∀ x ∈ F, x.1 ∈ keys g := fun x hx => by
  obtain ⟨u, f, q, e, h, _⟩ := I.fk x hx
  exact G.to_key (by rw [h]; exact fun z => nomatch z)
theorem PI.flen {o : Option ((Str × Bool) × Lk)} (I : PI g ns n o F W k) : F.length ≤ 2 * g.length := by
  have := nodup_len2 (b := (keys g).map (fun x => (x, true)) ++ (keys g).map fun x => (x, false)) I.fn fun x hx => by
    have hk := I.key G x hx
    obtain ⟨a, b⟩ := x
    cases b
    · exact List.mem_append_right _ (List.mem_map.mpr ⟨a, hk, rfl⟩)
    · exact List.mem_append_left _ (List.mem_map.mpr ⟨a, hk, rfl⟩)
  rw [List.length_append, List.length_map, List.length_map, keys_len] at this
  omega
theorem PI.start : PI g ns n none [] [(n, true)] (2 * g.length + 1) :=
  ⟨List.nodup_nil, (fun x h => nomatch h), fun x hx => by rw [List.mem_singleton.mp hx]; exact .one, fun x hx => .inl (List.mem_singleton.mpr (hx.elim id fun z => nomatch z.1)), by simp; omega⟩
theorem Exp.key (hn : n ∈ keys g) {u : Str} {f : Bool} (e : Exp g ns n u f) : u ∈ keys g := by
  cases e with
  | one => exact hn
  | more _ h _ => exact G.to_key (by rw [h]; exact fun z => nomatch z)
theorem PI.pop (I : PI g ns n none F (W ++ [h]) (k + 1)) : PI g ns n (some (h, lks g h.1)) F W k := by
  refine ⟨I.fn, I.fk, fun x hx => I.ww x (List.mem_append_left _ hx), fun x hx => ?_, ?_⟩
  · rcases I.cl x hx with z | z
    · rcases List.mem_append.mp z with z | z
      · exact .inl z
      · rw [List.mem_singleton.mp z]
        exact .inr fun t q e => .inl ⟨_, rfl, e⟩
    · refine .inr fun t q e => ?_
      rcases z t q e with ⟨r, z, _⟩ | z
      · cases z
      · exact .inr z
  · have := I.hk
    simp at this
    omega
theorem PI.step {r : Lk} {l : Str × Str} (hm : Exp g ns n h.1 h.2) (hl : knd g h.1 l.1 = some l.2) (I : PI g ns n (some (h, l :: r)) F W k) : PI g ns n (some (h, r)) (stepP ns h F W l).1 (stepP ns h F W l).2 k := by
  obtain ⟨t0, q0⟩ := l
  have lk : ∀ {x t q r'}, some (h, (t0, q0) :: r) = some (x, r') → r'.lookup t = some q → (x = h ∧ t = t0 ∧ q = q0) ∨ (x = h ∧ r.lookup t = some q) := fun {x t q r'} e e2 => by
    cases e
    rw [List.lookup_cons] at e2
    by_cases c : t = t0
    · subst c
      simp at e2
      exact .inl ⟨rfl, rfl, e2.symm⟩
    · have : (t == t0) = false := by simpa using c
      rw [this] at e2
      exact .inr ⟨rfl, e2⟩
  unfold stepP
  split
  · rename_i c
    refine ⟨I.fn, I.fk, I.ww, fun x hx => (I.cl x hx).imp id fun z t q e => ?_, I.hk⟩
    rcases z t q e with ⟨r', e1, e2⟩ | z
    · rcases lk e1 e2 with ⟨rfl, rfl, rfl⟩ | ⟨rfl, e3⟩
      · exact .inr c
      · exact .inl ⟨r, rfl, e3⟩
    · exact .inr z
  · rename_i c
    have c : (t0, nxt h.2 q0) ∉ F := c
    refine ⟨?_, fun x hx => ?_, fun x hx => ?_, fun x hx => ?_, ?_⟩
    · show (F ++ [(t0, nxt h.2 q0)]).Nodup
      rw [List.nodup_append]
      refine ⟨I.fn, by simp, fun a ha b hb e => ?_⟩
      rw [List.mem_singleton.mp hb] at e
      exact c (e ▸ ha)
    · rcases List.mem_append.mp hx with hx | hx
      · exact I.fk x hx
      · rw [List.mem_singleton.mp hx]
        exact ⟨h.1, h.2, q0, hm, hl, rfl⟩
    · simp only at hx
      split at hx
      · exact I.ww x hx
      · rename_i hns
        rcases List.mem_append.mp hx with hx | hx
        · exact I.ww x hx
        · rw [List.mem_singleton.mp hx]
          exact .more hm hl hns
    · have hx2 : (x = (n, true) ∨ (x ∈ F ∧ x.1 ∉ ns)) ∨ (x = (t0, nxt h.2 q0) ∧ x.1 ∉ ns) := by
        rcases hx with hx | ⟨hx, hns⟩
        · exact .inl (.inl hx)
        · rcases List.mem_append.mp hx with hx | hx
          · exact .inl (.inr ⟨hx, hns⟩)
          · exact .inr ⟨List.mem_singleton.mp hx, hns⟩
      rcases hx2 with hx2 | ⟨rfl, hns⟩
      · rcases I.cl x hx2 with z | z
        · refine .inl ?_
          simp only
          split
          · exact z
          · exact List.mem_append_left _ z
        · refine .inr fun t q e => ?_
          rcases z t q e with ⟨r', e1, e2⟩ | z
          · rcases lk e1 e2 with ⟨rfl, rfl, rfl⟩ | ⟨rfl, e3⟩
            · exact .inr (List.mem_append_right _ (List.mem_singleton.mpr rfl))
            · exact .inl ⟨r, rfl, e3⟩
          · exact .inr (List.mem_append_left _ z)
      · refine .inl ?_
        simp only
        have hns : t0 ∉ ns := hns
        rw [if_neg hns]
        exact List.mem_append_right _ (List.mem_singleton.mpr rfl)
    · have := I.hk
      simp only [List.length_append, List.length_cons, List.length_nil]
      split
      · omega
      · simp only [List.length_append, List.length_cons, List.length_nil]; omega
theorem PI.shut (I : PI g ns n (some (h, [])) F W k) : PI g ns n none F W k :=
  ⟨I.fn, I.fk, I.ww, fun x hx => (I.cl x hx).imp id fun z t q e => by
    rcases z t q e with ⟨r', e1, e2⟩ | z
    · cases e1; cases e2
    · exact .inr z, I.hk⟩
theorem PI.fin (I : PI g ns n none F [] k) (x : Str × Bool) : x ∈ F ↔ Fnd g ns n x.1 x.2 := by
  refine ⟨I.fk x, fun ⟨u, f, q, e, h, hb⟩ => ?_⟩
  have cl : ∀ x : Str × Bool, (x = (n, true) ∨ (x ∈ F ∧ x.1 ∉ ns)) → ∀ t q, knd g x.1 t = some q → (t, nxt x.2 q) ∈ F := fun x hx t q e => by
    rcases I.cl x hx with z | z
    · cases z
    · rcases z t q e with ⟨r, z, _⟩ | z
      · cases z
      · exact z
  have hu : (u, f) = (n, true) ∨ ((u, f) ∈ F ∧ u ∉ ns) := by
    clear hb h
    induction e with
    | one => exact .inl rfl
    | @more u t k f r h hv ih => exact .inr ⟨cl (u, f) ih t k h, hv⟩
  obtain ⟨t, b⟩ := x
  have hb : b = nxt f q := hb
  rw [hb]
  exact cl (u, f) hu t q h
end
end Z

namespace Y_k18
open PySem L2 Z
def top (i : Nat) : Stmt := PySem.Challenge.pw_dropfates_k18_what_an_object_leads_to.main.body.getD i (.Pass ⟨0, 0, 0, 0⟩)
abbrev s__law_box : Stmt := top 39
abbrev s__law_take : Stmt := top 40
abbrev s__law_names : Stmt := top 42
abbrev s__law_shuffled : Stmt := top 41
abbrev s__law_graph : Stmt := top 43
abbrev s_has_letters : Stmt := top 30
abbrev s_is_name : Stmt := top 31
abbrev s_graph_of : Stmt := top 11
abbrev s_reached : Stmt := top 12
abbrev s_look_rows : Stmt := top 33
abbrev s_Catalog_init : Stmt := inClass (top 34) 0
abbrev s__law_rows : Stmt := top 44
abbrev s_check_there : Stmt := top 13
abbrev s_known_ends : Stmt := top 36
abbrev s_leads : Stmt := top 37
abbrev s__law_paths : Stmt := top 46
abbrev s__law_due : Stmt := top 47
abbrev s__law_missing : Stmt := top 48
abbrev s_links_in : Stmt := top 10
abbrev s_rows_of : Stmt := top 9
abbrev s_Catalog_rows : Stmt := inClass (top 34) 1
abbrev s__law_told : Stmt := top 45
abbrev s_law : Stmt := top 49
abbrev s_BadName_init : Stmt := inClass (top 3) 0
abbrev s_Taken_init : Stmt := inClass (top 4) 0
abbrev s_Missing_init : Stmt := inClass (top 5) 0
abbrev s_Cycle_init : Stmt := inClass (top 6) 0
/-! ### mirrors -/
def names : List Str := ["Catalog", "BadName", "Taken", "Missing", "Cycle", "CatalogError"]
def subL : List (Str × Str) := [("Missing", "Missing")]
def sub (a b : Str) : Bool := decide ((a, b) ∈ subL)
def cs_graph : List Str := ["Catalog"]
def d_LONGEST : D := (.int 8)
def d_LETTERS : D := (.str "abcdefghijklmnopqrstuvwxyz")
def ds_KEPT_WORDS : List D := [(.str "create"), (.str "drop"), (.str "cascade"), (.str "rename"), (.str "redefine"), (.str "swap"), (.str "fail"), (.str "if"), (.str "while"), (.str "try"), (.str "batch"), (.str "else"), (.str "on"), (.str "end"), (.str "to"), (.str "needs"), (.str "part")]
def d_KEPT_WORDS : D := .tup ds_KEPT_WORDS
noncomputable section
def b__law_box_3 : M Fl :=
  (mRet (mLst [(mOp fGet [(.tm (mLst [(mC (.int 0)), (mNm 2)])), (.tm (mOp fInt [(.tm (mOp fGe [(.nm 2), (.tm (mOp fPow [(.tm (mC (.int 10))), (.tm (mC (.int 18)))]))]))]))]), (mNm 3), (mC (.int 0))]))
def b__law_box_2 : M Fl :=
  (mSeq (mAsg 3 (mOp fAdd [(.tm (mOp fMod [(.tm (mOp fInt [(.tm (mOp fAdd [(.tm (mOp fAdd [(.tm (mOp fMul [(.tm (mOp fMod [(.tm (mOp fInt [(.nm 2)])), (.tm (mC (.int 2147483629)))])), (.tm (mC (.int 48271)))])), (.tm (mOp fMul [(.tm (mC (.int 40692))), (.nm 1)]))])), (.tm (mC (.int 7)))]))])), (.tm (mC (.int 2147483629)))])), (.tm (mC (.int 1)))]))
    b__law_box_3)
def b__law_box_1 : M Fl :=
  (mSeq (mIfS (mB (mOp fLt [(.nm 1), (.tm (mOp fLen [(.nm 0)]))])) (mAsg 2 (mOp fAbs [(.tm (mOp fGet [(.nm 0), (.nm 1)]))])) (mIfS (mB (mOp fGt [(.tm (mOp fLen [(.nm 0)])), (.tm (mC (.int 0)))])) (mAsg 2 (mOp fAdd [(.nm 2), (.tm (mOp fMul [(.tm (mOp fMod [(.tm (mOp fInt [(.tm (mOp fGet [(.nm 0), (.tm (mOp fMod [(.tm (mOp fInt [(.nm 1)])), (.tm (mOp fLen [(.nm 0)]))]))]))])), (.tm (mC (.int 2147483629)))])), (.tm (mC (.int 69623)))]))])) mNx))
    b__law_box_2)
def b__law_box : M Fl :=
  (mSeq (mAsg 2 (mOp fAdd [(.tm (mOp fMul [(.tm (mC (.int 6151))), (.nm 1)])), (.tm (mC (.int 29)))]))
    b__law_box_1)
def f__law_box : Fn := fnOf 4 b__law_box
def b__law_take_4 : M Fl :=
  (mRet (mOp fMod [(.tm (mOp fInt [(.tm (mOp fDiv [(.tm (mOp fAdd [(.tm (mOp fMul [(.nm 2), (.tm (mC (.int 2147483647)))])), (.tm (mOp fGet [(.nm 0), (.tm (mC (.int 1)))]))])), (.tm (mC (.int 8191)))]))])), (.nm 1)]))
def b__law_take_3 : M Fl :=
  (mSeq (mSet 0 (.tm (mC (.int 1))) (mOp fAdd [(.tm (mOp fMod [(.tm (mOp fInt [(.tm (mOp fAdd [(.tm (mOp fMul [(.nm 2), (.tm (mC (.int 48271)))])), (.tm (mC (.int 30103)))]))])), (.tm (mC (.int 2147483629)))])), (.tm (mC (.int 1)))]))
    b__law_take_4)
def b__law_take_2 : M Fl :=
  (mSeq (mAsg 2 (mOp fMod [(.tm (mOp fInt [(.tm (mOp fMul [(.tm (mOp fAdd [(.tm (mOp fGet [(.nm 0), (.tm (mC (.int 1)))])), (.tm (mOp fMul [(.tm (mC (.int 104729))), (.tm (mOp fGet [(.nm 0), (.tm (mC (.int 2)))]))]))])), (.tm (mC (.int 69623)))]))])), (.tm (mC (.int 2147483647)))]))
    b__law_take_3)
def b__law_take_1 : M Fl :=
  (mSeq (mSet 0 (.tm (mC (.int 2))) (mOp fAdd [(.tm (mOp fGet [(.nm 0), (.tm (mC (.int 2)))])), (.tm (mC (.int 1)))]))
    b__law_take_2)
def b__law_take : M Fl :=
  (mSeq (mIfS (mB (mOp fGt [(.tm (mOp fGet [(.nm 0), (.tm (mC (.int 0)))])), (.tm (mC (.int 0)))])) (mSeq (mAsg 3 (mOp fMod [(.tm (mOp fInt [(.tm (mOp fGet [(.nm 0), (.tm (mC (.int 0)))]))])), (.nm 1)]))
    (mSeq (mSet 0 (.tm (mC (.int 0))) (mOp fDiv [(.tm (mOp fGet [(.nm 0), (.tm (mC (.int 0)))])), (.nm 1)]))
    (mRet (mNm 3)))) mNx)
    b__law_take_1)
def f__law_take : Fn := fnOf 4 b__law_take
def e__law_names_1 : M T :=
  (mOp fGet [(.nm 2), (.tm (mCall f__law_take [(.bo 0), (.tm (mC (.int 26)))] []))])
def l__law_names_1_2 : M Fl :=
  (mExpr (mMut gApp "list" 5 [(mOp fAdd [(.nm 10), (.tm (mOp fMul [(.tm (mC (.str "x"))), (.tm (mOp fInt [(.tm (mOp fIn [(.nm 10), (.nm 3)]))]))]))])]))
def l__law_names_1_1 : M Fl :=
  (mSeq (mAsg 10 (mOp fAdd [(.tm (mOp fAdd [(.tm (mOp fAdd [(.tm (mOp fMul [(.tm (mC (.str "q"))), (.tm (mOp fMod [(.tm (mOp fInt [(.nm 6)])), (.tm (mC (.int 2)))]))])), (.tm (mSl (.nm 4) none (some (mNm 7))))])), (.nm 9)])), (.tm (mSl (.nm 4) (some (mNm 7)) none))]))
    l__law_names_1_2)
def l__law_names_1 : M Fl :=
  (mSeq (mAsg 9 (mOp fGet [(.nm 2), (.tm (mOp fMod [(.tm (mOp fInt [(.tm (mOp fAdd [(.nm 8), (.tm (mOp fMul [(.tm (mC (.int 7))), (.nm 6)]))]))])), (.tm (mC (.int 26)))]))]))
    l__law_names_1_1)
def b__law_names_6 : M Fl :=
  (mRet (mNm 5))
def b__law_names_5 : M Fl :=
  (mSeq (mFor (.nm 6) (mRng1 (.nm 1)) l__law_names_1)
    b__law_names_6)
def b__law_names_4 : M Fl :=
  (mSeq (mAsg 5 (mLst []))
    b__law_names_5)
def b__law_names_3 : M Fl :=
  (mSeq (mPar 7 8 (mCall f__law_take [(.bo 0), (.tm (mOp fAdd [(.tm (mOp fLen [(.nm 4)])), (.tm (mC (.int 1)))]))] []) (mCall f__law_take [(.bo 0), (.tm (mC (.int 26)))] []))
    b__law_names_4)
def b__law_names_2 : M Fl :=
  (mSeq (mAsg 4 (mBm fJoin (.tm (mC (.str ""))) [(mLc [6] (.nm 6) (mRng1 (.tm (mCall f__law_take [(.bo 0), (.tm (mC (.int 7)))] []))) mYes e__law_names_1)]))
    b__law_names_3)
def b__law_names_1 : M Fl :=
  (mSeq (mAsg 3 (mBm fSplit (.tm (mC (.str "create drop cascade rename redefine swap fail if while try batch else on end to needs part"))) [(mC (.str " "))]))
    b__law_names_2)
def b__law_names : M Fl :=
  (mSeq (mAsg 2 (mC (.str "abcdefghijklmnopqrstuvwxyz")))
    b__law_names_1)
def f__law_names : Fn := fnOf 11 b__law_names
def l__law_shuffled_1 : M Fl :=
  (mExpr (mMut gApp "list" 3 [(mMut gPopAt "list" 2 [(mCall f__law_take [(.bo 0), (.tm (mOp fLen [(.nm 2)]))] [])])]))
def w__law_shuffled_1 : M Bool :=
  (mB (mOp fNe [(.nm 2), (.tm (mLst []))]))
def b__law_shuffled_2 : M Fl :=
  (mRet (mNm 3))
def b__law_shuffled_1 : M Fl :=
  (mSeq (mWhile w__law_shuffled_1 l__law_shuffled_1)
    b__law_shuffled_2)
def b__law_shuffled : M Fl :=
  (mSeq (mPar 2 3 (mOp fListA [(.nm 1)]) (mLst []))
    b__law_shuffled_1)
def f__law_shuffled : Fn := fnOf 4 b__law_shuffled
def l__law_graph_2 : M Fl :=
  (mSet 7 (.tm (mOp fGet [(.nm 3), (.tm (mCall f__law_take [(.bo 0), (.bo 5)] []))])) (mOp fGet [(.tm (mLst [(mC (.str "needs")), (mC (.str "part"))])), (.tm (mCall f__law_take [(.bo 0), (.tm (mC (.int 2)))] []))]))
def l__law_graph_1_2 : M Fl :=
  (mSet 4 (.nm 6) (mNm 7))
def l__law_graph_1_1 : M Fl :=
  (mSeq (mFor (.nm 8) (mRng1 (.tm (mOp fMul [(.tm (mCall f__law_take [(.bo 0), (.tm (mOp fAdd [(.nm 2), (.tm (mC (.int 1)))]))] [])), (.tm (mOp fInt [(.tm (mOp fGt [(.nm 5), (.tm (mC (.int 0)))]))]))]))) l__law_graph_2)
    l__law_graph_1_2)
def l__law_graph_1 : M Fl :=
  (mSeq (mAsg 7 mDn)
    l__law_graph_1_1)
def b__law_graph_2 : M Fl :=
  (mRet (mNm 4))
def b__law_graph_1 : M Fl :=
  (mSeq (mFor (.tp [5, 6]) (mEnum (mNm 3)) l__law_graph_1)
    b__law_graph_2)
def b__law_graph : M Fl :=
  (mSeq (mPar 3 4 (mCall f__law_shuffled [(.bo 0), (.bo 1)] []) mDn)
    b__law_graph_1)
def f__law_graph : Fn := fnOf 9 b__law_graph
def e_has_letters_1 : M T :=
  (mOp fIn [(.nm 1), (.tm (mC d_LETTERS))])
def b_has_letters : M Fl :=
  (mRet (mAnd (mCh (fun i j => decide (i ≤ j)) (fun i j => decide (i ≤ j)) (mC (.int 1)) (mOp fLen [(.nm 0)]) (mC d_LONGEST)) (mOp fAll [(.tm (mLc [1] (.nm 1) (mIts (mNm 0)) mYes e_has_letters_1))])))
def f_has_letters : Fn := fnOf 2 b_has_letters
def b_is_name : M Fl :=
  (mRet (mAnd (mCall f_has_letters [(.bo 0)] []) (mOp fNotIn [(.nm 0), (.tm (mC d_KEPT_WORDS))])))
def f_is_name : Fn := fnOf 1 b_is_name
def e_graph_of_1 : M T :=
  (mNm 4)
def e_graph_of_2 : M T :=
  (mNm 3)
def e_graph_of_3 : M T :=
  (mNm 1)
def e_graph_of_4 : M T :=
  (mDc [3, 4] (.tp [3, 4]) (mIts (mNm 2)) mYes e_graph_of_1 e_graph_of_2)
def b_graph_of : M Fl :=
  (mRet (mDc [1, 2] (.tp [1, 2]) (mIts (mNm 0)) mYes e_graph_of_3 e_graph_of_4))
def f_graph_of : Fn := fnOf 5 b_graph_of
def l_reached_1_1 : M Fl :=
  (mIfS (mB (mOp fNotIn [(.nm 4), (.nm 2)])) (mSeq (mSet 2 (.nm 4) (mC (.bl true)))
    (mExpr (mMut gExt "list" 3 [(mOp fListA [(.tm (mOp fGet [(.nm 0), (.nm 4)]))])]))) mNx)
def l_reached_1 : M Fl :=
  (mSeq (mAsg 4 (mMut gPop "list" 3 []))
    l_reached_1_1)
def w_reached_1 : M Bool :=
  (mB (mOp fGt [(.tm (mOp fLen [(.nm 3)])), (.tm (mC (.int 0)))]))
def b_reached_3 : M Fl :=
  (mRet (mNm 2))
def b_reached_2 : M Fl :=
  (mSeq (mWhile w_reached_1 l_reached_1)
    b_reached_3)
def b_reached_1 : M Fl :=
  (mSeq (mAsg 3 (mOp fListA [(.tm (mOp fGet [(.nm 0), (.nm 1)]))]))
    b_reached_2)
def b_reached : M Fl :=
  (mSeq (mAsg 2 mDn)
    b_reached_1)
def f_reached : Fn := fnOf 5 b_reached
def l_look_rows_1_2 : M Fl :=
  (mSet 1 (.nm 3) (mC (.bl true)))
def l_look_rows_1_1 : M Fl :=
  (mSeq (mIfS (mB (mOp fIn [(.nm 3), (.nm 1)])) (mRaise "Taken" "name" (mNm 3)) mNx)
    l_look_rows_1_2)
def l_look_rows_1 : M Fl :=
  (mSeq (mIfS (mNotT (mTru (.tm (mCall f_is_name [(.bo 3)] [])))) (mRaise "BadName" "name" (mNm 3)) mNx)
    l_look_rows_1_1)
def l_look_rows_3 : M Fl :=
  (mIfS (mB (mOp fNotIn [(.nm 6), (.nm 1)])) (mRaise "Missing" "name" (mNm 6)) mNx)
def l_look_rows_2 : M Fl :=
  (mFor (.tp [5, 6]) (mIts (mNm 4)) l_look_rows_3)
def l_look_rows_4 : M Fl :=
  (mIfS (mB (mOp fIn [(.nm 3), (.tm (mCall f_reached [(.bo 2), (.bo 3)] []))])) (mRaise "Cycle" "name" (mNm 3)) mNx)
def b_look_rows_4 : M Fl :=
  (mFor (.tp [3, 4]) (mIts (mNm 0)) l_look_rows_4)
def b_look_rows_3 : M Fl :=
  (mSeq (mAsg 2 (mCall f_graph_of [(.bo 0)] []))
    b_look_rows_4)
def b_look_rows_2 : M Fl :=
  (mSeq (mFor (.tp [3, 4]) (mIts (mNm 0)) l_look_rows_2)
    b_look_rows_3)
def b_look_rows_1 : M Fl :=
  (mSeq (mFor (.tp [3, 4]) (mIts (mNm 0)) l_look_rows_1)
    b_look_rows_2)
def b_look_rows : M Fl :=
  (mSeq (mAsg 1 mDn)
    b_look_rows_1)
def f_look_rows : Fn := fnOf 7 b_look_rows
def b_Catalog_init_1 : M Fl :=
  (mFldS cs_graph 0 "graph" (mCall f_graph_of [(.bo 1)] []))
def b_Catalog_init : M Fl :=
  (mSeq (mExpr (mCall f_look_rows [(.bo 1)] []))
    b_Catalog_init_1)
def f_Catalog_init : Fn := fnOf 2 b_Catalog_init
def e__law_rows_1 : M T :=
  (mTup [(mOp fGet [(.tm (mOp fGet [(.nm 1), (.nm 3)])), (.nm 5)]), (mNm 5)])
def l__law_rows_1_1 : M Fl :=
  (mExpr (mMut gApp "list" 2 [(mTup [(mNm 3), (mOp fTup [(.tm (mCall f__law_shuffled [(.bo 0), (.bo 4)] []))])])]))
def l__law_rows_1 : M Fl :=
  (mSeq (mAsg 4 (mLc [5] (.nm 5) (mIts (mOp fGet [(.nm 1), (.nm 3)])) mYes e__law_rows_1))
    l__law_rows_1_1)
def b__law_rows_2 : M Fl :=
  (mRet (mNm 2))
def b__law_rows_1 : M Fl :=
  (mSeq (mFor (.nm 3) (mIts (mCall f__law_shuffled [(.bo 0), (.tm (mOp fListA [(.nm 1)]))] [])) l__law_rows_1)
    b__law_rows_2)
def b__law_rows : M Fl :=
  (mSeq (mAsg 2 (mLst []))
    b__law_rows_1)
def f__law_rows : Fn := fnOf 6 b__law_rows
def b_check_there : M Fl :=
  (mIfS (mB (mOp fNotIn [(.nm 1), (.nm 0)])) (mRaise "Missing" "name" (mNm 1)) mNx)
def f_check_there : Fn := fnOf 2 b_check_there
def l_known_ends_2 : M Fl :=
  (mIfS (mAndT (mB (mOp fIn [(.nm 9), (.nm 3)])) (mB (mOp fIn [(.nm 8), (.nm 2)]))) (mSet 4 (.nm 8) (mC (.bl true))) (mIfS (mAndT (mB (mOp fIn [(.nm 9), (.nm 3)])) (mB (mOp fNotIn [(.nm 8), (.nm 5)]))) (mSeq (mSet 5 (.nm 8) (mC (.bl true)))
    (mExpr (mMut gApp "list" 6 [(mNm 8)]))) mNx))
def l_known_ends_1_1 : M Fl :=
  (mFor (.tp [8, 9]) (mItems (mOp fGet [(.nm 0), (.nm 7)])) l_known_ends_2)
def l_known_ends_1 : M Fl :=
  (mSeq (mAsg 7 (mMut gPop "list" 6 []))
    l_known_ends_1_1)
def w_known_ends_1 : M Bool :=
  (mB (mOp fGt [(.tm (mOp fLen [(.nm 6)])), (.tm (mC (.int 0)))]))
def b_known_ends_4 : M Fl :=
  (mRet (mNm 4))
def b_known_ends_3 : M Fl :=
  (mSeq (mWhile w_known_ends_1 l_known_ends_1)
    b_known_ends_4)
def b_known_ends_2 : M Fl :=
  (mSeq (mAsg 6 (mLst [(mNm 1)]))
    b_known_ends_3)
def b_known_ends_1 : M Fl :=
  (mSeq (mAsg 5 mDn)
    b_known_ends_2)
def b_known_ends : M Fl :=
  (mSeq (mAsg 4 mDn)
    b_known_ends_1)
def f_known_ends : Fn := fnOf 10 b_known_ends
def l_leads_1 : M Fl :=
  (mIfS (mB (mOp fIn [(.nm 5), (.nm 3)])) (mExpr (mMut gApp "list" 4 [(mTup [(mC (.str "part")), (mNm 5)])])) (mExpr (mMut gApp "list" 4 [(mTup [(mC (.str "needs")), (mNm 5)])])))
def b_leads_4 : M Fl :=
  (mRet (mOp fTup [(.nm 4)]))
def b_leads_3 : M Fl :=
  (mSeq (mFor (.nm 5) (mIts (mOp fSorted [(.tm (mCall f_known_ends [(.tm (mOp (fFld cs_graph "graph") [(.nm 0)])), (.bo 1), (.bo 2), (.tm (mTup [(mC (.str "part")), (mC (.str "needs"))]))] []))])) l_leads_1)
    b_leads_4)
def b_leads_2 : M Fl :=
  (mSeq (mAsg 4 (mLst []))
    b_leads_3)
def b_leads_1 : M Fl :=
  (mSeq (mAsg 3 (mCall f_known_ends [(.tm (mOp (fFld cs_graph "graph") [(.nm 0)])), (.bo 1), (.bo 2), (.tm (mTup [(mC (.str "part"))]))] []))
    b_leads_2)
def b_leads : M Fl :=
  (mSeq (mExpr (mCall f_check_there [(.tm (mOp (fFld cs_graph "graph") [(.nm 0)])), (.bo 1)] []))
    b_leads_1)
def f_leads : Fn := fnOf 6 b_leads
def l__law_paths_2_1 : M Fl :=
  (mIfS (mB (mOp fNotInD [(.nm 8), (.nm 3)])) (mSeq (mExpr (mMut gApp "list" 3 [(mNm 8)]))
    (mExpr (mMut gExt "list" 4 [(mOp fMul [(.tm (mLst [(mNm 8)])), (.tm (mOp fInt [(.tm (mOp fNotIn [(.nm 5), (.nm 2)]))]))])]))) mNx)
def l__law_paths_2 : M Fl :=
  (mSeq (mAsg 8 (mTup [(mNm 5), (mAnd (mNm 7) (mOp fEq [(.tm (mOp fGet [(.tm (mOp fGet [(.nm 0), (.nm 6)])), (.nm 5)])), (.tm (mC (.str "part")))]))]))
    l__law_paths_2_1)
def l__law_paths_1_1 : M Fl :=
  (mFor (.nm 5) (mIts (mOp fGet [(.nm 0), (.nm 6)])) l__law_paths_2)
def l__law_paths_1 : M Fl :=
  (mSeq (mAsgF (.tp [6, 7]) (mMut gPop "list" 4 []))
    l__law_paths_1_1)
def w__law_paths_1 : M Bool :=
  (mB (mOp fNe [(.nm 4), (.tm (mLst []))]))
def t__law_paths_1 : M Bool :=
  (mB (mOp fIn [(.tm (mOp fGet [(.nm 8), (.tm (mC (.int 0)))])), (.nm 2)]))
def e__law_paths_1 : M T :=
  (mNm 8)
def b__law_paths_2 : M Fl :=
  (mRet (mLc [8] (.nm 8) (mIts (mNm 3)) t__law_paths_1 e__law_paths_1))
def b__law_paths_1 : M Fl :=
  (mSeq (mWhile w__law_paths_1 l__law_paths_1)
    b__law_paths_2)
def b__law_paths : M Fl :=
  (mSeq (mPar 3 4 (mLst []) (mLst [(mTup [(mNm 1), (mC (.bl true))])]))
    b__law_paths_1)
def f__law_paths : Fn := fnOf 9 b__law_paths
def t__law_due_1 : M Bool :=
  (mOrT (mB (mOp fInD [(.tm (mTup [(mNm 5), (mC (.bl true))])), (.nm 3)])) (mB (mOp fInD [(.tm (mTup [(mNm 5), (mC (.bl false))])), (.nm 3)])))
def e__law_due_1 : M T :=
  (mNm 5)
def e__law_due_2 : M T :=
  (mTup [(mOp fGet [(.tm (mLst [(mC (.str "needs")), (mC (.str "part"))])), (.tm (mOp fInt [(.tm (mOp fInD [(.tm (mTup [(mNm 5), (mC (.bl true))])), (.nm 3)]))]))]), (mNm 5)])
def b__law_due_2 : M Fl :=
  (mRet (mOp fTup [(.tm (mLc [5] (.nm 5) (mIts (mNm 4)) mYes e__law_due_2))]))
def b__law_due_1 : M Fl :=
  (mSeq (mAsg 4 (mLc [5] (.nm 5) (mIts (mOp fSorted [(.tm (mOp fListA [(.nm 0)]))])) t__law_due_1 e__law_due_1))
    b__law_due_2)
def b__law_due : M Fl :=
  (mSeq (mAsg 3 (mCall f__law_paths [(.bo 0), (.bo 1), (.bo 2)] []))
    b__law_due_1)
def f__law_due : Fn := fnOf 6 b__law_due
def y__law_missing_1 : M Fl :=
  (mAsg 3 (mOp fIsN [(.tm (mCall f_leads [(.bo 0), (.bo 1), (.bo 2)] []))]))
def b__law_missing_2 : M Fl :=
  (mRet (mNm 3))
def b__law_missing_1 : M Fl :=
  (mSeq (mTry sub y__law_missing_1 [("Missing", some 4, mXq "Missing" 3 "name" 1)])
    b__law_missing_2)
def b__law_missing : M Fl :=
  (mSeq (mAsg 3 (mC (.bl false)))
    b__law_missing_1)
def f__law_missing : Fn := fnOf 5 b__law_missing
def e_links_in_1 : M T :=
  (mTup [(mOp fGet [(.nm 2), (.nm 3)]), (mNm 3)])
def b_links_in_1 : M Fl :=
  (mRet (mOp fTup [(.tm (mLc [3] (.nm 3) (mIts (mOp fSorted [(.nm 2)])) mYes e_links_in_1))]))
def b_links_in : M Fl :=
  (mSeq (mAsg 2 (mOp fGet [(.nm 0), (.nm 1)]))
    b_links_in_1)
def f_links_in : Fn := fnOf 4 b_links_in
def e_rows_of_1 : M T :=
  (mTup [(mNm 1), (mCall f_links_in [(.bo 0), (.bo 1)] [])])
def b_rows_of : M Fl :=
  (mRet (mOp fTup [(.tm (mLc [1] (.nm 1) (mIts (mOp fSorted [(.nm 0)])) mYes e_rows_of_1))]))
def f_rows_of : Fn := fnOf 2 b_rows_of
def b_Catalog_rows : M Fl :=
  (mRet (mCall f_rows_of [(.tm (mOp (fFld cs_graph "graph") [(.nm 0)]))] []))
def f_Catalog_rows : Fn := fnOf 1 b_Catalog_rows
def e__law_told_1 : M T :=
  (mTup [(mOp fGet [(.nm 3), (.nm 4)]), (mNm 4)])
def l__law_told_1_1 : M Fl :=
  (mExpr (mMut gApp "list" 1 [(mTup [(mNm 2), (mOp fTup [(.tm (mLc [4] (.nm 4) (mIts (mOp fSorted [(.tm (mOp fListA [(.nm 3)]))])) mYes e__law_told_1))])])]))
def l__law_told_1 : M Fl :=
  (mSeq (mAsg 3 (mOp fGet [(.nm 0), (.nm 2)]))
    l__law_told_1_1)
def b__law_told_2 : M Fl :=
  (mRet (mOp fTup [(.nm 1)]))
def b__law_told_1 : M Fl :=
  (mSeq (mFor (.nm 2) (mIts (mOp fSorted [(.tm (mOp fListA [(.nm 0)]))])) l__law_told_1)
    b__law_told_2)
def b__law_told : M Fl :=
  (mSeq (mAsg 1 (mLst []))
    b__law_told_1)
def f__law_told : Fn := fnOf 5 b__law_told
def l_law_2 : M Fl :=
  (mIfS (mB (mOp fIn [(.nm 7), (.nm 4)])) (mSeq (mAsg 8 (mCall f_leads [(.bo 5), (.bo 7), (.bo 6)] []))
    (mIfS (mOrT (mNotT (mTru (.tm (mOp (fIsi "tuple") [(.nm 8)])))) (mB (mOp fNe [(.nm 8), (.tm (mCall f__law_due [(.bo 4), (.bo 7), (.bo 6)] []))]))) (mRet (mC (.bl false))) mNx)) (mIfS (mNotT (mTru (.tm (mCall f__law_missing [(.bo 5), (.bo 7), (.bo 6)] [])))) (mRet (mC (.bl false))) mNx))
def l_law_1_6 : M Fl :=
  (mIfS (mB (mOp fNe [(.tm (mMeth f_Catalog_rows "Catalog" "rows" (.bo 5) [] [])), (.tm (mCall f__law_told [(.bo 4)] []))])) (mRet (mC (.bl false))) mNx)
def l_law_1_5 : M Fl :=
  (mSeq (mFor (.nm 7) (mIts (mOp fAdd [(.nm 3), (.tm (mSl (.nm 3) none (some (mC (.int 1)))))])) l_law_2)
    l_law_1_6)
def l_law_1_4 : M Fl :=
  (mSeq (mAsg 6 (mOp fTup [(.tm (mSl (.tm (mCall f__law_shuffled [(.bo 2), (.bo 3)] [])) none (some (mCall f__law_take [(.bo 2), (.tm (mC (.int 7)))] []))))]))
    l_law_1_5)
def l_law_1_3 : M Fl :=
  (mSeq (mAsg 5 (mMake f_Catalog_init "Catalog" [(.tm (mCall f__law_rows [(.bo 2), (.bo 4)] []))] []))
    l_law_1_4)
def l_law_1_2 : M Fl :=
  (mSeq (mAsg 4 (mCall f__law_graph [(.bo 2), (.tm (mSl (.nm 3) none (some (mOp fAdd [(.tm (mC (.int 1))), (.tm (mCall f__law_take [(.bo 2), (.tm (mC (.int 9)))] []))])))), (.tm (mC (.int 3)))] []))
    l_law_1_3)
def l_law_1_1 : M Fl :=
  (mSeq (mAsg 3 (mCall f__law_names [(.bo 2), (.tm (mC (.int 10)))] []))
    l_law_1_2)
def l_law_1 : M Fl :=
  (mSeq (mAsg 2 (mCall f__law_box [(.bo 0), (.bo 1)] []))
    l_law_1_1)
def b_law_1 : M Fl :=
  (mRet (mC (.bl true)))
def b_law : M Fl :=
  (mSeq (mFor (.nm 1) (mRng1 (.tm (mOp fAdd [(.tm (mC (.int 1))), (.tm (mOp fLen [(.tm (mSl (.nm 0) none (some (mC (.int 2)))))]))]))) l_law_1)
    b_law_1)
def f_law : Fn := fnOf 9 b_law
end
/-! ### what the top has written -/
def N__law_box : List Str := ["_law_script", "_law_k", "_law_cell", "_law_seed"]
def P__law_box : List Str := ["_law_script", "_law_k"]
abbrev dd__law_box : List (List D) := [[]]
abbrev kk__law_box : List (List Str × List D) := []
theorem sc__law_box : FnScope N__law_box P__law_box (defScope s__law_box) := ⟨rfl, rfl, rfl, by decide +kernel, rfl, by decide +kernel, by decide +kernel⟩
def N__law_take : List Str := ["_law_box_here", "_law_many", "_law_one", "_law_digit"]
def P__law_take : List Str := ["_law_box_here", "_law_many"]
abbrev dd__law_take : List (List D) := [[]]
abbrev kk__law_take : List (List Str × List D) := []
theorem sc__law_take : FnScope N__law_take P__law_take (defScope s__law_take) := ⟨rfl, rfl, rfl, by decide +kernel, rfl, by decide +kernel, by decide +kernel⟩
def N__law_names : List Str := ["_law_box_here", "_law_many", "_law_letters", "_law_kept", "_law_stem", "_law_found", "_law_k", "_law_at", "_law_first", "_law_letter", "_law_name"]
def P__law_names : List Str := ["_law_box_here", "_law_many"]
abbrev dd__law_names : List (List D) := [[]]
abbrev kk__law_names : List (List Str × List D) := []
theorem sc__law_names : FnScope N__law_names P__law_names (defScope s__law_names) := ⟨rfl, rfl, rfl, by decide +kernel, rfl, by decide +kernel, by decide +kernel⟩
def N__law_shuffled : List Str := ["_law_box_here", "_law_things", "_law_left", "_law_found"]
def P__law_shuffled : List Str := ["_law_box_here", "_law_things"]
abbrev dd__law_shuffled : List (List D) := [[]]
abbrev kk__law_shuffled : List (List Str × List D) := []
theorem sc__law_shuffled : FnScope N__law_shuffled P__law_shuffled (defScope s__law_shuffled) := ⟨rfl, rfl, rfl, by decide +kernel, rfl, by decide +kernel, by decide +kernel⟩
def N__law_graph : List Str := ["_law_box_here", "_law_names_here", "_law_dense", "_law_order", "_law_graph_here", "_law_at", "_law_name", "_law_links", "_law_turn"]
def P__law_graph : List Str := ["_law_box_here", "_law_names_here", "_law_dense"]
abbrev dd__law_graph : List (List D) := [[]]
abbrev kk__law_graph : List (List Str × List D) := []
theorem sc__law_graph : FnScope N__law_graph P__law_graph (defScope s__law_graph) := ⟨rfl, rfl, rfl, by decide +kernel, rfl, by decide +kernel, by decide +kernel⟩
def N_has_letters : List Str := ["text", "sign"]
def P_has_letters : List Str := ["text"]
abbrev dd_has_letters : List (List D) := [[]]
abbrev kk_has_letters : List (List Str × List D) := []
theorem sc_has_letters : FnScope N_has_letters P_has_letters (defScope s_has_letters) := ⟨rfl, rfl, rfl, by decide +kernel, rfl, by decide +kernel, by decide +kernel⟩
def N_is_name : List Str := ["text"]
def P_is_name : List Str := ["text"]
abbrev dd_is_name : List (List D) := [[]]
abbrev kk_is_name : List (List Str × List D) := []
theorem sc_is_name : FnScope N_is_name P_is_name (defScope s_is_name) := ⟨rfl, rfl, rfl, by decide +kernel, rfl, by decide +kernel, by decide +kernel⟩
def N_graph_of : List Str := ["rows", "name", "links", "kind", "target"]
def P_graph_of : List Str := ["rows"]
abbrev dd_graph_of : List (List D) := [[]]
abbrev kk_graph_of : List (List Str × List D) := []
theorem sc_graph_of : FnScope N_graph_of P_graph_of (defScope s_graph_of) := ⟨rfl, rfl, rfl, by decide +kernel, rfl, by decide +kernel, by decide +kernel⟩
def N_reached : List Str := ["graph", "name", "found", "waiting", "here"]
def P_reached : List Str := ["graph", "name"]
abbrev dd_reached : List (List D) := [[]]
abbrev kk_reached : List (List Str × List D) := []
theorem sc_reached : FnScope N_reached P_reached (defScope s_reached) := ⟨rfl, rfl, rfl, by decide +kernel, rfl, by decide +kernel, by decide +kernel⟩
def N_look_rows : List Str := ["rows", "names", "graph", "name", "links", "kind", "target"]
def P_look_rows : List Str := ["rows"]
abbrev dd_look_rows : List (List D) := [[]]
abbrev kk_look_rows : List (List Str × List D) := []
theorem sc_look_rows : FnScope N_look_rows P_look_rows (defScope s_look_rows) := ⟨rfl, rfl, rfl, by decide +kernel, rfl, by decide +kernel, by decide +kernel⟩
def N_Catalog_init : List Str := ["self", "rows"]
def P_Catalog_init : List Str := ["self", "rows"]
abbrev dd_Catalog_init : List (List D) := [[]]
theorem sc_Catalog_init : FnScope N_Catalog_init P_Catalog_init (defScope s_Catalog_init) := ⟨rfl, rfl, rfl, by decide +kernel, rfl, by decide +kernel, by decide +kernel⟩
def N__law_rows : List Str := ["_law_box_here", "_law_graph_here", "_law_found", "_law_name", "_law_links", "_law_target"]
def P__law_rows : List Str := ["_law_box_here", "_law_graph_here"]
abbrev dd__law_rows : List (List D) := [[]]
abbrev kk__law_rows : List (List Str × List D) := []
theorem sc__law_rows : FnScope N__law_rows P__law_rows (defScope s__law_rows) := ⟨rfl, rfl, rfl, by decide +kernel, rfl, by decide +kernel, by decide +kernel⟩
def N_check_there : List Str := ["graph", "name"]
def P_check_there : List Str := ["graph", "name"]
abbrev dd_check_there : List (List D) := [[]]
abbrev kk_check_there : List (List Str × List D) := []
theorem sc_check_there : FnScope N_check_there P_check_there (defScope s_check_there) := ⟨rfl, rfl, rfl, by decide +kernel, rfl, by decide +kernel, by decide +kernel⟩
def N_known_ends : List Str := ["graph", "name", "names", "kinds", "found", "met", "waiting", "here", "target", "kind"]
def P_known_ends : List Str := ["graph", "name", "names", "kinds"]
abbrev dd_known_ends : List (List D) := [[]]
abbrev kk_known_ends : List (List Str × List D) := []
theorem sc_known_ends : FnScope N_known_ends P_known_ends (defScope s_known_ends) := ⟨rfl, rfl, rfl, by decide +kernel, rfl, by decide +kernel, by decide +kernel⟩
def N_leads : List Str := ["catalog", "name", "names", "parts", "found", "target"]
def P_leads : List Str := ["catalog", "name", "names"]
abbrev dd_leads : List (List D) := [[]]
abbrev kk_leads : List (List Str × List D) := []
theorem sc_leads : FnScope N_leads P_leads (defScope s_leads) := ⟨rfl, rfl, rfl, by decide +kernel, rfl, by decide +kernel, by decide +kernel⟩
def N__law_paths : List Str := ["_law_graph_here", "_law_name", "_law_names_here", "_law_found", "_law_left", "_law_target", "_law_here", "_law_parts", "_law_one"]
def P__law_paths : List Str := ["_law_graph_here", "_law_name", "_law_names_here"]
abbrev dd__law_paths : List (List D) := [[]]
abbrev kk__law_paths : List (List Str × List D) := []
theorem sc__law_paths : FnScope N__law_paths P__law_paths (defScope s__law_paths) := ⟨rfl, rfl, rfl, by decide +kernel, rfl, by decide +kernel, by decide +kernel⟩
def N__law_due : List Str := ["_law_graph_here", "_law_name", "_law_names_here", "_law_paths_here", "_law_ends", "_law_target"]
def P__law_due : List Str := ["_law_graph_here", "_law_name", "_law_names_here"]
abbrev dd__law_due : List (List D) := [[]]
abbrev kk__law_due : List (List Str × List D) := []
theorem sc__law_due : FnScope N__law_due P__law_due (defScope s__law_due) := ⟨rfl, rfl, rfl, by decide +kernel, rfl, by decide +kernel, by decide +kernel⟩
def N__law_missing : List Str := ["_law_catalog", "_law_name", "_law_names_here", "_law_found", "e"]
def P__law_missing : List Str := ["_law_catalog", "_law_name", "_law_names_here"]
abbrev dd__law_missing : List (List D) := [[]]
abbrev kk__law_missing : List (List Str × List D) := []
theorem sc__law_missing : FnScope N__law_missing P__law_missing (defScope s__law_missing) := ⟨rfl, rfl, rfl, by decide +kernel, rfl, by decide +kernel, by decide +kernel⟩
def N_links_in : List Str := ["graph", "name", "links", "target"]
def P_links_in : List Str := ["graph", "name"]
abbrev dd_links_in : List (List D) := [[]]
abbrev kk_links_in : List (List Str × List D) := []
theorem sc_links_in : FnScope N_links_in P_links_in (defScope s_links_in) := ⟨rfl, rfl, rfl, by decide +kernel, rfl, by decide +kernel, by decide +kernel⟩
def N_rows_of : List Str := ["graph", "name"]
def P_rows_of : List Str := ["graph"]
abbrev dd_rows_of : List (List D) := [[]]
abbrev kk_rows_of : List (List Str × List D) := []
theorem sc_rows_of : FnScope N_rows_of P_rows_of (defScope s_rows_of) := ⟨rfl, rfl, rfl, by decide +kernel, rfl, by decide +kernel, by decide +kernel⟩
def N_Catalog_rows : List Str := ["self"]
def P_Catalog_rows : List Str := ["self"]
abbrev dd_Catalog_rows : List (List D) := [[]]
theorem sc_Catalog_rows : FnScope N_Catalog_rows P_Catalog_rows (defScope s_Catalog_rows) := ⟨rfl, rfl, rfl, by decide +kernel, rfl, by decide +kernel, by decide +kernel⟩
def N__law_told : List Str := ["_law_graph_here", "_law_found", "_law_name", "_law_links", "_law_target"]
def P__law_told : List Str := ["_law_graph_here"]
abbrev dd__law_told : List (List D) := [[]]
abbrev kk__law_told : List (List Str × List D) := []
theorem sc__law_told : FnScope N__law_told P__law_told (defScope s__law_told) := ⟨rfl, rfl, rfl, by decide +kernel, rfl, by decide +kernel, by decide +kernel⟩
def N_law : List Str := ["_law_script", "_law_k", "_law_box_here", "_law_names_here", "_law_graph_here", "_law_catalog", "_law_known", "_law_name", "_law_found"]
def P_law : List Str := ["_law_script"]
abbrev dd_law : List (List D) := []
abbrev kk_law : List (List Str × List D) := []
theorem sc_law : FnScope N_law P_law (defScope s_law) := ⟨rfl, rfl, rfl, by decide +kernel, rfl, by decide +kernel, by decide +kernel⟩
structure Tx (P : Program) (w : World) (c : Zc) (mg : Str → Option Value) (base : Heap) : Prop where
  b_abs : mg "abs" = none
  b_all : mg "all" = none
  b_enumerate : mg "enumerate" = none
  b_int : mg "int" = none
  b_isinstance : mg "isinstance" = none
  b_len : mg "len" = none
  b_list : mg "list" = none
  b_range : mg "range" = none
  b_sorted : mg "sorted" = none
  b_str : mg "str" = none
  b_tuple : mg "tuple" = none
  g_LONGEST : Gv c mg "LONGEST" d_LONGEST
  g_LETTERS : Gv c mg "LETTERS" d_LETTERS
  g_KEPT_WORDS : Gv c mg "KEPT_WORDS" d_KEPT_WORDS
  q_graph : Fc c cs_graph "graph"
  x_BadName : Xc P w c mg base "BadName" "name"
  x_Taken : Xc P w c mg base "Taken" "name"
  x_Missing : Xc P w c mg base "Missing" "name"
  x_Cycle : Xc P w c mg base "Cycle" "name"
  h_Missing : Hc c mg sub "Missing"
section
variable {P : Program} {w : World} {c : Zc} {mg : Str → Option Value} {base : Heap}
theorem sc_BadName_init : FnScope ["self", "name"] ["self", "name"] (defScope s_BadName_init) := ⟨rfl, rfl, rfl, by decide +kernel, rfl, by decide +kernel, by decide +kernel⟩
theorem xs_BadName {K : PySem.W.Frag} {B : Addr} (hm : mg "CatalogError" = some (.ref B)) (hB : CeB K B) : ∀ (f0 : Addr) (cdv : Value) (A : Around) (outer : List Env) (s : Shared) (H : Hp) (E : XK), PSs (cxOf (L2.CX P w) P w K mg base ["self", "name"] "BadName.__init__" (defScope s_BadName_init) f0 cdv A outer s H E) (defBody s_BadName_init) (tSeq (tDrop (tVeI K (tCons (tVar 0) (tCons (fun σ H Q => tJs (jsT [some "not a name: ", none]) Str.empty σ H fun out H1 => Q (.str out) H1) tNil)))) (tOst K "name" (tVar 0) (tVar 1))) :=
  fun f0 cdv A outer s H E => pss_cons (ps_expr (pe_ceinit rfl hm hB (pa_cons (pv 0) (pa_cons (pe_joined (PJ.cons pe_str (PJ.cons (pe_fmt (pv 1)) PJ.nil))) pa_nil)))) (pss_one (ps_ost (pv 0) (pv 1)))
theorem sc_Taken_init : FnScope ["self", "name"] ["self", "name"] (defScope s_Taken_init) := ⟨rfl, rfl, rfl, by decide +kernel, rfl, by decide +kernel, by decide +kernel⟩
theorem xs_Taken {K : PySem.W.Frag} {B : Addr} (hm : mg "CatalogError" = some (.ref B)) (hB : CeB K B) : ∀ (f0 : Addr) (cdv : Value) (A : Around) (outer : List Env) (s : Shared) (H : Hp) (E : XK), PSs (cxOf (L2.CX P w) P w K mg base ["self", "name"] "Taken.__init__" (defScope s_Taken_init) f0 cdv A outer s H E) (defBody s_Taken_init) (tSeq (tDrop (tVeI K (tCons (tVar 0) (tCons (fun σ H Q => tJs (jsT [some "there is already an object ", none]) Str.empty σ H fun out H1 => Q (.str out) H1) tNil)))) (tOst K "name" (tVar 0) (tVar 1))) :=
  fun f0 cdv A outer s H E => pss_cons (ps_expr (pe_ceinit rfl hm hB (pa_cons (pv 0) (pa_cons (pe_joined (PJ.cons pe_str (PJ.cons (pe_fmt (pv 1)) PJ.nil))) pa_nil)))) (pss_one (ps_ost (pv 0) (pv 1)))
theorem sc_Missing_init : FnScope ["self", "name"] ["self", "name"] (defScope s_Missing_init) := ⟨rfl, rfl, rfl, by decide +kernel, rfl, by decide +kernel, by decide +kernel⟩
theorem xs_Missing {K : PySem.W.Frag} {B : Addr} (hm : mg "CatalogError" = some (.ref B)) (hB : CeB K B) : ∀ (f0 : Addr) (cdv : Value) (A : Around) (outer : List Env) (s : Shared) (H : Hp) (E : XK), PSs (cxOf (L2.CX P w) P w K mg base ["self", "name"] "Missing.__init__" (defScope s_Missing_init) f0 cdv A outer s H E) (defBody s_Missing_init) (tSeq (tDrop (tVeI K (tCons (tVar 0) (tCons (fun σ H Q => tJs (jsT [some "there is no object ", none]) Str.empty σ H fun out H1 => Q (.str out) H1) tNil)))) (tOst K "name" (tVar 0) (tVar 1))) :=
  fun f0 cdv A outer s H E => pss_cons (ps_expr (pe_ceinit rfl hm hB (pa_cons (pv 0) (pa_cons (pe_joined (PJ.cons pe_str (PJ.cons (pe_fmt (pv 1)) PJ.nil))) pa_nil)))) (pss_one (ps_ost (pv 0) (pv 1)))
theorem sc_Cycle_init : FnScope ["self", "name"] ["self", "name"] (defScope s_Cycle_init) := ⟨rfl, rfl, rfl, by decide +kernel, rfl, by decide +kernel, by decide +kernel⟩
theorem xs_Cycle {K : PySem.W.Frag} {B : Addr} (hm : mg "CatalogError" = some (.ref B)) (hB : CeB K B) : ∀ (f0 : Addr) (cdv : Value) (A : Around) (outer : List Env) (s : Shared) (H : Hp) (E : XK), PSs (cxOf (L2.CX P w) P w K mg base ["self", "name"] "Cycle.__init__" (defScope s_Cycle_init) f0 cdv A outer s H E) (defBody s_Cycle_init) (tSeq (tDrop (tVeI K (tCons (tVar 0) (tCons (fun σ H Q => tJs (jsT [none, some " would depend on itself"]) Str.empty σ H fun out H1 => Q (.str out) H1) tNil)))) (tOst K "name" (tVar 0) (tVar 1))) :=
  fun f0 cdv A outer s H E => pss_cons (ps_expr (pe_ceinit rfl hm hB (pa_cons (pv 0) (pa_cons (pe_joined (PJ.cons (pe_fmt (pv 1)) (PJ.cons pe_str PJ.nil))) pa_nil)))) (pss_one (ps_ost (pv 0) (pv 1)))
theorem cl__law_box (T : Tx P w c mg base) (D0 : Df c mg "_law_box" s__law_box P__law_box dd__law_box kk__law_box)  : Cl P w c mg base 2 "_law_box" P__law_box f__law_box dd__law_box kk__law_box :=
  cl_of (N := N__law_box) (k := 1) (body := b__law_box) D0 sc__law_box (by decide) fun _ cdv A outer s H E W hr tk =>
    (zss_cons (vS 2 sc__law_box.nd (ze_bin (opAdd rfl) ruAdd (zo_tm (ze_bin opMul ruMul (zo_tm ze_int) (vO 1))) (zo_tm ze_int)))
    (zss_cons (zs_if (zt_cmp op_lt ruLt (vO 1) (zo_tm (b_len T.b_len (vO 0))) (nomark _)) (zss_one (vS 2 sc__law_box.nd (b_abs T.b_abs (zo_tm (ze_ix (ixAll rfl hr.hu) ruGet (vO 0) (vO 1) (fun _ _ => rfl)))))) (zss_one (zs_if (zt_cmp op_gt ruGt (zo_tm (b_len T.b_len (vO 0))) (zo_tm ze_int) (nomark _)) (zss_one (vS 2 sc__law_box.nd (ze_bin (opAdd rfl) ruAdd (vO 2) (zo_tm (ze_bin opMul ruMul (zo_tm (ze_bin op_mod ruMod (zo_tm (b_int T.b_int (zo_tm (ze_ix (ixAll rfl hr.hu) ruGet (vO 0) (zo_tm (ze_bin op_mod ruMod (zo_tm (b_int T.b_int (vO 1))) (zo_tm (b_len T.b_len (vO 0))))) (fun _ _ => rfl))))) (zo_tm ze_int))) (zo_tm ze_int)))))) zss_nil)))
    (zss_cons (vS 3 sc__law_box.nd (ze_bin (opAdd rfl) ruAdd (zo_tm (ze_bin op_mod ruMod (zo_tm (b_int T.b_int (zo_tm (ze_bin (opAdd rfl) ruAdd (zo_tm (ze_bin (opAdd rfl) ruAdd (zo_tm (ze_bin opMul ruMul (zo_tm (ze_bin op_mod ruMod (zo_tm (b_int T.b_int (vO 2))) (zo_tm ze_int))) (zo_tm ze_int))) (zo_tm (ze_bin opMul ruMul (zo_tm ze_int) (vO 1))))) (zo_tm ze_int))))) (zo_tm ze_int))) (zo_tm ze_int)))
    (zss_one (zs_ret (ze_lst (za_cons (ze_ix (ixAll rfl hr.hu) ruGet (zo_tm (ze_lst (za_cons ze_int (za_cons (vE 2) za_nil)))) (zo_tm (b_int T.b_int (zo_tm (ze_cmp op_ge ruGe (vO 2) (zo_tm (ze_bin op_pow ruPow (zo_tm ze_int) (zo_tm ze_int))) (nomark _))))) (fun _ _ => rfl)) (za_cons (vE 3) (za_cons ze_int za_nil)))))))))
theorem cl__law_take (T : Tx P w c mg base) (D0 : Df c mg "_law_take" s__law_take P__law_take dd__law_take kk__law_take)  : Cl P w c mg base 2 "_law_take" P__law_take f__law_take dd__law_take kk__law_take :=
  cl_of (N := N__law_take) (k := 1) (body := b__law_take) D0 sc__law_take (by decide) fun _ cdv A outer s H E W hr tk =>
    (zss_cons (zs_if (zt_cmp op_gt ruGt (zo_tm (ze_ix (ixAll rfl hr.hu) ruGet (vO 0) (zo_tm ze_int) (fun _ _ => rfl))) (zo_tm ze_int) (nomark _)) (zss_cons (vS 3 sc__law_take.nd (ze_bin op_mod ruMod (zo_tm (b_int T.b_int (zo_tm (ze_ix (ixAll rfl hr.hu) ruGet (vO 0) (zo_tm ze_int) (fun _ _ => rfl))))) (vO 1)))
    (zss_cons (zs_set (ze_bin op_fdiv ruDiv (zo_tm (ze_ix (ixAll rfl hr.hu) ruGet (vO 0) (zo_tm ze_int) (fun _ _ => rfl))) (vO 1)) (by decide) (pg_sub (pv 0) (zo_tm ze_int) (set_any hr.hu)))
    (zss_one (zs_ret (vE 3))))) zss_nil)
    (zss_cons (zs_set (ze_bin (opAdd rfl) ruAdd (zo_tm (ze_ix (ixAll rfl hr.hu) ruGet (vO 0) (zo_tm ze_int) (fun _ _ => rfl))) (zo_tm ze_int)) (by decide) (pg_sub (pv 0) (zo_tm ze_int) (set_any hr.hu)))
    (zss_cons (vS 2 sc__law_take.nd (ze_bin op_mod ruMod (zo_tm (b_int T.b_int (zo_tm (ze_bin opMul ruMul (zo_tm (ze_bin (opAdd rfl) ruAdd (zo_tm (ze_ix (ixAll rfl hr.hu) ruGet (vO 0) (zo_tm ze_int) (fun _ _ => rfl))) (zo_tm (ze_bin opMul ruMul (zo_tm ze_int) (zo_tm (ze_ix (ixAll rfl hr.hu) ruGet (vO 0) (zo_tm ze_int) (fun _ _ => rfl))))))) (zo_tm ze_int))))) (zo_tm ze_int)))
    (zss_cons (zs_set (ze_bin (opAdd rfl) ruAdd (zo_tm (ze_bin op_mod ruMod (zo_tm (b_int T.b_int (zo_tm (ze_bin (opAdd rfl) ruAdd (zo_tm (ze_bin opMul ruMul (vO 2) (zo_tm ze_int))) (zo_tm ze_int))))) (zo_tm ze_int))) (zo_tm ze_int)) (by decide) (pg_sub (pv 0) (zo_tm ze_int) (set_any hr.hu)))
    (zss_one (zs_ret (ze_bin op_mod ruMod (zo_tm (b_int T.b_int (zo_tm (ze_bin op_fdiv ruDiv (zo_tm (ze_bin (opAdd rfl) ruAdd (zo_tm (ze_bin opMul ruMul (vO 2) (zo_tm ze_int))) (zo_tm (ze_ix (ixAll rfl hr.hu) ruGet (vO 0) (zo_tm ze_int) (fun _ _ => rfl))))) (zo_tm ze_int))))) (vO 1))))))))
theorem cl__law_names (T : Tx P w c mg base) (D0 : Df c mg "_law_names" s__law_names P__law_names dd__law_names kk__law_names) (C__law_take : Cl P w c mg base 2 "_law_take" P__law_take f__law_take dd__law_take kk__law_take) : Cl P w c mg base 3 "_law_names" P__law_names f__law_names dd__law_names kk__law_names :=
  cl_of (N := N__law_names) (k := 2) (body := b__law_names) D0 sc__law_names (by decide) fun _ cdv A outer s H E W hr tk =>
    (zss_cons (vS 2 sc__law_names.nd ze_str)
    (zss_cons (vS 3 sc__law_names.nd (m_split (zo_tm ze_str) ze_str))
    (zss_cons (vS 4 sc__law_names.nd (m_join (zo_tm ze_str) (ze_lc (own := [("_law_k", 6)]) rfl sc__law_names.nd (zi_rng1 rfl T.b_range (zos_cons (zo_tm (zc_ca [] tk C__law_take hr (by decide) (mem_ix (i := 0) rfl) (zgs_cons (vG 0) (zgs_cons (zg_tm ze_int) zgs_nil)))) zos_nil)) (blkOk_by (by show blkC N__law_names (defScope s__law_names) _ _ = true; decide +kernel)) (fun _ _ _ _ _ => zp_nm sc__law_names.nd) (tgr_nm (by decide)) (fun _ _ _ _ _ => zts_nil) (fun _ _ _ _ _ => (ze_ix (ixAll rfl hr.hu) ruGet (vO 2) (zo_tm (zc_ca [] takes_none5 C__law_take hr (by decide) (mem_ix (i := 0) rfl) (zgs_cons (vG 0) (zgs_cons (zg_tm ze_int) zgs_nil)))) (fun _ _ => rfl))))))
    (zss_cons (zs_par rfl sc__law_names.nd rfl rfl (by decide) rfl rfl (za_cons (zc_ca [] tk C__law_take hr (by decide) (mem_ix (i := 0) rfl) (zgs_cons (vG 0) (zgs_cons (zg_tm (ze_bin (opAdd rfl) ruAdd (zo_tm (b_len T.b_len (vO 4))) (zo_tm ze_int))) zgs_nil))) (za_cons (zc_ca [] tk C__law_take hr (by decide) (mem_ix (i := 0) rfl) (zgs_cons (vG 0) (zgs_cons (zg_tm ze_int) zgs_nil))) za_nil)))
    (zss_cons (vS 5 sc__law_names.nd (ze_lst za_nil))
    (zss_cons (zs_for (passes_of rfl) rfl (zi_rng1 rfl T.b_range (zos_cons (vO 1) zos_nil)) (zp_nm sc__law_names.nd) (tgr_nm (by decide)) (zss_cons (vS 9 sc__law_names.nd (ze_ix (ixAll rfl hr.hu) ruGet (vO 2) (zo_tm (ze_bin op_mod ruMod (zo_tm (b_int T.b_int (zo_tm (ze_bin (opAdd rfl) ruAdd (vO 8) (zo_tm (ze_bin opMul ruMul (zo_tm ze_int) (vO 6))))))) (zo_tm ze_int))) (fun _ _ => rfl)))
    (zss_cons (vS 10 sc__law_names.nd (ze_bin (opAdd rfl) ruAdd (zo_tm (ze_bin (opAdd rfl) ruAdd (zo_tm (ze_bin (opAdd rfl) ruAdd (zo_tm (ze_bin opMul ruMul (zo_tm ze_str) (zo_tm (ze_bin op_mod ruMod (zo_tm (b_int T.b_int (vO 6))) (zo_tm ze_int))))) (zo_tm (ze_sl rfl (vO 4) zp_no (zp_is (vE 7)))))) (vO 9))) (zo_tm (ze_sl rfl (vO 4) (zp_is (vE 7)) zp_no))))
    (zss_one (zs_expr (m_app 5 (ze_bin (opAdd rfl) ruAdd (vO 10) (zo_tm (ze_bin opMul ruMul (zo_tm ze_str) (zo_tm (b_int T.b_int (zo_tm (ze_cmp (opIn rfl hr.hu) ruIn (vO 10) (vO 3) (by with_unfolding_all rfl))))))))))))))
    (zss_one (zs_ret (vE 5)))))))))
theorem cl__law_shuffled (T : Tx P w c mg base) (D0 : Df c mg "_law_shuffled" s__law_shuffled P__law_shuffled dd__law_shuffled kk__law_shuffled) (C__law_take : Cl P w c mg base 2 "_law_take" P__law_take f__law_take dd__law_take kk__law_take) : Cl P w c mg base 3 "_law_shuffled" P__law_shuffled f__law_shuffled dd__law_shuffled kk__law_shuffled :=
  cl_of (N := N__law_shuffled) (k := 2) (body := b__law_shuffled) D0 sc__law_shuffled (by decide) fun _ cdv A outer s H E W hr tk =>
    (zss_cons (zs_par rfl sc__law_shuffled.nd rfl rfl (by decide) rfl rfl (za_cons (b_listA T.b_list (vO 1)) (za_cons (ze_lst za_nil) za_nil)))
    (zss_cons (zs_while (passes_of rfl) (zt_cmp (opNe rfl hr.units) ruNe (vO 2) (zo_tm (ze_lst za_nil)) (nomark _)) (zss_one (zs_expr (m_app 3 (m_popAt 2 (zc_ca [] tk C__law_take hr (by decide) (mem_ix (i := 0) rfl) (zgs_cons (vG 0) (zgs_cons (zg_tm (b_len T.b_len (vO 2))) zgs_nil))))))))
    (zss_one (zs_ret (vE 3)))))
theorem cl__law_graph (T : Tx P w c mg base) (D0 : Df c mg "_law_graph" s__law_graph P__law_graph dd__law_graph kk__law_graph) (C__law_shuffled : Cl P w c mg base 3 "_law_shuffled" P__law_shuffled f__law_shuffled dd__law_shuffled kk__law_shuffled) (C__law_take : Cl P w c mg base 2 "_law_take" P__law_take f__law_take dd__law_take kk__law_take) : Cl P w c mg base 4 "_law_graph" P__law_graph f__law_graph dd__law_graph kk__law_graph :=
  cl_of (N := N__law_graph) (k := 3) (body := b__law_graph) D0 sc__law_graph (by decide) fun _ cdv A outer s H E W hr tk =>
    (zss_cons (zs_par rfl sc__law_graph.nd rfl rfl (by decide) rfl rfl (za_cons (zc_ca [] tk C__law_shuffled hr (by decide) (mem_ix (i := 0) rfl) (zgs_cons (vG 0) (zgs_cons (vG 1) zgs_nil))) (za_cons ze_dn za_nil)))
    (zss_cons (zs_for (passes_of rfl) rfl (zi_enum rfl rfl T.b_enumerate (za_cons (vE 3) za_nil)) (pg_tup rfl (pgs_cons (zp_nm sc__law_graph.nd) (pgs_cons (zp_nm sc__law_graph.nd) pgs_nil))) (tgr_tp (by decide)) (zss_cons (vS 7 sc__law_graph.nd ze_dn)
    (zss_cons (zs_for (passes_of rfl) rfl (zi_rng1 rfl T.b_range (zos_cons (zo_tm (ze_bin opMul ruMul (zo_tm (zc_ca [] tk C__law_take hr (by decide) (mem_ix (i := 0) rfl) (zgs_cons (vG 0) (zgs_cons (zg_tm (ze_bin (opAdd rfl) ruAdd (vO 2) (zo_tm ze_int))) zgs_nil)))) (zo_tm (b_int T.b_int (zo_tm (ze_cmp op_gt ruGt (vO 5) (zo_tm ze_int) (nomark _))))))) zos_nil)) (zp_nm sc__law_graph.nd) (tgr_nm (by decide)) (zss_one (zs_set (ze_ix (ixAll rfl hr.hu) ruGet (zo_tm (ze_lst (za_cons ze_str (za_cons ze_str za_nil)))) (zo_tm (zc_ca [] tk C__law_take hr (by decide) (mem_ix (i := 0) rfl) (zgs_cons (vG 0) (zgs_cons (zg_tm ze_int) zgs_nil)))) (fun _ _ => rfl)) (by decide) (pg_sub (pv 7) (zo_tm (ze_ix (ixAll rfl hr.hu) ruGet (vO 3) (zo_tm (zc_ca [] tk C__law_take hr (by decide) (mem_ix (i := 0) rfl) (zgs_cons (vG 0) (zgs_cons (vG 5) zgs_nil)))) (fun _ _ => rfl))) (set_any hr.hu)))))
    (zss_one (zs_set (vE 7) (by decide) (pg_sub (pv 4) (vO 6) (set_any hr.hu)))))))
    (zss_one (zs_ret (vE 4)))))
theorem cl_has_letters (T : Tx P w c mg base) (D0 : Df c mg "has_letters" s_has_letters P_has_letters dd_has_letters kk_has_letters)  : Cl P w c mg base 2 "has_letters" P_has_letters f_has_letters dd_has_letters kk_has_letters :=
  cl_of (N := N_has_letters) (k := 1) (body := b_has_letters) D0 sc_has_letters (by decide) fun _ cdv A outer s H E W hr tk =>
    (zss_one (zs_ret (ze_and (ze_ch op_le op_le ze_int (b_len T.b_len (vO 0)) (ze_gv T.g_LONGEST)) (ze_one (b_all T.b_all (zo_tm (ze_lc (own := [("sign", 1)]) rfl sc_has_letters.nd (zi_seq rfl (vE 0)) (blkOk_by (by show blkC N_has_letters (defScope s_has_letters) _ _ = true; decide +kernel)) (fun _ _ _ _ _ => zp_nm sc_has_letters.nd) (tgr_nm (by decide)) (fun _ _ _ _ _ => zts_nil) (fun _ _ _ _ _ => (ze_cmp (opIn rfl hr.hu) ruIn (vO 1) (zo_tm (ze_gv T.g_LETTERS)) (by with_unfolding_all rfl))))))))))
theorem cl_is_name (T : Tx P w c mg base) (D0 : Df c mg "is_name" s_is_name P_is_name dd_is_name kk_is_name) (C_has_letters : Cl P w c mg base 2 "has_letters" P_has_letters f_has_letters dd_has_letters kk_has_letters) : Cl P w c mg base 3 "is_name" P_is_name f_is_name dd_is_name kk_is_name :=
  cl_of (N := N_is_name) (k := 2) (body := b_is_name) D0 sc_is_name (by decide) fun _ cdv A outer s H E W hr tk =>
    (zss_one (zs_ret (ze_and (zc_ca [] tk C_has_letters hr (by decide) (mem_ix (i := 0) rfl) (zgs_cons (vG 0) zgs_nil)) (ze_one (ze_cmp (opNotIn rfl hr.hu) ruNotIn (vO 0) (zo_tm (ze_gv T.g_KEPT_WORDS)) (by with_unfolding_all rfl))))))
theorem cl_graph_of (T : Tx P w c mg base) (D0 : Df c mg "graph_of" s_graph_of P_graph_of dd_graph_of kk_graph_of)  : Cl P w c mg base 2 "graph_of" P_graph_of f_graph_of dd_graph_of kk_graph_of :=
  cl_of (N := N_graph_of) (k := 1) (body := b_graph_of) D0 sc_graph_of (by decide) fun _ cdv A outer s H E W hr tk =>
    (zss_one (zs_ret (ze_dc (own := [("name", 1), ("links", 2)]) rfl sc_graph_of.nd (zi_seq rfl (vE 0)) (blkOk_by (by show blkC N_graph_of (defScope s_graph_of) _ _ = true; decide +kernel)) (fun _ _ _ _ _ => pg_tup rfl (pgs_cons (zp_nm sc_graph_of.nd) (pgs_cons (zp_nm sc_graph_of.nd) pgs_nil))) (tgr_tp (by decide)) (fun _ _ _ _ _ => zts_nil) (fun _ _ _ _ _ => (vE 1)) (fun _ _ _ _ _ => (ze_dc (own := [("kind", 3), ("target", 4)]) rfl sc_graph_of.nd (zi_seq rfl (vE 2)) (blkOk_by (by rfl)) (fun _ _ _ _ _ => pg_tup rfl (pgs_cons (zp_nm sc_graph_of.nd) (pgs_cons (zp_nm sc_graph_of.nd) pgs_nil))) (tgr_tp (by decide)) (fun _ _ _ _ _ => zts_nil) (fun _ _ _ _ _ => (vE 4)) (fun _ _ _ _ _ => (vE 3)))))))
theorem cl_reached (T : Tx P w c mg base) (D0 : Df c mg "reached" s_reached P_reached dd_reached kk_reached)  : Cl P w c mg base 2 "reached" P_reached f_reached dd_reached kk_reached :=
  cl_of (N := N_reached) (k := 1) (body := b_reached) D0 sc_reached (by decide) fun _ cdv A outer s H E W hr tk =>
    (zss_cons (vS 2 sc_reached.nd ze_dn)
    (zss_cons (vS 3 sc_reached.nd (b_listA T.b_list (zo_tm (ze_ix (ixAll rfl hr.hu) ruGet (vO 0) (vO 1) (fun _ _ => rfl)))))
    (zss_cons (zs_while (passes_of rfl) (zt_cmp op_gt ruGt (zo_tm (b_len T.b_len (vO 3))) (zo_tm ze_int) (nomark _)) (zss_cons (vS 4 sc_reached.nd (m_pop 3))
    (zss_one (zs_if (zt_cmp (opNotIn rfl hr.hu) ruNotIn (vO 4) (vO 2) (by with_unfolding_all rfl)) (zss_cons (zs_set ze_bl (by decide) (pg_sub (pv 2) (vO 4) (set_any hr.hu)))
    (zss_one (zs_expr (m_ext 3 (b_listA T.b_list (zo_tm (ze_ix (ixAll rfl hr.hu) ruGet (vO 0) (vO 4) (fun _ _ => rfl)))))))) zss_nil))))
    (zss_one (zs_ret (vE 2))))))
theorem cl_look_rows (T : Tx P w c mg base) (D0 : Df c mg "look_rows" s_look_rows P_look_rows dd_look_rows kk_look_rows) (C_graph_of : Cl P w c mg base 2 "graph_of" P_graph_of f_graph_of dd_graph_of kk_graph_of) (C_is_name : Cl P w c mg base 3 "is_name" P_is_name f_is_name dd_is_name kk_is_name) (C_reached : Cl P w c mg base 2 "reached" P_reached f_reached dd_reached kk_reached) : Cl P w c mg base 4 "look_rows" P_look_rows f_look_rows dd_look_rows kk_look_rows :=
  cl_of (N := N_look_rows) (k := 3) (body := b_look_rows) D0 sc_look_rows (by decide) fun _ cdv A outer s H E W hr tk =>
    (zss_cons (vS 1 sc_look_rows.nd ze_dn)
    (zss_cons (zs_for (passes_of rfl) rfl (zi_seq rfl (vE 0)) (pg_tup rfl (pgs_cons (zp_nm sc_look_rows.nd) (pgs_cons (zp_nm sc_look_rows.nd) pgs_nil))) (tgr_tp (by decide)) (zss_cons (zs_if (zt_not (zt_tru rfl (zo_tm (zc_ca [] tk C_is_name hr (by decide) (mem_ix (i := 0) rfl) (zgs_cons (vG 3) zgs_nil))))) (zss_one (zs_raise tk T.x_BadName (hr.mono (by decide)) (vE 3))) zss_nil)
    (zss_cons (zs_if (zt_cmp (opIn rfl hr.hu) ruIn (vO 3) (vO 1) (by with_unfolding_all rfl)) (zss_one (zs_raise tk T.x_Taken (hr.mono (by decide)) (vE 3))) zss_nil)
    (zss_one (zs_set ze_bl (by decide) (pg_sub (pv 1) (vO 3) (set_any hr.hu)))))))
    (zss_cons (zs_for (passes_of rfl) rfl (zi_seq rfl (vE 0)) (pg_tup rfl (pgs_cons (zp_nm sc_look_rows.nd) (pgs_cons (zp_nm sc_look_rows.nd) pgs_nil))) (tgr_tp (by decide)) (zss_one (zs_for (passes_of rfl) rfl (zi_seq rfl (vE 4)) (pg_tup rfl (pgs_cons (zp_nm sc_look_rows.nd) (pgs_cons (zp_nm sc_look_rows.nd) pgs_nil))) (tgr_tp (by decide)) (zss_one (zs_if (zt_cmp (opNotIn rfl hr.hu) ruNotIn (vO 6) (vO 1) (by with_unfolding_all rfl)) (zss_one (zs_raise tk T.x_Missing (hr.mono (by decide)) (vE 6))) zss_nil)))))
    (zss_cons (vS 2 sc_look_rows.nd (zc_ca [] tk C_graph_of hr (by decide) (mem_ix (i := 0) rfl) (zgs_cons (vG 0) zgs_nil)))
    (zss_one (zs_for (passes_of rfl) rfl (zi_seq rfl (vE 0)) (pg_tup rfl (pgs_cons (zp_nm sc_look_rows.nd) (pgs_cons (zp_nm sc_look_rows.nd) pgs_nil))) (tgr_tp (by decide)) (zss_one (zs_if (zt_cmp (opIn rfl hr.hu) ruIn (vO 3) (zo_tm (zc_ca [] tk C_reached hr (by decide) (mem_ix (i := 0) rfl) (zgs_cons (vG 2) (zgs_cons (vG 3) zgs_nil)))) (by with_unfolding_all rfl)) (zss_one (zs_raise tk T.x_Cycle (hr.mono (by decide)) (vE 3))) zss_nil))))))))
theorem cl_Catalog_init (T : Tx P w c mg base) (D0 : Dk c mg "Catalog" "Catalog.__init__" s_Catalog_init P_Catalog_init dd_Catalog_init) (C_graph_of : Cl P w c mg base 2 "graph_of" P_graph_of f_graph_of dd_graph_of kk_graph_of) (C_look_rows : Cl P w c mg base 4 "look_rows" P_look_rows f_look_rows dd_look_rows kk_look_rows) : Ck P w c mg base 5 "Catalog" P_Catalog_init f_Catalog_init dd_Catalog_init :=
  ck_of (N := N_Catalog_init) (k := 4) (body := b_Catalog_init) D0 sc_Catalog_init (by decide) fun _ cdv A outer s H E W hr tk =>
    (zss_cons (zs_expr (zc_ca [] tk C_look_rows hr (by decide) (mem_ix (i := 0) rfl) (zgs_cons (vG 1) zgs_nil)))
    (zss_one (vF 0 (zc_ca [] tk C_graph_of hr (by decide) (mem_ix (i := 0) rfl) (zgs_cons (vG 1) zgs_nil)) T.q_graph)))
theorem cl__law_rows (T : Tx P w c mg base) (D0 : Df c mg "_law_rows" s__law_rows P__law_rows dd__law_rows kk__law_rows) (C__law_shuffled : Cl P w c mg base 3 "_law_shuffled" P__law_shuffled f__law_shuffled dd__law_shuffled kk__law_shuffled) : Cl P w c mg base 4 "_law_rows" P__law_rows f__law_rows dd__law_rows kk__law_rows :=
  cl_of (N := N__law_rows) (k := 3) (body := b__law_rows) D0 sc__law_rows (by decide) fun _ cdv A outer s H E W hr tk =>
    (zss_cons (vS 2 sc__law_rows.nd (ze_lst za_nil))
    (zss_cons (zs_for (passes_of rfl) rfl (zi_seq rfl (zc_ca [] tk C__law_shuffled hr (by decide) (mem_ix (i := 0) rfl) (zgs_cons (vG 0) (zgs_cons (zg_tm (b_listA T.b_list (vO 1))) zgs_nil)))) (zp_nm sc__law_rows.nd) (tgr_nm (by decide)) (zss_cons (zs_setLc 4 (own := [("_law_target", 5)]) rfl sc__law_rows.nd (zi_seq rfl (ze_ix (ixAll rfl hr.hu) ruGet (vO 1) (vO 3) (fun _ _ => rfl))) (blkOk_by (by show blkC N__law_rows (defScope s__law_rows) _ _ = true; decide +kernel)) (fun _ _ _ _ _ => zp_nm sc__law_rows.nd) (tgr_nm (by decide)) (fun _ _ _ _ _ => zts_nil) (fun _ _ _ _ _ => (ze_tup (za_cons (ze_ix (ixAll rfl hr.hu) ruGet (zo_tm (ze_ix (ixAll rfl hr.hu) ruGet (vO 1) (vO 3) (fun _ _ => rfl))) (vO 5) (fun _ _ => rfl)) (za_cons (vE 5) za_nil)))))
    (zss_one (zs_expr (m_app 2 (ze_tup (za_cons (vE 3) (za_cons (b_tuple T.b_tuple (zo_tm (zc_ca [] tk C__law_shuffled hr (by decide) (mem_ix (i := 0) rfl) (zgs_cons (vG 0) (zgs_cons (vG 4) zgs_nil))))) za_nil))))))))
    (zss_one (zs_ret (vE 2)))))
theorem cl_check_there (T : Tx P w c mg base) (D0 : Df c mg "check_there" s_check_there P_check_there dd_check_there kk_check_there)  : Cl P w c mg base 3 "check_there" P_check_there f_check_there dd_check_there kk_check_there :=
  cl_of (N := N_check_there) (k := 2) (body := b_check_there) D0 sc_check_there (by decide) fun _ cdv A outer s H E W hr tk =>
    (zss_one (zs_if (zt_cmp (opNotIn rfl hr.hu) ruNotIn (vO 1) (vO 0) (by with_unfolding_all rfl)) (zss_one (zs_raise tk T.x_Missing (hr.mono (by decide)) (vE 1))) zss_nil))
theorem cl_known_ends (T : Tx P w c mg base) (D0 : Df c mg "known_ends" s_known_ends P_known_ends dd_known_ends kk_known_ends)  : Cl P w c mg base 2 "known_ends" P_known_ends f_known_ends dd_known_ends kk_known_ends :=
  cl_of (N := N_known_ends) (k := 1) (body := b_known_ends) D0 sc_known_ends (by decide) fun _ cdv A outer s H E W hr tk =>
    (zss_cons (vS 4 sc_known_ends.nd ze_dn)
    (zss_cons (vS 5 sc_known_ends.nd ze_dn)
    (zss_cons (vS 6 sc_known_ends.nd (ze_lst (za_cons (vE 1) za_nil)))
    (zss_cons (zs_while (passes_of rfl) (zt_cmp op_gt ruGt (zo_tm (b_len T.b_len (vO 6))) (zo_tm ze_int) (nomark _)) (zss_cons (vS 7 sc_known_ends.nd (m_pop 6))
    (zss_one (zs_for (passes_of rfl) rfl (zi_items (ze_ix (ixAll rfl hr.hu) ruGet (vO 0) (vO 7) (fun _ _ => rfl))) (pg_tup rfl (pgs_cons (zp_nm sc_known_ends.nd) (pgs_cons (zp_nm sc_known_ends.nd) pgs_nil))) (tgr_tp (by decide)) (zss_one (zs_if (zt_w (zw_and (zt_cmp (opIn rfl hr.hu) ruIn (vO 9) (vO 3) (by with_unfolding_all rfl)) (zw_and1 (zt_cmp (opIn rfl hr.hu) ruIn (vO 8) (vO 2) (by with_unfolding_all rfl))))) (zss_one (zs_set ze_bl (by decide) (pg_sub (pv 4) (vO 8) (set_any hr.hu)))) (zss_one (zs_if (zt_w (zw_and (zt_cmp (opIn rfl hr.hu) ruIn (vO 9) (vO 3) (by with_unfolding_all rfl)) (zw_and1 (zt_cmp (opNotIn rfl hr.hu) ruNotIn (vO 8) (vO 5) (by with_unfolding_all rfl))))) (zss_cons (zs_set ze_bl (by decide) (pg_sub (pv 5) (vO 8) (set_any hr.hu)))
    (zss_one (zs_expr (m_app 6 (vE 8))))) zss_nil))))))))
    (zss_one (zs_ret (vE 4)))))))
theorem cl_leads (T : Tx P w c mg base) (D0 : Df c mg "leads" s_leads P_leads dd_leads kk_leads) (C_check_there : Cl P w c mg base 3 "check_there" P_check_there f_check_there dd_check_there kk_check_there) (C_known_ends : Cl P w c mg base 2 "known_ends" P_known_ends f_known_ends dd_known_ends kk_known_ends) : Cl P w c mg base 4 "leads" P_leads f_leads dd_leads kk_leads :=
  cl_of (N := N_leads) (k := 3) (body := b_leads) D0 sc_leads (by decide) fun _ cdv A outer s H E W hr tk =>
    (zss_cons (zs_expr (zc_ca [] tk C_check_there hr (by decide) (mem_ix (i := 0) rfl) (zgs_cons (zg_tm (ze_fld (vO 0) T.q_graph)) (zgs_cons (vG 1) zgs_nil))))
    (zss_cons (vS 3 sc_leads.nd (zc_ca [] tk C_known_ends hr (by decide) (mem_ix (i := 0) rfl) (zgs_cons (zg_tm (ze_fld (vO 0) T.q_graph)) (zgs_cons (vG 1) (zgs_cons (vG 2) (zgs_cons (zg_tm (ze_tup (za_cons ze_str za_nil))) zgs_nil))))))
    (zss_cons (vS 4 sc_leads.nd (ze_lst za_nil))
    (zss_cons (zs_for (passes_of rfl) rfl (zi_seq rfl (b_sorted T.b_sorted T.b_str (zo_tm (zc_ca [] tk C_known_ends hr (by decide) (mem_ix (i := 0) rfl) (zgs_cons (zg_tm (ze_fld (vO 0) T.q_graph)) (zgs_cons (vG 1) (zgs_cons (vG 2) (zgs_cons (zg_tm (ze_tup (za_cons ze_str (za_cons ze_str za_nil)))) zgs_nil)))))) hr.units)) (zp_nm sc_leads.nd) (tgr_nm (by decide)) (zss_one (zs_if (zt_cmp (opIn rfl hr.hu) ruIn (vO 5) (vO 3) (by with_unfolding_all rfl)) (zss_one (zs_expr (m_app 4 (ze_tup (za_cons ze_str (za_cons (vE 5) za_nil)))))) (zss_one (zs_expr (m_app 4 (ze_tup (za_cons ze_str (za_cons (vE 5) za_nil)))))))))
    (zss_one (zs_ret (b_tuple T.b_tuple (vO 4))))))))
theorem cl__law_paths (T : Tx P w c mg base) (D0 : Df c mg "_law_paths" s__law_paths P__law_paths dd__law_paths kk__law_paths)  : Cl P w c mg base 2 "_law_paths" P__law_paths f__law_paths dd__law_paths kk__law_paths :=
  cl_of (N := N__law_paths) (k := 1) (body := b__law_paths) D0 sc__law_paths (by decide) fun _ cdv A outer s H E W hr tk =>
    (zss_cons (zs_par rfl sc__law_paths.nd rfl rfl (by decide) rfl rfl (za_cons (ze_lst za_nil) (za_cons (ze_lst (za_cons (ze_tup (za_cons (vE 1) (za_cons ze_bl za_nil))) za_nil)) za_nil)))
    (zss_cons (zs_while (passes_of rfl) (zt_cmp (opNe rfl hr.units) ruNe (vO 4) (zo_tm (ze_lst za_nil)) (nomark _)) (zss_cons (zs_asgF (m_pop 4) (pg_tup rfl (pgs_cons (zp_nm sc__law_paths.nd) (pgs_cons (zp_nm sc__law_paths.nd) pgs_nil))) (tgr_tp (by decide)))
    (zss_one (zs_for (passes_of rfl) rfl (zi_seq rfl (ze_ix (ixAll rfl hr.hu) ruGet (vO 0) (vO 6) (fun _ _ => rfl))) (zp_nm sc__law_paths.nd) (tgr_nm (by decide)) (zss_cons (vS 8 sc__law_paths.nd (ze_tup (za_cons (vE 5) (za_cons (ze_and (vE 7) (ze_one (ze_cmp (opEq rfl hr.units) ruEq (zo_tm (ze_ix (ixAll rfl hr.hu) ruGet (zo_tm (ze_ix (ixAll rfl hr.hu) ruGet (vO 0) (vO 6) (fun _ _ => rfl))) (vO 5) (fun _ _ => rfl))) (zo_tm ze_str) (nomark _)))) za_nil))))
    (zss_one (zs_if (zt_cmp (opNotInD rfl hr.hu65) ruNotInD (vO 8) (vO 3) (by with_unfolding_all rfl)) (zss_cons (zs_expr (m_app 3 (vE 8)))
    (zss_one (zs_expr (m_ext 4 (ze_bin opMul ruMul (zo_tm (ze_lst (za_cons (vE 8) za_nil))) (zo_tm (b_int T.b_int (zo_tm (ze_cmp (opNotIn rfl hr.hu) ruNotIn (vO 5) (vO 2) (by with_unfolding_all rfl)))))))))) zss_nil)))))))
    (zss_one (zs_ret (ze_lc (own := [("_law_one", 8)]) rfl sc__law_paths.nd (zi_seq rfl (vE 3)) (blkOk_by (by show blkC N__law_paths (defScope s__law_paths) _ _ = true; decide +kernel)) (fun _ _ _ _ _ => zp_nm sc__law_paths.nd) (tgr_nm (by decide)) (fun _ _ _ _ _ => zts_one (zt_cmp (opIn rfl hr.hu) ruIn (zo_tm (ze_ix (ixAll rfl hr.hu) ruGet (vO 8) (zo_tm ze_int) (fun _ _ => rfl))) (vO 2) (by with_unfolding_all rfl))) (fun _ _ _ _ _ => (vE 8)))))))
theorem cl__law_due (T : Tx P w c mg base) (D0 : Df c mg "_law_due" s__law_due P__law_due dd__law_due kk__law_due) (C__law_paths : Cl P w c mg base 2 "_law_paths" P__law_paths f__law_paths dd__law_paths kk__law_paths) : Cl P w c mg base 3 "_law_due" P__law_due f__law_due dd__law_due kk__law_due :=
  cl_of (N := N__law_due) (k := 2) (body := b__law_due) D0 sc__law_due (by decide) fun _ cdv A outer s H E W hr tk =>
    (zss_cons (vS 3 sc__law_due.nd (zc_ca [] tk C__law_paths hr (by decide) (mem_ix (i := 0) rfl) (zgs_cons (vG 0) (zgs_cons (vG 1) (zgs_cons (vG 2) zgs_nil)))))
    (zss_cons (zs_setLc 4 (own := [("_law_target", 5)]) rfl sc__law_due.nd (zi_seq rfl (b_sorted T.b_sorted T.b_str (zo_tm (b_listA T.b_list (vO 0))) hr.units)) (blkOk_by (by show blkC N__law_due (defScope s__law_due) _ _ = true; decide +kernel)) (fun _ _ _ _ _ => zp_nm sc__law_due.nd) (tgr_nm (by decide)) (fun _ _ _ _ _ => zts_one (zt_w (zw_or (zt_cmp (opInD rfl hr.hu65) ruInD (zo_tm (ze_tup (za_cons (vE 5) (za_cons ze_bl za_nil)))) (vO 3) (by with_unfolding_all rfl)) (zw_or1 (zt_cmp (opInD rfl hr.hu65) ruInD (zo_tm (ze_tup (za_cons (vE 5) (za_cons ze_bl za_nil)))) (vO 3) (by with_unfolding_all rfl)))))) (fun _ _ _ _ _ => (vE 5)))
    (zss_one (zs_ret (b_tuple T.b_tuple (zo_tm (ze_lc (own := [("_law_target", 5)]) rfl sc__law_due.nd (zi_seq rfl (vE 4)) (blkOk_by (by show blkC N__law_due (defScope s__law_due) _ _ = true; decide +kernel)) (fun _ _ _ _ _ => zp_nm sc__law_due.nd) (tgr_nm (by decide)) (fun _ _ _ _ _ => zts_nil) (fun _ _ _ _ _ => (ze_tup (za_cons (ze_ix (ixAll rfl hr.hu) ruGet (zo_tm (ze_lst (za_cons ze_str (za_cons ze_str za_nil)))) (zo_tm (b_int T.b_int (zo_tm (ze_cmp (opInD rfl hr.hu65) ruInD (zo_tm (ze_tup (za_cons (vE 5) (za_cons ze_bl za_nil)))) (vO 3) (by with_unfolding_all rfl))))) (fun _ _ => rfl)) (za_cons (vE 5) za_nil)))))))))))
theorem cl__law_missing (T : Tx P w c mg base) (D0 : Df c mg "_law_missing" s__law_missing P__law_missing dd__law_missing kk__law_missing) (C_leads : Cl P w c mg base 4 "leads" P_leads f_leads dd_leads kk_leads) : Cl P w c mg base 5 "_law_missing" P__law_missing f__law_missing dd__law_missing kk__law_missing :=
  cl_of (N := N__law_missing) (k := 4) (body := b__law_missing) D0 sc__law_missing (by decide) fun _ cdv A outer s H E W hr tk =>
    (zss_cons (vS 3 sc__law_missing.nd ze_bl)
    (zss_cons (zs_try tk rfl rfl (fun _ _ _ tk ps => (zss_one (vS 3 sc__law_missing.nd (z_isN (zo_tm (zc_ca [] tk C_leads hr (by decide) (mem_ix (i := 0) rfl) (zgs_cons (vG 0) (zgs_cons (vG 1) (zgs_cons (vG 2) zgs_nil))))))))) (zh_as 4 T.h_Missing sc__law_missing.nd (fun a oe cls d pn hz hf => zh_eqX 3 1 T.x_Missing hr.units sc__law_missing.nd (fun _ TX hn => pe_xf TX hn hz hf (pv 4)) (pv 1)) ZHs.nil))
    (zss_one (zs_ret (vE 3)))))
theorem cl_links_in (T : Tx P w c mg base) (D0 : Df c mg "links_in" s_links_in P_links_in dd_links_in kk_links_in)  : Cl P w c mg base 2 "links_in" P_links_in f_links_in dd_links_in kk_links_in :=
  cl_of (N := N_links_in) (k := 1) (body := b_links_in) D0 sc_links_in (by decide) fun _ cdv A outer s H E W hr tk =>
    (zss_cons (vS 2 sc_links_in.nd (ze_ix (ixAll rfl hr.hu) ruGet (vO 0) (vO 1) (fun _ _ => rfl)))
    (zss_one (zs_ret (b_tuple T.b_tuple (zo_tm (ze_lc (own := [("target", 3)]) rfl sc_links_in.nd (zi_seq rfl (b_sorted T.b_sorted T.b_str (vO 2) hr.units)) (blkOk_by (by show blkC N_links_in (defScope s_links_in) _ _ = true; decide +kernel)) (fun _ _ _ _ _ => zp_nm sc_links_in.nd) (tgr_nm (by decide)) (fun _ _ _ _ _ => zts_nil) (fun _ _ _ _ _ => (ze_tup (za_cons (ze_ix (ixAll rfl hr.hu) ruGet (vO 2) (vO 3) (fun _ _ => rfl)) (za_cons (vE 3) za_nil))))))))))
theorem cl_rows_of (T : Tx P w c mg base) (D0 : Df c mg "rows_of" s_rows_of P_rows_of dd_rows_of kk_rows_of) (C_links_in : Cl P w c mg base 2 "links_in" P_links_in f_links_in dd_links_in kk_links_in) : Cl P w c mg base 3 "rows_of" P_rows_of f_rows_of dd_rows_of kk_rows_of :=
  cl_of (N := N_rows_of) (k := 2) (body := b_rows_of) D0 sc_rows_of (by decide) fun _ cdv A outer s H E W hr tk =>
    (zss_one (zs_ret (b_tuple T.b_tuple (zo_tm (ze_lc (own := [("name", 1)]) rfl sc_rows_of.nd (zi_seq rfl (b_sorted T.b_sorted T.b_str (vO 0) hr.units)) (blkOk_by (by show blkC N_rows_of (defScope s_rows_of) _ _ = true; decide +kernel)) (fun _ _ _ _ _ => zp_nm sc_rows_of.nd) (tgr_nm (by decide)) (fun _ _ _ _ _ => zts_nil) (fun _ _ _ _ _ => (ze_tup (za_cons (vE 1) (za_cons (zc_ca [] takes_none5 C_links_in hr (by decide) (mem_ix (i := 0) rfl) (zgs_cons (vG 0) (zgs_cons (vG 1) zgs_nil))) za_nil)))))))))
theorem cl_Catalog_rows (T : Tx P w c mg base) (D0 : Dm c "Catalog" "rows" "Catalog.rows" s_Catalog_rows P_Catalog_rows dd_Catalog_rows) (C_rows_of : Cl P w c mg base 3 "rows_of" P_rows_of f_rows_of dd_rows_of kk_rows_of) : Cm P w c mg base 4 "Catalog" "rows" P_Catalog_rows f_Catalog_rows dd_Catalog_rows :=
  cm_of (N := N_Catalog_rows) (k := 3) (body := b_Catalog_rows) D0 sc_Catalog_rows (by decide) fun _ cdv A outer s H E W hr tk =>
    (zss_one (zs_ret (zc_ca [] tk C_rows_of hr (by decide) (mem_ix (i := 0) rfl) (zgs_cons (zg_tm (ze_fld (vO 0) T.q_graph)) zgs_nil))))
theorem cl__law_told (T : Tx P w c mg base) (D0 : Df c mg "_law_told" s__law_told P__law_told dd__law_told kk__law_told)  : Cl P w c mg base 2 "_law_told" P__law_told f__law_told dd__law_told kk__law_told :=
  cl_of (N := N__law_told) (k := 1) (body := b__law_told) D0 sc__law_told (by decide) fun _ cdv A outer s H E W hr tk =>
    (zss_cons (vS 1 sc__law_told.nd (ze_lst za_nil))
    (zss_cons (zs_for (passes_of rfl) rfl (zi_seq rfl (b_sorted T.b_sorted T.b_str (zo_tm (b_listA T.b_list (vO 0))) hr.units)) (zp_nm sc__law_told.nd) (tgr_nm (by decide)) (zss_cons (vS 3 sc__law_told.nd (ze_ix (ixAll rfl hr.hu) ruGet (vO 0) (vO 2) (fun _ _ => rfl)))
    (zss_one (zs_expr (m_app 1 (ze_tup (za_cons (vE 2) (za_cons (b_tuple T.b_tuple (zo_tm (ze_lc (own := [("_law_target", 4)]) rfl sc__law_told.nd (zi_seq rfl (b_sorted T.b_sorted T.b_str (zo_tm (b_listA T.b_list (vO 3))) hr.units)) (blkOk_by (by show blkC N__law_told (defScope s__law_told) _ _ = true; decide +kernel)) (fun _ _ _ _ _ => zp_nm sc__law_told.nd) (tgr_nm (by decide)) (fun _ _ _ _ _ => zts_nil) (fun _ _ _ _ _ => (ze_tup (za_cons (ze_ix (ixAll rfl hr.hu) ruGet (vO 3) (vO 4) (fun _ _ => rfl)) (za_cons (vE 4) za_nil))))))) za_nil))))))))
    (zss_one (zs_ret (b_tuple T.b_tuple (vO 1))))))
theorem ok_law {f : Addr} {fd : FuncData} (T : Tx P w c mg base) (F0 : FunX c.K "law" "law" s_law f fd) (C_Catalog_init : Ck P w c mg base 5 "Catalog" P_Catalog_init f_Catalog_init dd_Catalog_init) (C_Catalog_rows : Cm P w c mg base 4 "Catalog" "rows" P_Catalog_rows f_Catalog_rows dd_Catalog_rows) (C__law_box : Cl P w c mg base 2 "_law_box" P__law_box f__law_box dd__law_box kk__law_box) (C__law_due : Cl P w c mg base 3 "_law_due" P__law_due f__law_due dd__law_due kk__law_due) (C__law_graph : Cl P w c mg base 4 "_law_graph" P__law_graph f__law_graph dd__law_graph kk__law_graph) (C__law_missing : Cl P w c mg base 5 "_law_missing" P__law_missing f__law_missing dd__law_missing kk__law_missing) (C__law_names : Cl P w c mg base 3 "_law_names" P__law_names f__law_names dd__law_names kk__law_names) (C__law_rows : Cl P w c mg base 4 "_law_rows" P__law_rows f__law_rows dd__law_rows kk__law_rows) (C__law_shuffled : Cl P w c mg base 3 "_law_shuffled" P__law_shuffled f__law_shuffled dd__law_shuffled kk__law_shuffled) (C__law_take : Cl P w c mg base 2 "_law_take" P__law_take f__law_take dd__law_take kk__law_take) (C__law_told : Cl P w c mg base 2 "_law_told" P__law_told f__law_told dd__law_told kk__law_told) (C_leads : Cl P w c mg base 4 "leads" P_leads f_leads dd_leads kk_leads) : FnG P w c.K mg base 7 f fd P_law (spZ c P_law.length f_law) :=
  ok_fn (N := N_law) (k := 6) (body := b_law) F0 sc_law (by decide) fun cdv A outer s H E W hr tk =>
    (zss_cons (zs_for (passes_of rfl) rfl (zi_rng1 rfl T.b_range (zos_cons (zo_tm (ze_bin (opAdd rfl) ruAdd (zo_tm ze_int) (zo_tm (b_len T.b_len (zo_tm (ze_sl rfl (vO 0) zp_no (zp_is ze_int))))))) zos_nil)) (zp_nm sc_law.nd) (tgr_nm (by decide)) (zss_cons (vS 2 sc_law.nd (zc_ca [] tk C__law_box hr (by decide) (mem_ix (i := 0) rfl) (zgs_cons (vG 0) (zgs_cons (vG 1) zgs_nil))))
    (zss_cons (vS 3 sc_law.nd (zc_ca [] tk C__law_names hr (by decide) (mem_ix (i := 0) rfl) (zgs_cons (vG 2) (zgs_cons (zg_tm ze_int) zgs_nil))))
    (zss_cons (vS 4 sc_law.nd (zc_ca [] tk C__law_graph hr (by decide) (mem_ix (i := 0) rfl) (zgs_cons (vG 2) (zgs_cons (zg_tm (ze_sl rfl (vO 3) zp_no (zp_is (ze_bin (opAdd rfl) ruAdd (zo_tm ze_int) (zo_tm (zc_ca [] tk C__law_take hr (by decide) (mem_ix (i := 0) rfl) (zgs_cons (vG 2) (zgs_cons (zg_tm ze_int) zgs_nil)))))))) (zgs_cons (zg_tm ze_int) zgs_nil)))))
    (zss_cons (vS 5 sc_law.nd (zc_mk [] tk C_Catalog_init hr (by decide) (mem_ix (i := 0) rfl) (zgs_cons (zg_tm (zc_ca [] tk C__law_rows hr (by decide) (mem_ix (i := 0) rfl) (zgs_cons (vG 2) (zgs_cons (vG 4) zgs_nil)))) zgs_nil)))
    (zss_cons (vS 6 sc_law.nd (b_tuple T.b_tuple (zo_tm (ze_sl rfl (zo_tm (zc_ca [] tk C__law_shuffled hr (by decide) (mem_ix (i := 0) rfl) (zgs_cons (vG 2) (zgs_cons (vG 3) zgs_nil)))) zp_no (zp_is (zc_ca [] tk C__law_take hr (by decide) (mem_ix (i := 0) rfl) (zgs_cons (vG 2) (zgs_cons (zg_tm ze_int) zgs_nil))))))))
    (zss_cons (zs_for (passes_of rfl) rfl (zi_seq rfl (ze_bin (opAdd rfl) ruAdd (vO 3) (zo_tm (ze_sl rfl (vO 3) zp_no (zp_is ze_int))))) (zp_nm sc_law.nd) (tgr_nm (by decide)) (zss_one (zs_if (zt_cmp (opIn rfl hr.hu) ruIn (vO 7) (vO 4) (by with_unfolding_all rfl)) (zss_cons (vS 8 sc_law.nd (zc_ca [] tk C_leads hr (by decide) (mem_ix (i := 0) rfl) (zgs_cons (vG 5) (zgs_cons (vG 7) (zgs_cons (vG 6) zgs_nil)))))
    (zss_one (zs_if (zt_w (zw_or (zt_not (zt_tru rfl (zo_tm (b_isi T.b_isinstance T.b_tuple (by decide +kernel) (vO 8))))) (zw_or1 (zt_cmp (opNe rfl hr.units) ruNe (vO 8) (zo_tm (zc_ca [] tk C__law_due hr (by decide) (mem_ix (i := 0) rfl) (zgs_cons (vG 4) (zgs_cons (vG 7) (zgs_cons (vG 6) zgs_nil))))) (nomark _))))) (zss_one (zs_ret ze_bl)) zss_nil))) (zss_one (zs_if (zt_not (zt_tru rfl (zo_tm (zc_ca [] tk C__law_missing hr (by decide) (mem_ix (i := 0) rfl) (zgs_cons (vG 5) (zgs_cons (vG 7) (zgs_cons (vG 6) zgs_nil))))))) (zss_one (zs_ret ze_bl)) zss_nil)))))
    (zss_one (zs_if (zt_cmp (opNe rfl hr.units) ruNe (zo_tm (zc_mt0 [] tk C_Catalog_rows hr (by decide) (mem_ix (i := 0) rfl) (vG 5))) (zo_tm (zc_ca [] tk C__law_told hr (by decide) (mem_ix (i := 0) rfl) (zgs_cons (vG 4) zgs_nil))) (nomark _)) (zss_one (zs_ret ze_bl)) zss_nil)))))))))
    (zss_one (zs_ret ze_bl)))
theorem all_mk {l : PySem.W.OpenLaw} {w : World} {K : PySem.W.Frag} {h : Heap} {mg : Str → Option Value} {fa : Addr} (X0 : K.In h) (G0 : h.Ns mainGlobals mg) (hfa : mg "law" = some (.ref fa))
    {u_LONGEST : Value}
    {u_LETTERS : Value}
    {p_KEPT_WORDS : Addr} {o_KEPT_WORDS : Option Addr} {i_KEPT_WORDS : Array Value} {n_KEPT_WORDS : Nat} {s_KEPT_WORDS : Array (Option Value)}
    {K_Catalog : Addr}
    {K_BadName : Addr}
    {K_Taken : Addr}
    {K_Missing : Addr}
    {K_Cycle : Addr}
    {K_CatalogError : Addr}
    {nm_BadName qq_BadName : Str} {N_BadName I_BadName : Addr} {bs_BadName : List Value} {sn_BadName : List Str} {sb_BadName : List Value} {ab_BadName : Bool} {co_BadName : Option Bool} {dd_BadName : Option Addr} {k0_BadName k1_BadName k2_BadName k3_BadName k5_BadName : Option Value}
    {xod_BadName xan_BadName : Option Addr} {xsl_BadName : Array (Option Value)} {xoc_BadName xkV_BadName xdc_BadName xpm_BadName xcd_BadName xct_BadName : Value}
    {nm_Taken qq_Taken : Str} {N_Taken I_Taken : Addr} {bs_Taken : List Value} {sn_Taken : List Str} {sb_Taken : List Value} {ab_Taken : Bool} {co_Taken : Option Bool} {dd_Taken : Option Addr} {k0_Taken k1_Taken k2_Taken k3_Taken k5_Taken : Option Value}
    {xod_Taken xan_Taken : Option Addr} {xsl_Taken : Array (Option Value)} {xoc_Taken xkV_Taken xdc_Taken xpm_Taken xcd_Taken xct_Taken : Value}
    {nm_Missing qq_Missing : Str} {N_Missing I_Missing : Addr} {bs_Missing : List Value} {sn_Missing : List Str} {sb_Missing : List Value} {ab_Missing : Bool} {co_Missing : Option Bool} {dd_Missing : Option Addr} {k0_Missing k1_Missing k2_Missing k3_Missing k5_Missing : Option Value}
    {xod_Missing xan_Missing : Option Addr} {xsl_Missing : Array (Option Value)} {xoc_Missing xkV_Missing xdc_Missing xpm_Missing xcd_Missing xct_Missing : Value}
    {nm_Cycle qq_Cycle : Str} {N_Cycle I_Cycle : Addr} {bs_Cycle : List Value} {sn_Cycle : List Str} {sb_Cycle : List Value} {ab_Cycle : Bool} {co_Cycle : Option Bool} {dd_Cycle : Option Addr} {k0_Cycle k1_Cycle k2_Cycle k3_Cycle k5_Cycle : Option Value}
    {xod_Cycle xan_Cycle : Option Addr} {xsl_Cycle : Array (Option Value)} {xoc_Cycle xkV_Cycle xdc_Cycle xpm_Cycle xcd_Cycle xct_Cycle : Value}
    {f__law_box : Addr} {od__law_box an__law_box : Option Addr} {sl__law_box : Array (Option Value)} {oc__law_box kV__law_box dc__law_box pm__law_box cd__law_box ct__law_box : Value}
    {f__law_take : Addr} {od__law_take an__law_take : Option Addr} {sl__law_take : Array (Option Value)} {oc__law_take kV__law_take dc__law_take pm__law_take cd__law_take ct__law_take : Value}
    {f__law_names : Addr} {od__law_names an__law_names : Option Addr} {sl__law_names : Array (Option Value)} {oc__law_names kV__law_names dc__law_names pm__law_names cd__law_names ct__law_names : Value}
    {f__law_shuffled : Addr} {od__law_shuffled an__law_shuffled : Option Addr} {sl__law_shuffled : Array (Option Value)} {oc__law_shuffled kV__law_shuffled dc__law_shuffled pm__law_shuffled cd__law_shuffled ct__law_shuffled : Value}
    {f__law_graph : Addr} {od__law_graph an__law_graph : Option Addr} {sl__law_graph : Array (Option Value)} {oc__law_graph kV__law_graph dc__law_graph pm__law_graph cd__law_graph ct__law_graph : Value}
    {f_has_letters : Addr} {od_has_letters an_has_letters : Option Addr} {sl_has_letters : Array (Option Value)} {oc_has_letters kV_has_letters dc_has_letters pm_has_letters cd_has_letters ct_has_letters : Value}
    {f_is_name : Addr} {od_is_name an_is_name : Option Addr} {sl_is_name : Array (Option Value)} {oc_is_name kV_is_name dc_is_name pm_is_name cd_is_name ct_is_name : Value}
    {f_graph_of : Addr} {od_graph_of an_graph_of : Option Addr} {sl_graph_of : Array (Option Value)} {oc_graph_of kV_graph_of dc_graph_of pm_graph_of cd_graph_of ct_graph_of : Value}
    {f_reached : Addr} {od_reached an_reached : Option Addr} {sl_reached : Array (Option Value)} {oc_reached kV_reached dc_reached pm_reached cd_reached ct_reached : Value}
    {f_look_rows : Addr} {od_look_rows an_look_rows : Option Addr} {sl_look_rows : Array (Option Value)} {oc_look_rows kV_look_rows dc_look_rows pm_look_rows cd_look_rows ct_look_rows : Value}
    {f_Catalog_init : Addr} {od_Catalog_init an_Catalog_init : Option Addr} {sl_Catalog_init : Array (Option Value)} {oc_Catalog_init kV_Catalog_init dc_Catalog_init pm_Catalog_init cd_Catalog_init ct_Catalog_init : Value}
    {T_Catalog_init : Addr} {tT_Catalog_init : Value} {oT_Catalog_init : Option Addr} {nT_Catalog_init : Nat} {sT_Catalog_init : Array (Option Value)} {v0_Catalog_init : Value}
    {f__law_rows : Addr} {od__law_rows an__law_rows : Option Addr} {sl__law_rows : Array (Option Value)} {oc__law_rows kV__law_rows dc__law_rows pm__law_rows cd__law_rows ct__law_rows : Value}
    {f_check_there : Addr} {od_check_there an_check_there : Option Addr} {sl_check_there : Array (Option Value)} {oc_check_there kV_check_there dc_check_there pm_check_there cd_check_there ct_check_there : Value}
    {f_known_ends : Addr} {od_known_ends an_known_ends : Option Addr} {sl_known_ends : Array (Option Value)} {oc_known_ends kV_known_ends dc_known_ends pm_known_ends cd_known_ends ct_known_ends : Value}
    {f_leads : Addr} {od_leads an_leads : Option Addr} {sl_leads : Array (Option Value)} {oc_leads kV_leads dc_leads pm_leads cd_leads ct_leads : Value}
    {f__law_paths : Addr} {od__law_paths an__law_paths : Option Addr} {sl__law_paths : Array (Option Value)} {oc__law_paths kV__law_paths dc__law_paths pm__law_paths cd__law_paths ct__law_paths : Value}
    {f__law_due : Addr} {od__law_due an__law_due : Option Addr} {sl__law_due : Array (Option Value)} {oc__law_due kV__law_due dc__law_due pm__law_due cd__law_due ct__law_due : Value}
    {f__law_missing : Addr} {od__law_missing an__law_missing : Option Addr} {sl__law_missing : Array (Option Value)} {oc__law_missing kV__law_missing dc__law_missing pm__law_missing cd__law_missing ct__law_missing : Value}
    {f_links_in : Addr} {od_links_in an_links_in : Option Addr} {sl_links_in : Array (Option Value)} {oc_links_in kV_links_in dc_links_in pm_links_in cd_links_in ct_links_in : Value}
    {f_rows_of : Addr} {od_rows_of an_rows_of : Option Addr} {sl_rows_of : Array (Option Value)} {oc_rows_of kV_rows_of dc_rows_of pm_rows_of cd_rows_of ct_rows_of : Value}
    {f_Catalog_rows : Addr} {od_Catalog_rows an_Catalog_rows : Option Addr} {sl_Catalog_rows : Array (Option Value)} {oc_Catalog_rows kV_Catalog_rows dc_Catalog_rows pm_Catalog_rows cd_Catalog_rows ct_Catalog_rows : Value}
    {f__law_told : Addr} {od__law_told an__law_told : Option Addr} {sl__law_told : Array (Option Value)} {oc__law_told kV__law_told dc__law_told pm__law_told cd__law_told ct__law_told : Value}
    {f_law : Addr} {od_law an_law : Option Addr} {sl_law : Array (Option Value)} {oc_law kV_law dc_law pm_law cd_law ct_law : Value}
    (z_abs : PySem.W.nsIn K mainGlobals "abs" = some none)
    (z_all : PySem.W.nsIn K mainGlobals "all" = some none)
    (z_enumerate : PySem.W.nsIn K mainGlobals "enumerate" = some none)
    (z_int : PySem.W.nsIn K mainGlobals "int" = some none)
    (z_isinstance : PySem.W.nsIn K mainGlobals "isinstance" = some none)
    (z_len : PySem.W.nsIn K mainGlobals "len" = some none)
    (z_list : PySem.W.nsIn K mainGlobals "list" = some none)
    (z_range : PySem.W.nsIn K mainGlobals "range" = some none)
    (z_sorted : PySem.W.nsIn K mainGlobals "sorted" = some none)
    (z_str : PySem.W.nsIn K mainGlobals "str" = some none)
    (z_tuple : PySem.W.nsIn K mainGlobals "tuple" = some none)
    (g_LONGEST : PySem.W.nsIn K mainGlobals "LONGEST" = some (some u_LONGEST))
    (h_LONGEST : litV d_LONGEST u_LONGEST = true)
    (g_LETTERS : PySem.W.nsIn K mainGlobals "LETTERS" = some (some u_LETTERS))
    (h_LETTERS : litV d_LETTERS u_LETTERS = true)
    (g_KEPT_WORDS : PySem.W.nsIn K mainGlobals "KEPT_WORDS" = some (some (.ref p_KEPT_WORDS)))
    (l_KEPT_WORDS : K.lookup p_KEPT_WORDS = some ⟨.type "tuple", o_KEPT_WORDS, .seq i_KEPT_WORDS n_KEPT_WORDS, s_KEPT_WORDS⟩)
    (y_KEPT_WORDS : i_KEPT_WORDS.size ≤ sizeLine)
    (h_KEPT_WORDS : litL ds_KEPT_WORDS i_KEPT_WORDS.toList = true)
    (n_Catalog : PySem.W.nsIn K mainGlobals "Catalog" = some (some (.ref K_Catalog)))
    (n_BadName : PySem.W.nsIn K mainGlobals "BadName" = some (some (.ref K_BadName)))
    (n_Taken : PySem.W.nsIn K mainGlobals "Taken" = some (some (.ref K_Taken)))
    (n_Missing : PySem.W.nsIn K mainGlobals "Missing" = some (some (.ref K_Missing)))
    (n_Cycle : PySem.W.nsIn K mainGlobals "Cycle" = some (some (.ref K_Cycle)))
    (n_CatalogError : PySem.W.nsIn K mainGlobals "CatalogError" = some (some (.ref K_CatalogError)))
    (pg_Catalog : PySem.W.plainGet K K_Catalog Str.empty = true)
    (hd_Catalog : PySem.W.hasDictIn K K_Catalog = true)
    (po_Catalog : PySem.W.plainOver K K_Catalog = true)
    (sa_Catalog : PySem.W.findIn K (.ref K_Catalog) "__setattr__" = some (some (.builtin "object.__setattr__")))
    (mm_Catalog : PySem.W.makesIn K K_Catalog = true)
    (mk_Catalog : PySem.W.keepIn K (.ref K_Catalog) = true)
    (nf_graph_Catalog : PySem.W.findIn K (.ref K_Catalog) "graph" = some none)
    (bsp_CatalogError : PySem.W.specialIn K (.ref K_CatalogError) "__getattribute__" = some (some (.builtin "type.__getattribute__")))
    (brd_CatalogError : PySem.W.readsIn K K_CatalogError (.type "type") = true)
    (bfd_CatalogError : PySem.W.findCls K (.ref K_CatalogError) (.type "type") "__init__" = some (.val (.builtin "ValueError.__init__")))
    (xl_BadName : K.lookup K_BadName = some (excClassObj nm_BadName qq_BadName K_BadName N_BadName bs_BadName [.ref K_CatalogError, .type "ValueError", .type "Exception", .type "BaseException", .type "object"] true sn_BadName sb_BadName ab_BadName co_BadName dd_BadName k0_BadName k1_BadName k2_BadName k3_BadName k5_BadName "ValueError.__new__"))
    (xsa_BadName : PySem.W.findIn K (.ref K_BadName) "__setattr__" = some (some (.builtin "object.__setattr__")))
    (xeC_BadName : PySem.W.subIn K (.ref K_BadName) (.type "BaseException") = some true)
    (xtC_BadName : PySem.W.typeIn K (.ref K_BadName) = some (.type "type"))
    (xkC_BadName : PySem.W.keepIn K (.ref K_BadName) = true)
    (xiC_BadName : PySem.W.findIn K (.ref K_BadName) "__init__" = some (some (.ref I_BadName)))
    (xtI_BadName : PySem.W.typeIn K (.ref I_BadName) = some (.type "function"))
    (xga_BadName : PySem.W.findIn K (.ref K_BadName) "__getattribute__" = some (some (.builtin "BaseException.__getattribute__")))
    (xgg_BadName : PySem.W.findIn K (.ref K_BadName) "__getattr__" = some none)
    (xhd_BadName : PySem.W.hasDictIn K K_BadName = true)
    (xnb_BadName : PySem.W.findIn K (.ref K_BadName) "name" = some none)
    (xl1_BadName : K.lookup I_BadName = some ⟨xoc_BadName, xod_BadName, .func (PySem.W.fnOf "__init__" "BadName.__init__" (defArgs s_BadName_init) (defBody s_BadName_init) (defScope s_BadName_init) .none xkV_BadName xdc_BadName xpm_BadName xan_BadName xcd_BadName xct_BadName), xsl_BadName⟩)
    (xc1_BadName : PySem.W.codeIn K xcd_BadName "BadName.__init__" = true)
    (xk1_BadName : PySem.W.keepIn K (.ref I_BadName) = true)
    (xl_Taken : K.lookup K_Taken = some (excClassObj nm_Taken qq_Taken K_Taken N_Taken bs_Taken [.ref K_CatalogError, .type "ValueError", .type "Exception", .type "BaseException", .type "object"] true sn_Taken sb_Taken ab_Taken co_Taken dd_Taken k0_Taken k1_Taken k2_Taken k3_Taken k5_Taken "ValueError.__new__"))
    (xsa_Taken : PySem.W.findIn K (.ref K_Taken) "__setattr__" = some (some (.builtin "object.__setattr__")))
    (xeC_Taken : PySem.W.subIn K (.ref K_Taken) (.type "BaseException") = some true)
    (xtC_Taken : PySem.W.typeIn K (.ref K_Taken) = some (.type "type"))
    (xkC_Taken : PySem.W.keepIn K (.ref K_Taken) = true)
    (xiC_Taken : PySem.W.findIn K (.ref K_Taken) "__init__" = some (some (.ref I_Taken)))
    (xtI_Taken : PySem.W.typeIn K (.ref I_Taken) = some (.type "function"))
    (xga_Taken : PySem.W.findIn K (.ref K_Taken) "__getattribute__" = some (some (.builtin "BaseException.__getattribute__")))
    (xgg_Taken : PySem.W.findIn K (.ref K_Taken) "__getattr__" = some none)
    (xhd_Taken : PySem.W.hasDictIn K K_Taken = true)
    (xnb_Taken : PySem.W.findIn K (.ref K_Taken) "name" = some none)
    (xl1_Taken : K.lookup I_Taken = some ⟨xoc_Taken, xod_Taken, .func (PySem.W.fnOf "__init__" "Taken.__init__" (defArgs s_Taken_init) (defBody s_Taken_init) (defScope s_Taken_init) .none xkV_Taken xdc_Taken xpm_Taken xan_Taken xcd_Taken xct_Taken), xsl_Taken⟩)
    (xc1_Taken : PySem.W.codeIn K xcd_Taken "Taken.__init__" = true)
    (xk1_Taken : PySem.W.keepIn K (.ref I_Taken) = true)
    (xl_Missing : K.lookup K_Missing = some (excClassObj nm_Missing qq_Missing K_Missing N_Missing bs_Missing [.ref K_CatalogError, .type "ValueError", .type "Exception", .type "BaseException", .type "object"] true sn_Missing sb_Missing ab_Missing co_Missing dd_Missing k0_Missing k1_Missing k2_Missing k3_Missing k5_Missing "ValueError.__new__"))
    (xsa_Missing : PySem.W.findIn K (.ref K_Missing) "__setattr__" = some (some (.builtin "object.__setattr__")))
    (xeC_Missing : PySem.W.subIn K (.ref K_Missing) (.type "BaseException") = some true)
    (xtC_Missing : PySem.W.typeIn K (.ref K_Missing) = some (.type "type"))
    (xkC_Missing : PySem.W.keepIn K (.ref K_Missing) = true)
    (xiC_Missing : PySem.W.findIn K (.ref K_Missing) "__init__" = some (some (.ref I_Missing)))
    (xtI_Missing : PySem.W.typeIn K (.ref I_Missing) = some (.type "function"))
    (xga_Missing : PySem.W.findIn K (.ref K_Missing) "__getattribute__" = some (some (.builtin "BaseException.__getattribute__")))
    (xgg_Missing : PySem.W.findIn K (.ref K_Missing) "__getattr__" = some none)
    (xhd_Missing : PySem.W.hasDictIn K K_Missing = true)
    (xnb_Missing : PySem.W.findIn K (.ref K_Missing) "name" = some none)
    (xl1_Missing : K.lookup I_Missing = some ⟨xoc_Missing, xod_Missing, .func (PySem.W.fnOf "__init__" "Missing.__init__" (defArgs s_Missing_init) (defBody s_Missing_init) (defScope s_Missing_init) .none xkV_Missing xdc_Missing xpm_Missing xan_Missing xcd_Missing xct_Missing), xsl_Missing⟩)
    (xc1_Missing : PySem.W.codeIn K xcd_Missing "Missing.__init__" = true)
    (xk1_Missing : PySem.W.keepIn K (.ref I_Missing) = true)
    (xl_Cycle : K.lookup K_Cycle = some (excClassObj nm_Cycle qq_Cycle K_Cycle N_Cycle bs_Cycle [.ref K_CatalogError, .type "ValueError", .type "Exception", .type "BaseException", .type "object"] true sn_Cycle sb_Cycle ab_Cycle co_Cycle dd_Cycle k0_Cycle k1_Cycle k2_Cycle k3_Cycle k5_Cycle "ValueError.__new__"))
    (xsa_Cycle : PySem.W.findIn K (.ref K_Cycle) "__setattr__" = some (some (.builtin "object.__setattr__")))
    (xeC_Cycle : PySem.W.subIn K (.ref K_Cycle) (.type "BaseException") = some true)
    (xtC_Cycle : PySem.W.typeIn K (.ref K_Cycle) = some (.type "type"))
    (xkC_Cycle : PySem.W.keepIn K (.ref K_Cycle) = true)
    (xiC_Cycle : PySem.W.findIn K (.ref K_Cycle) "__init__" = some (some (.ref I_Cycle)))
    (xtI_Cycle : PySem.W.typeIn K (.ref I_Cycle) = some (.type "function"))
    (xga_Cycle : PySem.W.findIn K (.ref K_Cycle) "__getattribute__" = some (some (.builtin "BaseException.__getattribute__")))
    (xgg_Cycle : PySem.W.findIn K (.ref K_Cycle) "__getattr__" = some none)
    (xhd_Cycle : PySem.W.hasDictIn K K_Cycle = true)
    (xnb_Cycle : PySem.W.findIn K (.ref K_Cycle) "name" = some none)
    (xl1_Cycle : K.lookup I_Cycle = some ⟨xoc_Cycle, xod_Cycle, .func (PySem.W.fnOf "__init__" "Cycle.__init__" (defArgs s_Cycle_init) (defBody s_Cycle_init) (defScope s_Cycle_init) .none xkV_Cycle xdc_Cycle xpm_Cycle xan_Cycle xcd_Cycle xct_Cycle), xsl_Cycle⟩)
    (xc1_Cycle : PySem.W.codeIn K xcd_Cycle "Cycle.__init__" = true)
    (xk1_Cycle : PySem.W.keepIn K (.ref I_Cycle) = true)
    (his_Missing : PySem.W.isClsIn K K_Missing = true)
    (hs_Catalog_Missing : PySem.W.subIn K (.ref K_Catalog) (.ref K_Missing) = some false)
    (hs_BadName_Missing : PySem.W.subIn K (.ref K_BadName) (.ref K_Missing) = some false)
    (hs_Taken_Missing : PySem.W.subIn K (.ref K_Taken) (.ref K_Missing) = some false)
    (hs_Missing_Missing : PySem.W.subIn K (.ref K_Missing) (.ref K_Missing) = some true)
    (hs_Cycle_Missing : PySem.W.subIn K (.ref K_Cycle) (.ref K_Missing) = some false)
    (hs_CatalogError_Missing : PySem.W.subIn K (.ref K_CatalogError) (.ref K_Missing) = some false)
    (a__law_box : PySem.W.nsIn K mainGlobals "_law_box" = some (some (.ref f__law_box)))
    (l__law_box : K.lookup f__law_box = some ⟨oc__law_box, od__law_box, .func (PySem.W.fnOf "_law_box" "_law_box" (defArgs s__law_box) (defBody s__law_box) (defScope s__law_box) .none kV__law_box dc__law_box pm__law_box an__law_box cd__law_box ct__law_box), sl__law_box⟩)
    (c__law_box : PySem.W.codeIn K cd__law_box "_law_box" = true)
    (k__law_box : PySem.W.keepIn K (.ref f__law_box) = true)
    (a__law_take : PySem.W.nsIn K mainGlobals "_law_take" = some (some (.ref f__law_take)))
    (l__law_take : K.lookup f__law_take = some ⟨oc__law_take, od__law_take, .func (PySem.W.fnOf "_law_take" "_law_take" (defArgs s__law_take) (defBody s__law_take) (defScope s__law_take) .none kV__law_take dc__law_take pm__law_take an__law_take cd__law_take ct__law_take), sl__law_take⟩)
    (c__law_take : PySem.W.codeIn K cd__law_take "_law_take" = true)
    (k__law_take : PySem.W.keepIn K (.ref f__law_take) = true)
    (a__law_names : PySem.W.nsIn K mainGlobals "_law_names" = some (some (.ref f__law_names)))
    (l__law_names : K.lookup f__law_names = some ⟨oc__law_names, od__law_names, .func (PySem.W.fnOf "_law_names" "_law_names" (defArgs s__law_names) (defBody s__law_names) (defScope s__law_names) .none kV__law_names dc__law_names pm__law_names an__law_names cd__law_names ct__law_names), sl__law_names⟩)
    (c__law_names : PySem.W.codeIn K cd__law_names "_law_names" = true)
    (k__law_names : PySem.W.keepIn K (.ref f__law_names) = true)
    (a__law_shuffled : PySem.W.nsIn K mainGlobals "_law_shuffled" = some (some (.ref f__law_shuffled)))
    (l__law_shuffled : K.lookup f__law_shuffled = some ⟨oc__law_shuffled, od__law_shuffled, .func (PySem.W.fnOf "_law_shuffled" "_law_shuffled" (defArgs s__law_shuffled) (defBody s__law_shuffled) (defScope s__law_shuffled) .none kV__law_shuffled dc__law_shuffled pm__law_shuffled an__law_shuffled cd__law_shuffled ct__law_shuffled), sl__law_shuffled⟩)
    (c__law_shuffled : PySem.W.codeIn K cd__law_shuffled "_law_shuffled" = true)
    (k__law_shuffled : PySem.W.keepIn K (.ref f__law_shuffled) = true)
    (a__law_graph : PySem.W.nsIn K mainGlobals "_law_graph" = some (some (.ref f__law_graph)))
    (l__law_graph : K.lookup f__law_graph = some ⟨oc__law_graph, od__law_graph, .func (PySem.W.fnOf "_law_graph" "_law_graph" (defArgs s__law_graph) (defBody s__law_graph) (defScope s__law_graph) .none kV__law_graph dc__law_graph pm__law_graph an__law_graph cd__law_graph ct__law_graph), sl__law_graph⟩)
    (c__law_graph : PySem.W.codeIn K cd__law_graph "_law_graph" = true)
    (k__law_graph : PySem.W.keepIn K (.ref f__law_graph) = true)
    (a_has_letters : PySem.W.nsIn K mainGlobals "has_letters" = some (some (.ref f_has_letters)))
    (l_has_letters : K.lookup f_has_letters = some ⟨oc_has_letters, od_has_letters, .func (PySem.W.fnOf "has_letters" "has_letters" (defArgs s_has_letters) (defBody s_has_letters) (defScope s_has_letters) .none kV_has_letters dc_has_letters pm_has_letters an_has_letters cd_has_letters ct_has_letters), sl_has_letters⟩)
    (c_has_letters : PySem.W.codeIn K cd_has_letters "has_letters" = true)
    (k_has_letters : PySem.W.keepIn K (.ref f_has_letters) = true)
    (a_is_name : PySem.W.nsIn K mainGlobals "is_name" = some (some (.ref f_is_name)))
    (l_is_name : K.lookup f_is_name = some ⟨oc_is_name, od_is_name, .func (PySem.W.fnOf "is_name" "is_name" (defArgs s_is_name) (defBody s_is_name) (defScope s_is_name) .none kV_is_name dc_is_name pm_is_name an_is_name cd_is_name ct_is_name), sl_is_name⟩)
    (c_is_name : PySem.W.codeIn K cd_is_name "is_name" = true)
    (k_is_name : PySem.W.keepIn K (.ref f_is_name) = true)
    (a_graph_of : PySem.W.nsIn K mainGlobals "graph_of" = some (some (.ref f_graph_of)))
    (l_graph_of : K.lookup f_graph_of = some ⟨oc_graph_of, od_graph_of, .func (PySem.W.fnOf "graph_of" "graph_of" (defArgs s_graph_of) (defBody s_graph_of) (defScope s_graph_of) .none kV_graph_of dc_graph_of pm_graph_of an_graph_of cd_graph_of ct_graph_of), sl_graph_of⟩)
    (c_graph_of : PySem.W.codeIn K cd_graph_of "graph_of" = true)
    (k_graph_of : PySem.W.keepIn K (.ref f_graph_of) = true)
    (a_reached : PySem.W.nsIn K mainGlobals "reached" = some (some (.ref f_reached)))
    (l_reached : K.lookup f_reached = some ⟨oc_reached, od_reached, .func (PySem.W.fnOf "reached" "reached" (defArgs s_reached) (defBody s_reached) (defScope s_reached) .none kV_reached dc_reached pm_reached an_reached cd_reached ct_reached), sl_reached⟩)
    (c_reached : PySem.W.codeIn K cd_reached "reached" = true)
    (k_reached : PySem.W.keepIn K (.ref f_reached) = true)
    (a_look_rows : PySem.W.nsIn K mainGlobals "look_rows" = some (some (.ref f_look_rows)))
    (l_look_rows : K.lookup f_look_rows = some ⟨oc_look_rows, od_look_rows, .func (PySem.W.fnOf "look_rows" "look_rows" (defArgs s_look_rows) (defBody s_look_rows) (defScope s_look_rows) .none kV_look_rows dc_look_rows pm_look_rows an_look_rows cd_look_rows ct_look_rows), sl_look_rows⟩)
    (c_look_rows : PySem.W.codeIn K cd_look_rows "look_rows" = true)
    (k_look_rows : PySem.W.keepIn K (.ref f_look_rows) = true)
    (a_Catalog_init : PySem.W.findIn K (.ref K_Catalog) "__init__" = some (some (.ref f_Catalog_init)))
    (af_Catalog_init : PySem.W.isFn K (.ref f_Catalog_init) = true)
    (l_Catalog_init : K.lookup f_Catalog_init = some ⟨oc_Catalog_init, od_Catalog_init, .func (PySem.W.fnOf "__init__" "Catalog.__init__" (defArgs s_Catalog_init) (defBody s_Catalog_init) (defScope s_Catalog_init) (.ref T_Catalog_init) kV_Catalog_init dc_Catalog_init pm_Catalog_init an_Catalog_init cd_Catalog_init ct_Catalog_init), sl_Catalog_init⟩)
    (lT_Catalog_init : K.lookup T_Catalog_init = some ⟨tT_Catalog_init, oT_Catalog_init, .seq #[v0_Catalog_init] nT_Catalog_init, sT_Catalog_init⟩)
    (c_Catalog_init : PySem.W.codeIn K cd_Catalog_init "Catalog.__init__" = true)
    (k_Catalog_init : PySem.W.keepIn K (.ref f_Catalog_init) = true)
    (a__law_rows : PySem.W.nsIn K mainGlobals "_law_rows" = some (some (.ref f__law_rows)))
    (l__law_rows : K.lookup f__law_rows = some ⟨oc__law_rows, od__law_rows, .func (PySem.W.fnOf "_law_rows" "_law_rows" (defArgs s__law_rows) (defBody s__law_rows) (defScope s__law_rows) .none kV__law_rows dc__law_rows pm__law_rows an__law_rows cd__law_rows ct__law_rows), sl__law_rows⟩)
    (c__law_rows : PySem.W.codeIn K cd__law_rows "_law_rows" = true)
    (k__law_rows : PySem.W.keepIn K (.ref f__law_rows) = true)
    (a_check_there : PySem.W.nsIn K mainGlobals "check_there" = some (some (.ref f_check_there)))
    (l_check_there : K.lookup f_check_there = some ⟨oc_check_there, od_check_there, .func (PySem.W.fnOf "check_there" "check_there" (defArgs s_check_there) (defBody s_check_there) (defScope s_check_there) .none kV_check_there dc_check_there pm_check_there an_check_there cd_check_there ct_check_there), sl_check_there⟩)
    (c_check_there : PySem.W.codeIn K cd_check_there "check_there" = true)
    (k_check_there : PySem.W.keepIn K (.ref f_check_there) = true)
    (a_known_ends : PySem.W.nsIn K mainGlobals "known_ends" = some (some (.ref f_known_ends)))
    (l_known_ends : K.lookup f_known_ends = some ⟨oc_known_ends, od_known_ends, .func (PySem.W.fnOf "known_ends" "known_ends" (defArgs s_known_ends) (defBody s_known_ends) (defScope s_known_ends) .none kV_known_ends dc_known_ends pm_known_ends an_known_ends cd_known_ends ct_known_ends), sl_known_ends⟩)
    (c_known_ends : PySem.W.codeIn K cd_known_ends "known_ends" = true)
    (k_known_ends : PySem.W.keepIn K (.ref f_known_ends) = true)
    (a_leads : PySem.W.nsIn K mainGlobals "leads" = some (some (.ref f_leads)))
    (l_leads : K.lookup f_leads = some ⟨oc_leads, od_leads, .func (PySem.W.fnOf "leads" "leads" (defArgs s_leads) (defBody s_leads) (defScope s_leads) .none kV_leads dc_leads pm_leads an_leads cd_leads ct_leads), sl_leads⟩)
    (c_leads : PySem.W.codeIn K cd_leads "leads" = true)
    (k_leads : PySem.W.keepIn K (.ref f_leads) = true)
    (a__law_paths : PySem.W.nsIn K mainGlobals "_law_paths" = some (some (.ref f__law_paths)))
    (l__law_paths : K.lookup f__law_paths = some ⟨oc__law_paths, od__law_paths, .func (PySem.W.fnOf "_law_paths" "_law_paths" (defArgs s__law_paths) (defBody s__law_paths) (defScope s__law_paths) .none kV__law_paths dc__law_paths pm__law_paths an__law_paths cd__law_paths ct__law_paths), sl__law_paths⟩)
    (c__law_paths : PySem.W.codeIn K cd__law_paths "_law_paths" = true)
    (k__law_paths : PySem.W.keepIn K (.ref f__law_paths) = true)
    (a__law_due : PySem.W.nsIn K mainGlobals "_law_due" = some (some (.ref f__law_due)))
    (l__law_due : K.lookup f__law_due = some ⟨oc__law_due, od__law_due, .func (PySem.W.fnOf "_law_due" "_law_due" (defArgs s__law_due) (defBody s__law_due) (defScope s__law_due) .none kV__law_due dc__law_due pm__law_due an__law_due cd__law_due ct__law_due), sl__law_due⟩)
    (c__law_due : PySem.W.codeIn K cd__law_due "_law_due" = true)
    (k__law_due : PySem.W.keepIn K (.ref f__law_due) = true)
    (a__law_missing : PySem.W.nsIn K mainGlobals "_law_missing" = some (some (.ref f__law_missing)))
    (l__law_missing : K.lookup f__law_missing = some ⟨oc__law_missing, od__law_missing, .func (PySem.W.fnOf "_law_missing" "_law_missing" (defArgs s__law_missing) (defBody s__law_missing) (defScope s__law_missing) .none kV__law_missing dc__law_missing pm__law_missing an__law_missing cd__law_missing ct__law_missing), sl__law_missing⟩)
    (c__law_missing : PySem.W.codeIn K cd__law_missing "_law_missing" = true)
    (k__law_missing : PySem.W.keepIn K (.ref f__law_missing) = true)
    (a_links_in : PySem.W.nsIn K mainGlobals "links_in" = some (some (.ref f_links_in)))
    (l_links_in : K.lookup f_links_in = some ⟨oc_links_in, od_links_in, .func (PySem.W.fnOf "links_in" "links_in" (defArgs s_links_in) (defBody s_links_in) (defScope s_links_in) .none kV_links_in dc_links_in pm_links_in an_links_in cd_links_in ct_links_in), sl_links_in⟩)
    (c_links_in : PySem.W.codeIn K cd_links_in "links_in" = true)
    (k_links_in : PySem.W.keepIn K (.ref f_links_in) = true)
    (a_rows_of : PySem.W.nsIn K mainGlobals "rows_of" = some (some (.ref f_rows_of)))
    (l_rows_of : K.lookup f_rows_of = some ⟨oc_rows_of, od_rows_of, .func (PySem.W.fnOf "rows_of" "rows_of" (defArgs s_rows_of) (defBody s_rows_of) (defScope s_rows_of) .none kV_rows_of dc_rows_of pm_rows_of an_rows_of cd_rows_of ct_rows_of), sl_rows_of⟩)
    (c_rows_of : PySem.W.codeIn K cd_rows_of "rows_of" = true)
    (k_rows_of : PySem.W.keepIn K (.ref f_rows_of) = true)
    (a_Catalog_rows : PySem.W.findIn K (.ref K_Catalog) "rows" = some (some (.ref f_Catalog_rows)))
    (af_Catalog_rows : PySem.W.isFn K (.ref f_Catalog_rows) = true)
    (l_Catalog_rows : K.lookup f_Catalog_rows = some ⟨oc_Catalog_rows, od_Catalog_rows, .func (PySem.W.fnOf "rows" "Catalog.rows" (defArgs s_Catalog_rows) (defBody s_Catalog_rows) (defScope s_Catalog_rows) .none kV_Catalog_rows dc_Catalog_rows pm_Catalog_rows an_Catalog_rows cd_Catalog_rows ct_Catalog_rows), sl_Catalog_rows⟩)
    (c_Catalog_rows : PySem.W.codeIn K cd_Catalog_rows "Catalog.rows" = true)
    (k_Catalog_rows : PySem.W.keepIn K (.ref f_Catalog_rows) = true)
    (a__law_told : PySem.W.nsIn K mainGlobals "_law_told" = some (some (.ref f__law_told)))
    (l__law_told : K.lookup f__law_told = some ⟨oc__law_told, od__law_told, .func (PySem.W.fnOf "_law_told" "_law_told" (defArgs s__law_told) (defBody s__law_told) (defScope s__law_told) .none kV__law_told dc__law_told pm__law_told an__law_told cd__law_told ct__law_told), sl__law_told⟩)
    (c__law_told : PySem.W.codeIn K cd__law_told "_law_told" = true)
    (k__law_told : PySem.W.keepIn K (.ref f__law_told) = true)
    (a_law : PySem.W.nsIn K mainGlobals "law" = some (some (.ref f_law)))
    (l_law : K.lookup f_law = some ⟨oc_law, od_law, .func (PySem.W.fnOf "law" "law" (defArgs s_law) (defBody s_law) (defScope s_law) .none kV_law dc_law pm_law an_law cd_law ct_law), sl_law⟩)
    (c_law : PySem.W.codeIn K cd_law "law" = true)
    (k_law : PySem.W.keepIn K (.ref f_law) = true)
    : ∃ fd : FuncData, (∀ (s : Shared) (v : Value), BindsTo s fd ⟨[v], []⟩ [("_law_script", v)]) ∧ ∀ base : Heap, K.In base → base.Ns mainGlobals mg → FnG l.prog w K mg base 7 fa fd ["_law_script"] (spZ ⟨K, clN K names⟩ 1 Y_k18.f_law) := by
  have e := hfa.symm.trans (PySem.W.mg_of X0 G0 a_law)
  cases e
  refine ⟨PySem.W.fnOf "law" "law" (defArgs s_law) (defBody s_law) (defScope s_law) .none kV_law dc_law pm_law an_law cd_law ct_law, fun s v => .of_eq rfl, fun base _ _ => ?_⟩
  have nC_Catalog : clN K names "Catalog" = some K_Catalog := clN_of n_Catalog (by decide +kernel)
  have nC_BadName : clN K names "BadName" = some K_BadName := clN_of n_BadName (by decide +kernel)
  have nC_Taken : clN K names "Taken" = some K_Taken := clN_of n_Taken (by decide +kernel)
  have nC_Missing : clN K names "Missing" = some K_Missing := clN_of n_Missing (by decide +kernel)
  have nC_Cycle : clN K names "Cycle" = some K_Cycle := clN_of n_Cycle (by decide +kernel)
  have nC_CatalogError : clN K names "CatalogError" = some K_CatalogError := clN_of n_CatalogError (by decide +kernel)
  have cC_Catalog : Cls K K_Catalog := ⟨pg_Catalog, hd_Catalog, po_Catalog, sa_Catalog⟩
  have B_CatalogError : CeB K K_CatalogError := ⟨bsp_CatalogError, brd_CatalogError, bfd_CatalogError⟩
  have X_BadName : Xc l.prog w ⟨K, clN K names⟩ mg base "BadName" "name" := xc_mk [some "not a name: ", none] nC_BadName (PySem.W.mg_of X0 G0 n_BadName) ⟨_, _, _, _, _, _, _, _, _, _, _, _, _, _, _, xl_BadName, rfl⟩ xsa_BadName xeC_BadName xtC_BadName xkC_BadName xiC_BadName xtI_BadName xga_BadName xgg_BadName xhd_BadName xnb_BadName xl1_BadName xc1_BadName xk1_BadName sc_BadName_init (by decide +kernel) (fun _ _ _ _ _ _ us hl => match us, hl with | [_, _], _ => rfl) (xs_BadName (PySem.W.mg_of X0 G0 n_CatalogError) B_CatalogError)
  have X_Taken : Xc l.prog w ⟨K, clN K names⟩ mg base "Taken" "name" := xc_mk [some "there is already an object ", none] nC_Taken (PySem.W.mg_of X0 G0 n_Taken) ⟨_, _, _, _, _, _, _, _, _, _, _, _, _, _, _, xl_Taken, rfl⟩ xsa_Taken xeC_Taken xtC_Taken xkC_Taken xiC_Taken xtI_Taken xga_Taken xgg_Taken xhd_Taken xnb_Taken xl1_Taken xc1_Taken xk1_Taken sc_Taken_init (by decide +kernel) (fun _ _ _ _ _ _ us hl => match us, hl with | [_, _], _ => rfl) (xs_Taken (PySem.W.mg_of X0 G0 n_CatalogError) B_CatalogError)
  have X_Missing : Xc l.prog w ⟨K, clN K names⟩ mg base "Missing" "name" := xc_mk [some "there is no object ", none] nC_Missing (PySem.W.mg_of X0 G0 n_Missing) ⟨_, _, _, _, _, _, _, _, _, _, _, _, _, _, _, xl_Missing, rfl⟩ xsa_Missing xeC_Missing xtC_Missing xkC_Missing xiC_Missing xtI_Missing xga_Missing xgg_Missing xhd_Missing xnb_Missing xl1_Missing xc1_Missing xk1_Missing sc_Missing_init (by decide +kernel) (fun _ _ _ _ _ _ us hl => match us, hl with | [_, _], _ => rfl) (xs_Missing (PySem.W.mg_of X0 G0 n_CatalogError) B_CatalogError)
  have X_Cycle : Xc l.prog w ⟨K, clN K names⟩ mg base "Cycle" "name" := xc_mk [none, some " would depend on itself"] nC_Cycle (PySem.W.mg_of X0 G0 n_Cycle) ⟨_, _, _, _, _, _, _, _, _, _, _, _, _, _, _, xl_Cycle, rfl⟩ xsa_Cycle xeC_Cycle xtC_Cycle xkC_Cycle xiC_Cycle xtI_Cycle xga_Cycle xgg_Cycle xhd_Cycle xnb_Cycle xl1_Cycle xc1_Cycle xk1_Cycle sc_Cycle_init (by decide +kernel) (fun _ _ _ _ _ _ us hl => match us, hl with | [_, _], _ => rfl) (xs_Cycle (PySem.W.mg_of X0 G0 n_CatalogError) B_CatalogError)
  have T : Tx l.prog w ⟨K, clN K names⟩ mg base := { b_abs := PySem.W.mg_none_of X0 G0 z_abs, b_all := PySem.W.mg_none_of X0 G0 z_all, b_enumerate := PySem.W.mg_none_of X0 G0 z_enumerate, b_int := PySem.W.mg_none_of X0 G0 z_int, b_isinstance := PySem.W.mg_none_of X0 G0 z_isinstance, b_len := PySem.W.mg_none_of X0 G0 z_len, b_list := PySem.W.mg_none_of X0 G0 z_list, b_range := PySem.W.mg_none_of X0 G0 z_range, b_sorted := PySem.W.mg_none_of X0 G0 z_sorted, b_str := PySem.W.mg_none_of X0 G0 z_str, b_tuple := PySem.W.mg_none_of X0 G0 z_tuple, g_LONGEST := gv_lit X0 G0 g_LONGEST h_LONGEST, g_LETTERS := gv_lit X0 G0 g_LETTERS h_LETTERS, g_KEPT_WORDS := gv_tup X0 G0 g_KEPT_WORDS l_KEPT_WORDS y_KEPT_WORDS h_KEPT_WORDS, q_graph := fc_mk (all_cons (cls_is n_Catalog cC_Catalog nf_graph_Catalog) all_nil), x_BadName := X_BadName, x_Taken := X_Taken, x_Missing := X_Missing, x_Cycle := X_Cycle, h_Missing := hc_mk (PySem.W.mg_of X0 G0 n_Missing) xeC_Missing his_Missing xtC_Missing (all_cons (sub_is n_Catalog hs_Catalog_Missing (by decide +kernel)) (all_cons (sub_is n_BadName hs_BadName_Missing (by decide +kernel)) (all_cons (sub_is n_Taken hs_Taken_Missing (by decide +kernel)) (all_cons (sub_is n_Missing hs_Missing_Missing (by decide +kernel)) (all_cons (sub_is n_Cycle hs_Cycle_Missing (by decide +kernel)) (all_cons (sub_is n_CatalogError hs_CatalogError_Missing (by decide +kernel)) all_nil)))))) }
  have D__law_box : Df ⟨K, clN K names⟩ mg "_law_box" s__law_box P__law_box dd__law_box kk__law_box := df_mk X0 G0 a__law_box l__law_box c__law_box k__law_box fun fd F0 => ⟨(fun dd hd => by rcases List.mem_singleton.mp hd with rfl; exact bd_of F0 fun _ _ _ _ _ _ us hl => match us, hl with | [_, _], _ => rfl), (fun _ hd => nomatch hd)⟩
  have D__law_take : Df ⟨K, clN K names⟩ mg "_law_take" s__law_take P__law_take dd__law_take kk__law_take := df_mk X0 G0 a__law_take l__law_take c__law_take k__law_take fun fd F0 => ⟨(fun dd hd => by rcases List.mem_singleton.mp hd with rfl; exact bd_of F0 fun _ _ _ _ _ _ us hl => match us, hl with | [_, _], _ => rfl), (fun _ hd => nomatch hd)⟩
  have D__law_names : Df ⟨K, clN K names⟩ mg "_law_names" s__law_names P__law_names dd__law_names kk__law_names := df_mk X0 G0 a__law_names l__law_names c__law_names k__law_names fun fd F0 => ⟨(fun dd hd => by rcases List.mem_singleton.mp hd with rfl; exact bd_of F0 fun _ _ _ _ _ _ us hl => match us, hl with | [_, _], _ => rfl), (fun _ hd => nomatch hd)⟩
  have D__law_shuffled : Df ⟨K, clN K names⟩ mg "_law_shuffled" s__law_shuffled P__law_shuffled dd__law_shuffled kk__law_shuffled := df_mk X0 G0 a__law_shuffled l__law_shuffled c__law_shuffled k__law_shuffled fun fd F0 => ⟨(fun dd hd => by rcases List.mem_singleton.mp hd with rfl; exact bd_of F0 fun _ _ _ _ _ _ us hl => match us, hl with | [_, _], _ => rfl), (fun _ hd => nomatch hd)⟩
  have D__law_graph : Df ⟨K, clN K names⟩ mg "_law_graph" s__law_graph P__law_graph dd__law_graph kk__law_graph := df_mk X0 G0 a__law_graph l__law_graph c__law_graph k__law_graph fun fd F0 => ⟨(fun dd hd => by rcases List.mem_singleton.mp hd with rfl; exact bd_of F0 fun _ _ _ _ _ _ us hl => match us, hl with | [_, _, _], _ => rfl), (fun _ hd => nomatch hd)⟩
  have D_has_letters : Df ⟨K, clN K names⟩ mg "has_letters" s_has_letters P_has_letters dd_has_letters kk_has_letters := df_mk X0 G0 a_has_letters l_has_letters c_has_letters k_has_letters fun fd F0 => ⟨(fun dd hd => by rcases List.mem_singleton.mp hd with rfl; exact bd_of F0 fun _ _ _ _ _ _ us hl => match us, hl with | [_], _ => rfl), (fun _ hd => nomatch hd)⟩
  have D_is_name : Df ⟨K, clN K names⟩ mg "is_name" s_is_name P_is_name dd_is_name kk_is_name := df_mk X0 G0 a_is_name l_is_name c_is_name k_is_name fun fd F0 => ⟨(fun dd hd => by rcases List.mem_singleton.mp hd with rfl; exact bd_of F0 fun _ _ _ _ _ _ us hl => match us, hl with | [_], _ => rfl), (fun _ hd => nomatch hd)⟩
  have D_graph_of : Df ⟨K, clN K names⟩ mg "graph_of" s_graph_of P_graph_of dd_graph_of kk_graph_of := df_mk X0 G0 a_graph_of l_graph_of c_graph_of k_graph_of fun fd F0 => ⟨(fun dd hd => by rcases List.mem_singleton.mp hd with rfl; exact bd_of F0 fun _ _ _ _ _ _ us hl => match us, hl with | [_], _ => rfl), (fun _ hd => nomatch hd)⟩
  have D_reached : Df ⟨K, clN K names⟩ mg "reached" s_reached P_reached dd_reached kk_reached := df_mk X0 G0 a_reached l_reached c_reached k_reached fun fd F0 => ⟨(fun dd hd => by rcases List.mem_singleton.mp hd with rfl; exact bd_of F0 fun _ _ _ _ _ _ us hl => match us, hl with | [_, _], _ => rfl), (fun _ hd => nomatch hd)⟩
  have D_look_rows : Df ⟨K, clN K names⟩ mg "look_rows" s_look_rows P_look_rows dd_look_rows kk_look_rows := df_mk X0 G0 a_look_rows l_look_rows c_look_rows k_look_rows fun fd F0 => ⟨(fun dd hd => by rcases List.mem_singleton.mp hd with rfl; exact bd_of F0 fun _ _ _ _ _ _ us hl => match us, hl with | [_], _ => rfl), (fun _ hd => nomatch hd)⟩
  have F0_Catalog_init := funx_mk (st := s_Catalog_init) l_Catalog_init c_Catalog_init k_Catalog_init
  have D_Catalog_init : Dk ⟨K, clN K names⟩ mg "Catalog" "Catalog.__init__" s_Catalog_init P_Catalog_init dd_Catalog_init := ⟨_, _, _, nC_Catalog, PySem.W.mg_of X0 G0 n_Catalog, F0_Catalog_init, ⟨mm_Catalog, a_Catalog_init, af_Catalog_init, mk_Catalog⟩, (fun dd hd => by rcases List.mem_singleton.mp hd with rfl; exact bd_dfl0 lT_Catalog_init fun us hl => match us, hl with | [_, _], _ => ⟨_, rfl, rfl⟩)⟩
  have D__law_rows : Df ⟨K, clN K names⟩ mg "_law_rows" s__law_rows P__law_rows dd__law_rows kk__law_rows := df_mk X0 G0 a__law_rows l__law_rows c__law_rows k__law_rows fun fd F0 => ⟨(fun dd hd => by rcases List.mem_singleton.mp hd with rfl; exact bd_of F0 fun _ _ _ _ _ _ us hl => match us, hl with | [_, _], _ => rfl), (fun _ hd => nomatch hd)⟩
  have D_check_there : Df ⟨K, clN K names⟩ mg "check_there" s_check_there P_check_there dd_check_there kk_check_there := df_mk X0 G0 a_check_there l_check_there c_check_there k_check_there fun fd F0 => ⟨(fun dd hd => by rcases List.mem_singleton.mp hd with rfl; exact bd_of F0 fun _ _ _ _ _ _ us hl => match us, hl with | [_, _], _ => rfl), (fun _ hd => nomatch hd)⟩
  have D_known_ends : Df ⟨K, clN K names⟩ mg "known_ends" s_known_ends P_known_ends dd_known_ends kk_known_ends := df_mk X0 G0 a_known_ends l_known_ends c_known_ends k_known_ends fun fd F0 => ⟨(fun dd hd => by rcases List.mem_singleton.mp hd with rfl; exact bd_of F0 fun _ _ _ _ _ _ us hl => match us, hl with | [_, _, _, _], _ => rfl), (fun _ hd => nomatch hd)⟩
  have D_leads : Df ⟨K, clN K names⟩ mg "leads" s_leads P_leads dd_leads kk_leads := df_mk X0 G0 a_leads l_leads c_leads k_leads fun fd F0 => ⟨(fun dd hd => by rcases List.mem_singleton.mp hd with rfl; exact bd_of F0 fun _ _ _ _ _ _ us hl => match us, hl with | [_, _, _], _ => rfl), (fun _ hd => nomatch hd)⟩
  have D__law_paths : Df ⟨K, clN K names⟩ mg "_law_paths" s__law_paths P__law_paths dd__law_paths kk__law_paths := df_mk X0 G0 a__law_paths l__law_paths c__law_paths k__law_paths fun fd F0 => ⟨(fun dd hd => by rcases List.mem_singleton.mp hd with rfl; exact bd_of F0 fun _ _ _ _ _ _ us hl => match us, hl with | [_, _, _], _ => rfl), (fun _ hd => nomatch hd)⟩
  have D__law_due : Df ⟨K, clN K names⟩ mg "_law_due" s__law_due P__law_due dd__law_due kk__law_due := df_mk X0 G0 a__law_due l__law_due c__law_due k__law_due fun fd F0 => ⟨(fun dd hd => by rcases List.mem_singleton.mp hd with rfl; exact bd_of F0 fun _ _ _ _ _ _ us hl => match us, hl with | [_, _, _], _ => rfl), (fun _ hd => nomatch hd)⟩
  have D__law_missing : Df ⟨K, clN K names⟩ mg "_law_missing" s__law_missing P__law_missing dd__law_missing kk__law_missing := df_mk X0 G0 a__law_missing l__law_missing c__law_missing k__law_missing fun fd F0 => ⟨(fun dd hd => by rcases List.mem_singleton.mp hd with rfl; exact bd_of F0 fun _ _ _ _ _ _ us hl => match us, hl with | [_, _, _], _ => rfl), (fun _ hd => nomatch hd)⟩
  have D_links_in : Df ⟨K, clN K names⟩ mg "links_in" s_links_in P_links_in dd_links_in kk_links_in := df_mk X0 G0 a_links_in l_links_in c_links_in k_links_in fun fd F0 => ⟨(fun dd hd => by rcases List.mem_singleton.mp hd with rfl; exact bd_of F0 fun _ _ _ _ _ _ us hl => match us, hl with | [_, _], _ => rfl), (fun _ hd => nomatch hd)⟩
  have D_rows_of : Df ⟨K, clN K names⟩ mg "rows_of" s_rows_of P_rows_of dd_rows_of kk_rows_of := df_mk X0 G0 a_rows_of l_rows_of c_rows_of k_rows_of fun fd F0 => ⟨(fun dd hd => by rcases List.mem_singleton.mp hd with rfl; exact bd_of F0 fun _ _ _ _ _ _ us hl => match us, hl with | [_], _ => rfl), (fun _ hd => nomatch hd)⟩
  have F0_Catalog_rows := fun_mk (st := s_Catalog_rows) l_Catalog_rows c_Catalog_rows k_Catalog_rows
  have D_Catalog_rows : Dm ⟨K, clN K names⟩ "Catalog" "rows" "Catalog.rows" s_Catalog_rows P_Catalog_rows dd_Catalog_rows := ⟨_, _, _, nC_Catalog, (fx F0_Catalog_rows), cC_Catalog, ⟨a_Catalog_rows, af_Catalog_rows, k_Catalog_rows⟩, (fun dd hd => by rcases List.mem_singleton.mp hd with rfl; exact bd_of2 F0_Catalog_rows fun _ _ _ _ _ _ us hl => match us, hl with | [_], _ => rfl)⟩
  have D__law_told : Df ⟨K, clN K names⟩ mg "_law_told" s__law_told P__law_told dd__law_told kk__law_told := df_mk X0 G0 a__law_told l__law_told c__law_told k__law_told fun fd F0 => ⟨(fun dd hd => by rcases List.mem_singleton.mp hd with rfl; exact bd_of F0 fun _ _ _ _ _ _ us hl => match us, hl with | [_], _ => rfl), (fun _ hd => nomatch hd)⟩
  have C__law_box := cl__law_box (P := l.prog) (w := w) (base := base) T D__law_box 
  have C__law_take := cl__law_take (P := l.prog) (w := w) (base := base) T D__law_take 
  have C__law_names := cl__law_names (P := l.prog) (w := w) (base := base) T D__law_names C__law_take
  have C__law_shuffled := cl__law_shuffled (P := l.prog) (w := w) (base := base) T D__law_shuffled C__law_take
  have C__law_graph := cl__law_graph (P := l.prog) (w := w) (base := base) T D__law_graph C__law_shuffled C__law_take
  have C_has_letters := cl_has_letters (P := l.prog) (w := w) (base := base) T D_has_letters 
  have C_is_name := cl_is_name (P := l.prog) (w := w) (base := base) T D_is_name C_has_letters
  have C_graph_of := cl_graph_of (P := l.prog) (w := w) (base := base) T D_graph_of 
  have C_reached := cl_reached (P := l.prog) (w := w) (base := base) T D_reached 
  have C_look_rows := cl_look_rows (P := l.prog) (w := w) (base := base) T D_look_rows C_graph_of C_is_name C_reached
  have C_Catalog_init := cl_Catalog_init (P := l.prog) (w := w) (base := base) T D_Catalog_init C_graph_of C_look_rows
  have C__law_rows := cl__law_rows (P := l.prog) (w := w) (base := base) T D__law_rows C__law_shuffled
  have C_check_there := cl_check_there (P := l.prog) (w := w) (base := base) T D_check_there 
  have C_known_ends := cl_known_ends (P := l.prog) (w := w) (base := base) T D_known_ends 
  have C_leads := cl_leads (P := l.prog) (w := w) (base := base) T D_leads C_check_there C_known_ends
  have C__law_paths := cl__law_paths (P := l.prog) (w := w) (base := base) T D__law_paths 
  have C__law_due := cl__law_due (P := l.prog) (w := w) (base := base) T D__law_due C__law_paths
  have C__law_missing := cl__law_missing (P := l.prog) (w := w) (base := base) T D__law_missing C_leads
  have C_links_in := cl_links_in (P := l.prog) (w := w) (base := base) T D_links_in 
  have C_rows_of := cl_rows_of (P := l.prog) (w := w) (base := base) T D_rows_of C_links_in
  have C_Catalog_rows := cl_Catalog_rows (P := l.prog) (w := w) (base := base) T D_Catalog_rows C_rows_of
  have C__law_told := cl__law_told (P := l.prog) (w := w) (base := base) T D__law_told 
  exact ok_law T (fx (fun_mk (st := s_law) l_law c_law k_law)) C_Catalog_init C_Catalog_rows C__law_box C__law_due C__law_graph C__law_missing C__law_names C__law_rows C__law_shuffled C__law_take C__law_told C_leads
end
end Y_k18

namespace Y_k18
open PySem L2 Z
theorem take_ok : TakeOk f__law_take := by
  intro b m h1 h2
  by_cases ha : 0 < b.a
  · simp -implicitDefEqProofs [f__law_take, b__law_take, b__law_take_4, b__law_take_3, b__law_take_2, b__law_take_1, fnOf_eq, st0, tre_def, loc_def, at_def, List.replicate, ha, h1, h2, bx, tkR, tkB]
  · simp -implicitDefEqProofs [f__law_take, b__law_take, b__law_take_4, b__law_take_3, b__law_take_2, b__law_take_1, fnOf_eq, st0, tre_def, loc_def, at_def, List.replicate, ha, h1, h2, bx, tkR, tkB, tk1, tk2]
theorem take_s {b : Bx} {m : Int} (h1 : 0 < m) (h2 : m < 1073741824) : f__law_take [(bx b, 1), (.int m, 0)] = .ok (.int (tkR b m), 0) [(bx (tkB b m), 1), (.int m, 0)] := take_ok b m h1 h2
theorem box_ok : BoxOk f__law_box := by
  intro ns k hk
  by_cases h : k < ns.length
  · obtain ⟨x, _, e⟩ := atI_map (f := D.int) hk h
    simp -implicitDefEqProofs [f__law_box, b__law_box, b__law_box_3, b__law_box_2, b__law_box_1, fnOf_eq, st0, tre_def, loc_def, at_def, List.replicate, h, e]
    (repeat' split) <;> exact ⟨⟨_, _, _⟩, rfl⟩
  · by_cases h2 : 0 < ns.length
    · have hl : (0 : Int) < ns.length := by omega
      obtain ⟨x, _, e⟩ := atI_map (f := D.int) (Int.emod_nonneg k (b := ns.length) (by omega)) (Int.emod_lt_of_pos k hl)
      simp -implicitDefEqProofs [f__law_box, b__law_box, b__law_box_3, b__law_box_2, b__law_box_1, fnOf_eq, st0, tre_def, loc_def, at_def, List.replicate, h, h2, hl, e]
      (repeat' split) <;> exact ⟨⟨_, _, _⟩, rfl⟩
    · simp -implicitDefEqProofs [f__law_box, b__law_box, b__law_box_3, b__law_box_2, b__law_box_1, fnOf_eq, st0, tre_def, loc_def, at_def, List.replicate, h, h2]
      (repeat' split) <;> exact ⟨⟨_, _, _⟩, rfl⟩
def shS (c1 : Ce) (m : Nat) (left found : List D) (b : Bx) (xs : List D) : S := [.pa 4, c1, .ow (.lst left) 1, .ow (.lst found) 1, .ow (bx b) 1, .ow (.lst xs) m]
theorem shuf_w (c1 : Ce) (m : Nat) (left found : List D) (b : Bx) (xs : List D) (h : ∀ x ∈ left, gP 20 x) : w__law_shuffled_1 (shS c1 m left found b xs) = .ok (!left.isEmpty) (shS c1 m left found b xs) := by
  simp -implicitDefEqProofs [shS, w__law_shuffled_1, tre_def, loc_def, at_def, fNe_nil h (by decide : 20 < 64)]
theorem shuf_b (c1 : Ce) (m : Nat) (left found : List D) (b : Bx) (xs : List D) (h0 : 0 < left.length) (h1 : left.length + found.length ≤ 1000000) (i : Nat) (hi : i = (tkR b left.length).toNat) (hl : i < left.length) :
    l__law_shuffled_1 (shS c1 m left found b xs) = .ok .nx (shS c1 m (left.eraseIdx i) (found ++ [left[i]]) (tkB b left.length) xs) := by
  have hb : big = 16000000 := rfl
  have hm : (0 : Int) < left.length := by omega
  have hm2 : (left.length : Int) < 1073741824 := by omega
  have ep : gPopAt (.lst left) [.int (tkR b left.length)] = some (.lst (left.eraseIdx i), left[i]) := by
    subst hi
    exact gPopAt_l (tk_ge hm) (by have := tk_lt (b := b) hm; omega) (by omega)
  have hf : found.length < big := by omega
  simp -implicitDefEqProofs [shS, l__law_shuffled_1, tre_def, loc_def, at_def, take_s hm hm2, ep, hf]
theorem shuf_okm (b : Bx) (m : Nat) (hm01 : m = 0 ∨ m = 1) (xs : List D) (hx : ∀ x ∈ xs, gP 20 x) (hl : xs.length ≤ 1000000) : ∃ ys b', f__law_shuffled [(bx b, 1), (.lst xs, m)] = .ok (.lst ys, 0) [(bx b', 1), (.lst xs, m)] ∧ ys.Perm xs := by
  obtain ⟨c1, e0⟩ : ∃ c1, b__law_shuffled (st0 4 [(bx b, 1), (.lst xs, m)]) = b__law_shuffled_1 (shS c1 m xs [] b xs) := by
    rcases hm01 with rfl | rfl
    · refine ⟨.ow (.lst xs) 0, ?_⟩
      simp -implicitDefEqProofs [st0, List.replicate, b__law_shuffled, tre_def, loc_def, at_def, shS]
    · refine ⟨.pa 5, ?_⟩
      simp -implicitDefEqProofs [st0, List.replicate, b__law_shuffled, tre_def, loc_def, at_def, shS]
  have h0 : b__law_shuffled_1 (shS c1 m xs [] b xs) = sqK b__law_shuffled_2 (mWhile w__law_shuffled_1 l__law_shuffled_1 (shS c1 m xs [] b xs)) := by
    unfold b__law_shuffled_1; exact mSeq_eq
  have hw := mWhile_run (t := w__law_shuffled_1) (body := l__law_shuffled_1) (s := shS c1 m xs [] b xs) (k := xs.length)
    (I := fun k s => ∃ left found b', k = left.length ∧ s = shS c1 m left found b' xs ∧ (found ++ left).Perm xs)
    (P := fun r => ∃ found b', r = .ok .nx (shS c1 m [] found b' xs) ∧ found.Perm xs)
    (fun ⟨_, _, e, _⟩ => nomatch e)
    (by
      rintro k s ⟨left, found, b', rfl, rfl, hp⟩
      have hlen := hp.length_eq
      rw [List.length_append] at hlen
      rw [shuf_w c1 m left found b' xs fun x hm => hx x (hp.mem_iff.mp (List.mem_append_right _ hm))]
      by_cases h : left = []
      · subst h
        exact ⟨found, b', rfl, by simpa using hp⟩
      · have hpos : 0 < left.length := List.length_pos_iff.mpr h
        have hn : left.isEmpty = false := by simpa using h
        rw [hn]
        have hm : (0 : Int) < left.length := by omega
        have hi : (tkR b' left.length).toNat < left.length := by
          have := tk_lt (b := b') hm
          have := tk_ge (b := b') hm
          omega
        show (match l__law_shuffled_1 (shS c1 m left found b' xs) with | .ok .nx s2 => _ | .ok .ct s2 => _ | .ok .bk s2 => _ | .ok (.rt t) s2 => _ | .ex x s2 => _ | .no => False)
        rw [shuf_b c1 m left found b' xs hpos (by omega) _ rfl hi]
        refine ⟨(left.eraseIdx _).length, ?_, _, _, _, rfl, rfl, ?_⟩
        · rw [List.length_eraseIdx_of_lt hi]; omega
        · rw [List.append_assoc]
          exact ((perm_erase hi).append_left found).trans hp)
    ⟨xs, [], b, rfl, rfl, by simp⟩
  obtain ⟨found, b', e, hp⟩ := hw
  refine ⟨found, b', ?_, hp⟩
  refine fnOf_eq.trans (fnK_rw (e0.trans (h0.trans (congrArg _ e))) ?_)
  simp -implicitDefEqProofs [b__law_shuffled_2, tre_def, loc_def, at_def, shS]
theorem shuf_ok (b : Bx) (xs : List D) (hx : ∀ x ∈ xs, gP 20 x) (hl : xs.length ≤ 1000000) : ∃ ys b', f__law_shuffled [(bx b, 1), (.lst xs, 1)] = .ok (.lst ys, 0) [(bx b', 1), (.lst xs, 1)] ∧ ys.Perm xs := shuf_okm b 1 (.inr rfl) xs hx hl
theorem letc_a (t : Str) (h : t.length ≤ 1000) : lcL [1] (.nm 1) mYes e_has_letters_1 ((sl t).map chS) [] [.ow (.str t) 0, .un, .ow (.str t) 0] = .ok (((sl t).map inLL).map D.bl) [.ow (.str t) 0, .un, .ow (.str t) 0] := by
  rw [lcL_mp (fun k => .bl (inLL k)), List.map_map]
  · rfl
  · intro k _
    simp -implicitDefEqProofs [f_has_letters, b_has_letters, e_has_letters_1, fnOf_eq, st0, tre_def, loc_def, at_def, List.replicate, lcStep_eq, d_LETTERS, inLL]
  · have hb : 1000 ≤ big := by decide
    simp
    omega
theorem letters_ok (t : Str) (h : t.length ≤ 1000) : f_has_letters [(.str t, 0)] = .ok (.bl (hl t), 0) [(.str t, 0)] := by
  have hb : t.length ≤ big := Nat.le_trans h (by decide)
  by_cases h1 : 1 ≤ t.length
  · have h1' : (1 : Int) ≤ t.length := by omega
    by_cases h2 : t.length ≤ 8
    · have h2' : (t.length : Int) ≤ 8 := by omega
      have hc := letc_a t h
      unfold e_has_letters_1 d_LETTERS at hc
      have fa : ∀ n, fAll [(.lst ((sl t).map (D.bl ∘ inLL)), n)] = some (.bl ((sl t).all inLL), 0) := fun n => by
        have := fAll_map (bs := (sl t).map inLL) (n := n)
        rw [List.map_map] at this
        rw [this]
        simp
      simp -implicitDefEqProofs [f_has_letters, b_has_letters, e_has_letters_1, fnOf_eq, st0, tre_def, loc_def, at_def, List.replicate, hb, d_LONGEST, d_LETTERS, h1, h2, h1', h2', hc, fa, hl]
    · have h2' : ¬ (t.length : Int) ≤ 8 := by omega
      simp -implicitDefEqProofs [f_has_letters, b_has_letters, e_has_letters_1, fnOf_eq, st0, tre_def, loc_def, at_def, List.replicate, hb, d_LONGEST, d_LETTERS, h1, h2, h1', h2', hl]
  · have h1' : ¬ (1 : Int) ≤ t.length := by omega
    simp -implicitDefEqProofs [f_has_letters, b_has_letters, e_has_letters_1, fnOf_eq, st0, tre_def, loc_def, at_def, List.replicate, hb, d_LONGEST, d_LETTERS, h1, h1', hl]
theorem kw_eq : d_KEPT_WORDS = .tup (KW.map .str) := rfl
theorem name_ok (t : Str) (h : t.length ≤ 1000) : f_is_name [(.str t, 0)] = .ok (.bl (nmOk t), 0) [(.str t, 0)] := by
  unfold nmOk
  cases q : hl t
  all_goals simp -implicitDefEqProofs [f_is_name, b_is_name, fnOf_eq, st0, tre_def, loc_def, at_def, List.replicate, letters_ok t h, q, kw_eq, fNotIn_of (show inD (.str t) (.tup (KW.map .str)) = _ from inQ_strs t KW)]
def naS (m : Nat) (c3 c4 c5 c6 c7 c8 c9 c10 : Ce) (b : Bx) : S := [.pa 11, .ow (.int (m : Int)) 0, .ow (.str LL) 0, c3, c4, c5, c6, c7, c8, c9, c10, .ow (bx b) 1, .ow (.int (m : Int)) 0]
theorem names_c (m j : Nat) (hj : j ≤ 7) (c3 : Ce) (b : Bx) : ∃ (cs : List Nat) (b' : Bx), lcL [6] (.nm 6) mYes e__law_names_1 (rngL 0 j) [] (naS m c3 .un .un .un .un .un .un .un b) = .ok (cs.map chS) (naS m c3 .un .un .un .un .un .un .un b') ∧ cs.length = j ∧ ∀ c ∈ cs, inLL c = true := by
  obtain ⟨acc, s', e, cs, b', rfl, rfl, h1, h2⟩ := lcL_rng (us := [6]) (tg := .nm 6) (t := mYes) (m := e__law_names_1) (n := j) (s := naS m c3 .un .un .un .un .un .un .un b)
    (I := fun k acc s => ∃ (cs : List Nat) (b' : Bx), acc = cs.map chS ∧ s = naS m c3 .un .un .un .un .un .un .un b' ∧ cs.length = k ∧ ∀ c ∈ cs, inLL c = true)
    (by
      rintro k hk acc s ⟨cs, b', rfl, rfl, hl, hc⟩
      have hb : 100 < big := by decide
      obtain ⟨c, e, hi⟩ := draw_ll b'
      refine ⟨by simp; omega, some (chS c), naS m c3 .un .un .un .un .un .un .un (tkB b' 26), ?_, cs ++ [c], tkB b' 26, by simp, rfl, by simp; omega, fun x hx => ?_⟩
      · simp -implicitDefEqProofs [naS, e__law_names_1, lcStep_eq, tre_def, loc_def, at_def, take_s, e, ll_len, (by decide : 26 ≤ big)]
      · rcases List.mem_append.mp hx with hx | hx
        · exact hc x hx
        · rw [List.mem_singleton.mp hx]; exact hi)
    ⟨[], b, rfl, rfl, rfl, fun c h => nomatch h⟩
  exact ⟨cs, b', e, h1, h2⟩
theorem names_l {m k f : Nat} {st : List Nat} {at' : Nat} (ha : at' ≤ st.length) (hs : st.length ≤ 6) (hf : f < 26) (hk : k ≤ 25) {found : List Str} (hfl : found.length ≤ 100) (c9 c10 : Ce) (b : Bx) :
    l__law_names_1 (naS m (.ow (.lst (KW.map D.str)) 1) (.ow (.str (mkS st)) 0) (.ow (.lst (found.map D.str)) 1) (.ow (.int (k : Int)) 0) (.ow (.int (at' : Int)) 0) (.ow (.int (f : Int)) 0) c9 c10 b) =
      .ok .nx (naS m (.ow (.lst (KW.map D.str)) 1) (.ow (.str (mkS st)) 0) (.ow (.lst ((found ++ [mkS (nmx (st.take at') (st.drop at') f k)]).map D.str)) 1) (.ow (.int (k : Int)) 0) (.ow (.int (at' : Int)) 0) (.ow (.int (f : Int)) 0) (.ow (.str (mkS [97 + (f + 7 * k) % 26])) 0) (.ow (.str (mkS (nmc (st.take at') (st.drop at') f k))) 0) b) := by
  have hb : big = 16000000 := rfl
  have e1 : atI (sl LL) (((f : Int) + 7 * (k : Int)) % 26) = some (97 + (f + 7 * k) % 26) := by
    have := ll_at (j := (f + 7 * k) % 26) (Nat.mod_lt _ (by decide))
    rw [← this, show ((f : Int) + 7 * (k : Int)) % 26 = (((f + 7 * k) % 26 : Nat) : Int) by omega]
  have hlen : (mkS st).length ≤ big := by rw [mkS_len]; omega
  have ht : (st.take at').length ≤ 6 := by simp; omega
  have hd : (st.drop at').length ≤ 6 := by simp; omega
  have hq : (qs k).length ≤ 1 := by unfold qs; split <;> simp
  have eq1 : ∀ n m, fMul [(.str "q", n), (.int ((k : Int) % 2), m)] = some (.str (mkS (qs k)), 0) := fun n m => by
    rw [q_mk, fMul_s ⟨by omega, by omega, by decide⟩, rep_q]
  have a1 : ∀ n m, fAdd [(.str (mkS (qs k)), n), (.str (mkS (st.take at')), m)] = some (.str (mkS (qs k ++ st.take at')), 0) := fun n m => fAdd_mk (by omega)
  have a2 : ∀ n m, fAdd [(.str (mkS (qs k ++ st.take at')), n), (.str (mkS [97 + (f + 7 * k) % 26]), m)] = some (.str (mkS (qs k ++ st.take at' ++ [97 + (f + 7 * k) % 26])), 0) := fun n m => fAdd_mk (by rw [List.length_append]; simp; omega)
  have a3 : ∀ n m, fAdd [(.str (mkS (qs k ++ st.take at' ++ [97 + (f + 7 * k) % 26])), n), (.str (mkS (st.drop at')), m)] = some (.str (mkS (nmc (st.take at') (st.drop at') f k)), 0) := fun n m => by
    rw [fAdd_mk (by rw [List.length_append, List.length_append]; simp; omega)]
    simp -implicitDefEqProofs [nmc]
  have hn : (nmc (st.take at') (st.drop at') f k).length ≤ 20 := by rw [nmc_len]; omega
  have hfl' : found.length < big := by omega
  by_cases hw : mkS (nmc (st.take at') (st.drop at') f k) ∈ KW
  · have a4 : ∀ n m, fAdd [(.str (mkS (nmc (st.take at') (st.drop at') f k)), n), (.str (mkS [120]), m)] = some (.str (mkS (nmx (st.take at') (st.drop at') f k)), 0) := fun n m => by
      rw [fAdd_mk (by simp; omega), nmx, if_pos hw]
    have x1 : ∀ n m, fMul [(.str "x", n), (.int 1, m)] = some (.str (mkS [120]), 0) := fun n m => by
      rw [fMul_s (by decide), x_mk]; rfl
    simp -implicitDefEqProofs [-fAdd_s, -fMul_s, -List.append_assoc, naS, l__law_names_1, l__law_names_1_1, l__law_names_1_2, tre_def, loc_def, Z.at_def, e1, hlen, eq1, mkS_cut_l ha, mkS_cut_r ha, chS_mk, a1, a2, a3, a4, x1, hw, hfl', ll_len, (by decide : 26 ≤ big), cmul_l]
  · have a4 : ∀ n m, fAdd [(.str (mkS (nmc (st.take at') (st.drop at') f k)), n), (.str (mkS []), m)] = some (.str (mkS (nmx (st.take at') (st.drop at') f k)), 0) := fun n m => by
      rw [fAdd_mk (by simp; omega), nmx, if_neg hw]
    have x1 : ∀ n m, fMul [(.str "x", n), (.int 0, m)] = some (.str (mkS []), 0) := fun n m => by
      rw [fMul_s (by decide), x_mk]; rfl
    simp -implicitDefEqProofs [-fAdd_s, -fMul_s, -List.append_assoc, naS, l__law_names_1, l__law_names_1_1, l__law_names_1_2, tre_def, loc_def, Z.at_def, e1, hlen, eq1, mkS_cut_l ha, mkS_cut_r ha, chS_mk, a1, a2, a3, a4, x1, hw, hfl', ll_len, (by decide : 26 ≤ big), cmul_l]
theorem names_0 (b : Bx) (m : Nat) : b__law_names (st0 11 [(bx b, 1), (.int (m : Int), 0)]) = b__law_names_2 (naS m (.ow (.lst (KW.map D.str)) 1) .un .un .un .un .un .un .un b) := by
  simp -implicitDefEqProofs [st0, List.replicate, b__law_names, b__law_names_1, tre_def, loc_def, at_def, naS, fSplit_of kw_lens kw_split]
theorem names_2 (b b1 : Bx) (m j : Nat) (hj : j ≤ 7) (ej : tkR b 7 = (j : Int)) (cs : List Nat) (hcl : cs.length = j) (ec : lcL [6] (.nm 6) mYes e__law_names_1 (rngL 0 j) [] (naS m (.ow (.lst (KW.map D.str)) 1) .un .un .un .un .un .un .un (tkB b 7)) = .ok (cs.map chS) (naS m (.ow (.lst (KW.map D.str)) 1) .un .un .un .un .un .un .un b1)) :
    b__law_names_2 (naS m (.ow (.lst (KW.map D.str)) 1) .un .un .un .un .un .un .un b) = b__law_names_3 (naS m (.ow (.lst (KW.map D.str)) 1) (.ow (.str (mkS cs)) 0) .un .un .un .un .un .un b1) := by
  have hb : big = 16000000 := rfl
  have ejn : ∀ n m, fJoin [(.str "", n), (.lst (cs.map chS), m)] = some (.str (mkS cs), 0) := fun n m => fJoin_sigs (by omega)
  generalize D.lst (KW.map D.str) = kw at *
  unfold naS at ec ⊢
  simp -implicitDefEqProofs [b__law_names_2, tre_def, loc_def, at_def, take_s, ej, r1K2_nat (show j ≤ 1000000 by omega), ec, ejn]
theorem names_3 (b1 : Bx) (m at' f : Nat) (cs : List Nat) (hcl : cs.length ≤ 7) (ea : tkR b1 ((cs.length : Int) + 1) = (at' : Int)) (ef : tkR (tkB b1 ((cs.length : Int) + 1)) 26 = (f : Int)) (c3 : Ce) :
    b__law_names_3 (naS m c3 (.ow (.str (mkS cs)) 0) .un .un .un .un .un .un b1) =
      b__law_names_5 (naS m c3 (.ow (.str (mkS cs)) 0) (.ow (.lst []) 1) .un (.ow (.int (at' : Int)) 0) (.ow (.int (f : Int)) 0) .un .un (tkB (tkB b1 ((cs.length : Int) + 1)) 26)) := by
  have hb : big = 16000000 := rfl
  have hlen : cs.length ≤ big := by omega
  have hl1 : (0 : Int) < (cs.length : Int) + 1 := by omega
  have hl2 : (cs.length : Int) + 1 < 1073741824 := by omega
  simp -implicitDefEqProofs [naS, b__law_names_3, b__law_names_4, tre_def, loc_def, Z.at_def, take_s, mkS_len, hlen, hl1, hl2, ea, ef]
theorem names_5 (m : Nat) (hm : m ≤ 26) (c3 c4 c5 c6 c7 c8 c9 c10 : Ce) (b : Bx) : b__law_names_5 (naS m c3 c4 c5 c6 c7 c8 c9 c10 b) = sqK b__law_names_6 (forL (.nm 6) l__law_names_1 (rngL 0 m) (naS m c3 c4 c5 c6 c7 c8 c9 c10 b)) := by
  simp -implicitDefEqProofs [b__law_names_5, tre_def, loc_def, Z.at_def, naS, r1K2_nat (show m ≤ 1000000 by omega)]
theorem names_6 (m : Nat) (c3 c4 c6 c7 c8 c9 c10 : Ce) (d : D) (b : Bx) : fnK 11 (b__law_names_6 (naS m c3 c4 (.ow d 1) c6 c7 c8 c9 c10 b)) = .ok (d, 0) [(bx b, 1), (.int (m : Int), 0)] := by
  simp -implicitDefEqProofs [b__law_names_6, tre_def, loc_def, Z.at_def, naS]
theorem names_ok (b : Bx) (m : Nat) (hm : m ≤ 26) : ∃ (s1 s2 : List Nat) (f : Nat) (b' : Bx), s1.length + s2.length ≤ 6 ∧ (∀ c ∈ s1, inLL c = true) ∧ (∀ c ∈ s2, inLL c = true) ∧ f__law_names [(bx b, 1), (.int (m : Int), 0)] = .ok (.lst ((nms s1 s2 f m).map D.str), 0) [(bx b', 1), (.int (m : Int), 0)] := by
  obtain ⟨j, ej, hj⟩ := tk_nat (b := b) (m := 7) (by decide)
  obtain ⟨cs, b1, ec, hcl, hcs⟩ := names_c m j (by omega) (.ow (.lst (KW.map D.str)) 1) (tkB b 7)
  obtain ⟨at', ea, ha⟩ := tk_nat (b := b1) (m := (cs.length : Int) + 1) (by omega)
  obtain ⟨f, ef, hf⟩ := tk_nat (b := tkB b1 ((cs.length : Int) + 1)) (m := 26) (by decide)
  have ha' : at' ≤ cs.length := by omega
  have h6 : cs.length ≤ 6 := by omega
  have h7 : f < 26 := by omega
  obtain ⟨s', e3, c6, c9, c10, rfl⟩ := forL_rng (tg := .nm 6) (body := l__law_names_1) (n := m) (s := naS m (.ow (.lst (KW.map D.str)) 1) (.ow (.str (mkS cs)) 0) (.ow (.lst []) 1) .un (.ow (.int (at' : Int)) 0) (.ow (.int (f : Int)) 0) .un .un (tkB (tkB b1 ((cs.length : Int) + 1)) 26))
    (I := fun k s => ∃ c6 c9 c10, s = naS m (.ow (.lst (KW.map D.str)) 1) (.ow (.str (mkS cs)) 0) (.ow (.lst ((nms (cs.take at') (cs.drop at') f k).map D.str)) 1) c6 (.ow (.int (at' : Int)) 0) (.ow (.int (f : Int)) 0) c9 c10 (tkB (tkB b1 ((cs.length : Int) + 1)) 26))
    (by
      rintro k hk s ⟨c6, c9, c10, rfl⟩
      refine ⟨_, _, rfl, names_l ha' h6 h7 (Nat.le_of_lt_succ (Nat.lt_of_lt_of_le hk hm)) (by rw [nms_len]; exact Nat.le_trans (Nat.le_of_lt hk) (Nat.le_trans hm (by decide))) c9 c10 _, ?_⟩
      rw [nms_succ]
      exact ⟨_, _, _, rfl⟩)
    ⟨.un, .un, .un, rfl⟩
  refine ⟨cs.take at', cs.drop at', f, tkB (tkB b1 ((cs.length : Int) + 1)) 26, ?_, fun c hc => hcs c (List.mem_of_mem_take hc), fun c hc => hcs c (List.mem_of_mem_drop hc), ?_⟩
  · rw [List.length_take, List.length_drop]; omega
  refine fnOf_eq.trans (fnK_rw ((names_0 b m).trans ((names_2 b b1 m j (by omega) ej cs hcl ec).trans ((names_3 b1 m at' f cs (by omega) ea ef _).trans ((names_5 m hm _ _ _ _ _ _ _ _ _).trans (congrArg _ e3))))) ?_)
  rw [sqK_nx]
  exact names_6 m _ _ _ _ _ _ _ _ _
def grS (d : Nat) (ys : List Str) (g : D) (c5 c6 c7 c8 : Ce) (b : Bx) (xs : List D) : S := [.pa 9, .pa 10, .ow (.int (d : Int)) 0, .ow (.lst (ys.map D.str)) 0, .ow g 1, c5, c6, c7, c8, .ow (bx b) 1, .ow (.lst xs) 1, .ow (.int (d : Int)) 0]
theorem graph_i {d k : Nat} {ys : List Str} (hk : k < ys.length) (h0 : 0 < k) (hk2 : k ≤ 1000000) {g : D} {c6 c8 : Ce} {lk : Lk} (hl : lk.length ≤ 1000) {b : Bx} {xs : List D} :
    ∃ (t kd : Str) (b' : Bx), t ∈ ys.take k ∧ (kd = "needs" ∨ kd = "part") ∧ l__law_graph_2 (grS d ys g (.ow (.int (k : Int)) 0) c6 (.ow (eL lk) 1) c8 b xs) = .ok .nx (grS d ys g (.ow (.int (k : Int)) 0) c6 (.ow (eL (putL lk t kd)) 1) c8 b' xs) := by
  have hb : big = 16000000 := rfl
  have hlb : lk.length < big := by omega
  obtain ⟨j, ej, hj⟩ := tk_nat (b := b) (m := 2) (by decide)
  obtain ⟨i, ei, hi⟩ := tk_nat (b := tkB b 2) (m := (k : Int)) (by omega)
  have hik : i < ys.length := by omega
  have hkm : (0 : Int) < (k : Int) := by omega
  have hkm2 : (k : Int) < 1073741824 := by omega
  have hkm3 : k < 1073741824 := by omega
  have e1 : atI (ys.map D.str) (i : Int) = some (.str ys[i]) := by
    rw [atI_ok (by omega) (by simp; omega)]
    simp
  have hm : ys[i] ∈ ys.take k := by
    rw [List.mem_take_iff_getElem]
    exact ⟨i, by omega, rfl⟩
  have hj2 : j = 0 ∨ j = 1 := by omega
  rcases hj2 with rfl | rfl
  · refine ⟨ys[i], "needs", tkB (tkB b 2) k, hm, .inl rfl, ?_⟩
    simp -implicitDefEqProofs [grS, l__law_graph_2, tre_def, loc_def, at_def, take_s, h0, hkm, hkm2, hkm3, ej, ei, e1, setD_s hlb]
  · refine ⟨ys[i], "part", tkB (tkB b 2) k, hm, .inr rfl, ?_⟩
    simp -implicitDefEqProofs [grS, l__law_graph_2, tre_def, loc_def, at_def, take_s, h0, hkm, hkm2, hkm3, ej, ei, e1, setD_s hlb]
theorem graph_n {d k : Nat} {ys : List Str} (hk : k < ys.length) (hk2 : k ≤ 1000000) (hd : d ≤ 100) {g : D} {c7 c8 : Ce} {b : Bx} {xs : List D} :
    ∃ (lk : Lk) (b' : Bx) (c8' : Ce), Lok (ys.take k) lk ∧ lk.length ≤ d ∧ l__law_graph_1 (grS d ys g (.ow (.int (k : Int)) 0) (.ow (.str ys[k]) 0) c7 c8 b xs) = l__law_graph_1_2 (grS d ys g (.ow (.int (k : Int)) 0) (.ow (.str ys[k]) 0) (.ow (eL lk) 1) c8' b' xs) := by
  have hd1 : (0 : Int) < (d : Int) + 1 := by omega
  have hd2 : (d : Int) + 1 < 1073741824 := by omega
  obtain ⟨j, ej, hj⟩ := tk_nat (b := b) (m := (d : Int) + 1) hd1
  rcases Nat.eq_zero_or_pos k with h0 | h0
  · subst h0
    refine ⟨[], tkB b (d + 1), c8, ⟨List.nodup_nil, (fun t h => nomatch h), fun l h => nomatch h⟩, Nat.zero_le _, ?_⟩
    simp -implicitDefEqProofs [grS, l__law_graph_1, l__law_graph_1_1, tre_def, loc_def, at_def, take_s, hd1, hd2, cmul_r, r1K2_0, forL]
  · have e1 : l__law_graph_1 (grS d ys g (.ow (.int (k : Int)) 0) (.ow (.str ys[k]) 0) c7 c8 b xs) = sqK l__law_graph_1_2 (forL (.nm 8) l__law_graph_2 (rngL 0 j) (grS d ys g (.ow (.int (k : Int)) 0) (.ow (.str ys[k]) 0) (.ow (eL []) 1) c8 (tkB b (d + 1)) xs)) := by
      have hk1 : (0 : Int) < (k : Int) := by omega
      simp -implicitDefEqProofs [grS, l__law_graph_1, l__law_graph_1_1, tre_def, loc_def, at_def, take_s, hd1, hd2, cmul_r, ej, hk1, h0, r1K2_nat (show j ≤ 1000000 by omega)]
    obtain ⟨s', e2, lk, b', c8', rfl, h1, h2⟩ := forL_rng (tg := .nm 8) (body := l__law_graph_2) (n := j) (s := grS d ys g (.ow (.int (k : Int)) 0) (.ow (.str ys[k]) 0) (.ow (eL []) 1) c8 (tkB b (d + 1)) xs)
      (I := fun i s => ∃ lk b' c8', s = grS d ys g (.ow (.int (k : Int)) 0) (.ow (.str ys[k]) 0) (.ow (eL lk) 1) c8' b' xs ∧ Lok (ys.take k) lk ∧ lk.length ≤ i)
      (by
        rintro i hi s ⟨lk, b', c8', rfl, h1, h2⟩
        obtain ⟨t, kd, b2, ht, hkd, e⟩ := graph_i (d := d) hk h0 hk2 (g := g) (c6 := .ow (.str ys[k]) 0) (c8 := .ow (.int (i : Int)) 0) (lk := lk) (by omega) (b := b') (xs := xs)
        exact ⟨_, _, rfl, e, _, _, _, rfl, h1.put ht hkd, Nat.le_trans putL_len (by omega)⟩)
      ⟨[], tkB b (d + 1), c8, rfl, ⟨List.nodup_nil, (fun t h => nomatch h), fun l h => nomatch h⟩, Nat.le_refl _⟩
    exact ⟨lk, b', c8', h1, by omega, by rw [e1, e2, sqK_nx]⟩
theorem graph_2 {d k : Nat} {ys : List Str} {g : Gr} (hg : g.length ≤ 100000) {c5 c8 : Ce} {x : Str} {lk : Lk} {b : Bx} {xs : List D} (hx : x ∉ keys g) :
    l__law_graph_1_2 (grS d ys (eG g) c5 (.ow (.str x) 0) (.ow (eL lk) 1) c8 b xs) = .ok .nx (grS d ys (eG (g ++ [(x, lk)])) c5 (.ow (.str x) 0) (.ow (eL lk) 0) c8 b xs) := by
  have hb : g.length < big := Nat.lt_of_le_of_lt hg (by decide)
  have := putL_new (v := lk) hx
  simp -implicitDefEqProofs [grS, l__law_graph_1_2, tre_def, loc_def, at_def, setD_g hb, this]
theorem graph_ok (b : Bx) (ns : List Str) (hn : ns.Nodup) (ha : ∀ n ∈ ns, asc n = true) (hl : ns.length ≤ 1000) (d : Nat) (hd : d ≤ 100) : ∃ (g : Gr) (b' : Bx), f__law_graph [(bx b, 1), (.lst (ns.map D.str), 1), (.int (d : Int), 0)] = .ok (eG g, 0) [(bx b', 1), (.lst (ns.map D.str), 1), (.int (d : Int), 0)] ∧ GrOk d g ∧ (keys g).Perm ns := by
  obtain ⟨ys', b1, es, hp⟩ := shuf_ok b (ns.map D.str) (gP_map fun n hm => gP_str (ha n hm)) (by simp; omega)
  obtain ⟨ys, rfl, hq⟩ := perm_map_inv hp rfl
  have hyl : ys.length ≤ 1000 := by rw [hq.length_eq]; exact hl
  have hyn : ys.Nodup := hq.nodup_iff.mpr hn
  have e0 : b__law_graph (st0 9 [(bx b, 1), (.lst (ns.map D.str), 1), (.int (d : Int), 0)]) = sqK b__law_graph_2 (forL (.tp [5, 6]) l__law_graph_1 (enumD (ys.map D.str)) (grS d ys (eG []) .un .un .un .un b1 (ns.map D.str))) := by
    simp -implicitDefEqProofs [st0, List.replicate, b__law_graph, b__law_graph_1, tre_def, loc_def, at_def, grS, es]
  obtain ⟨s', e1, g, b2, c5, c6, c7, c8, rfl, h1, h2⟩ := forL_enum (tg := .tp [5, 6]) (body := l__law_graph_1) (ys := ys) (c := D.str) (s := grS d ys (eG []) .un .un .un .un b1 (ns.map D.str))
    (I := fun k s => ∃ g b' c5 c6 c7 c8, s = grS d ys (eG g) c5 c6 c7 c8 b' (ns.map D.str) ∧ GrOk d g ∧ keys g = ys.take k)
    (by
      rintro k hk s ⟨g, b', c5, c6, c7, c8, rfl, h1, h2⟩
      obtain ⟨lk, b2, c8', g1, g2, e⟩ := graph_n (d := d) hk (by omega) hd (g := eG g) (c7 := c7) (c8 := c8) (b := b') (xs := ns.map D.str)
      have hx : ys[k] ∉ keys g := by
        rw [h2]
        intro hm
        obtain ⟨i, hi, e⟩ := List.mem_take_iff_getElem.mp hm
        have := (List.getElem_inj (h₀ := by omega) (h₁ := hk) hyn).mp e
        omega
      have hgl : g.length ≤ 100000 := by
        have := congrArg List.length h2
        rw [keys_len, List.length_take] at this
        omega
      refine ⟨_, _, rfl, e.trans (graph_2 (k := k) hgl hx), _, _, _, _, _, _, rfl, ⟨h1.tp.snoc hx fun t ht => ?_, fun p hp => ?_⟩, ?_⟩
      · rw [h2]; exact g1.2.1 t ht
      · rcases List.mem_append.mp hp with hp | hp
        · exact h1.lk p hp
        · rw [List.mem_singleton.mp hp]; exact ⟨g1.1, g2, g1.2.2⟩
      · rw [keys_app, h2, List.take_succ_eq_append_getElem hk]; rfl)
    ⟨[], b1, .un, .un, .un, .un, rfl, ⟨.nil, fun p hp => nomatch hp⟩, rfl⟩
  refine ⟨g, b2, fnOf_eq.trans (fnK_rw (e0.trans (congrArg _ e1)) ?_), h1, ?_⟩
  · simp -implicitDefEqProofs [b__law_graph_2, tre_def, loc_def, at_def, grS]
  · rw [h2, List.take_of_length_le (Nat.le_refl _)]
    exact hq
def rwS (g : Gr) (found : List D) (c3 c4 c5 : Ce) (b : Bx) : S := [.pa 6, .ow (eG g) 0, .ow (.lst found) 1, c3, c4, c5, .ow (bx b) 1, .ow (eG g) 0]
theorem rows_c {g : Gr} {n : Str} {lk : Lk} (hg : g.lookup n = some lk) (hn : (keys lk).Nodup) (hl : lk.length ≤ 1000) (found : List D) (c4 : Ce) (b : Bx) :
    lcL [5] (.nm 5) mYes e__law_rows_1 ((keys lk).map D.str) [] (rwS g found (.ow (.str n) 0) c4 .un b) = .ok (lk.map prD) (rwS g found (.ow (.str n) 0) c4 .un b) := by
  have hb : 1000 ≤ big := by decide
  have := lcL_mp (us := [5]) (tg := .nm 5) (t := mYes) (m := e__law_rows_1) (c := fun p : Str × Str => D.str p.1) prD (s := rwS g found (.ow (.str n) 0) c4 .un b) (xs := lk) (fun p hp => by
    have e : lk.lookup p.1 = some p.2 := (lookup_iff hn).mpr hp
    simp -implicitDefEqProofs [rwS, e__law_rows_1, lcStep_eq, tre_def, loc_def, at_def, hg, e]) (by omega)
  rw [← this]
  unfold keys
  rw [List.map_map]
  rfl
theorem rows_l {g : Gr} {n : Str} {lk : Lk} (hg : g.lookup n = some lk) (hn : (keys lk).Nodup) (hl : lk.length ≤ 1000) (ha : ∀ l ∈ lk, asc l.1 = true ∧ asc l.2 = true) (found : List D) (hf : found.length ≤ 100000) (c4 c5 : Ce) (b : Bx) :
    ∃ lk' b', lk'.Perm lk ∧ l__law_rows_1 (rwS g found (.ow (.str n) 0) c4 c5 b) = .ok .nx (rwS g (found ++ [eRow (n, lk')]) (.ow (.str n) 0) (.ow (.lst (lk.map prD)) 1) .un b') := by
  have hb : big = 16000000 := rfl
  have hfb : found.length < big := by omega
  obtain ⟨ys, b', es, hp⟩ := shuf_ok b (lk.map prD) (gP_map fun l hm => (gP_tup (k := 2) (gP_cons (gP_str (ha l hm).2) (gP_cons (gP_str (ha l hm).1) gP_nil))).mono (by decide)) (by simp; omega)
  obtain ⟨lk', rfl, hq⟩ := perm_map_inv hp rfl
  refine ⟨lk', b', hq, ?_⟩
  have hc := rows_c hg hn hl found c4 b
  unfold rwS at hc
  simp -implicitDefEqProofs [rwS, l__law_rows_1, l__law_rows_1_1, tre_def, loc_def, at_def, hg, hc, es, hfb, eRow]
theorem rows_ok (b : Bx) (g : Gr) (G : Gw g) (ha : ∀ n ∈ keys g, asc n = true) (hk : ∀ p ∈ g, ∀ l ∈ p.2, l.2 = "needs" ∨ l.2 = "part") : ∃ (g2 : Gr) (b' : Bx), f__law_rows [(bx b, 1), (eG g, 0)] = .ok (.lst (g2.map eRow), 0) [(bx b', 1), (eG g, 0)] ∧ Shuf g g2 := by
  have hsz := G.sz
  obtain ⟨ys', b1, es, hp⟩ := shuf_ok b ((keys g).map D.str) (gP_map fun n hm => gP_str (ha n hm)) (by simp; omega)
  obtain ⟨ys, rfl, hq⟩ := perm_map_inv hp rfl
  have hyl : ys.length ≤ 1000 := by rw [hq.length_eq, keys_len]; exact G.sz
  have e0 : b__law_rows (st0 6 [(bx b, 1), (eG g, 0)]) = sqK b__law_rows_2 (forL (.nm 3) l__law_rows_1 (ys.map D.str) (rwS g [] .un .un .un b1)) := by
    simp -implicitDefEqProofs [st0, List.replicate, b__law_rows, b__law_rows_1, tre_def, loc_def, at_def, rwS, es]
  obtain ⟨s', e1, g2, b2, c3, c4, c5, rfl, h1, h2⟩ := forL_inv (tg := .nm 3) (body := l__law_rows_1) (xs := ys) (c := D.str) (s := rwS g [] .un .un .un b1)
    (I := fun r s => ∃ g2 b' c3 c4 c5, s = rwS g (g2.map eRow) c3 c4 c5 b' ∧ keys g2 ++ r = ys ∧ ∀ p ∈ g2, p.2.Perm (lks g p.1))
    (by
      rintro n r s ⟨g2, b', c3, c4, c5, rfl, h1, h2⟩
      have hn : n ∈ keys g := hq.mem_iff.mp (by rw [← h1]; simp)
      have hm := G.at_key hn
      have hgl : g2.length ≤ 1000 := by
        have := congrArg List.length h1
        simp at this
        omega
      obtain ⟨lk', b2, hp2, e⟩ := rows_l (g := g) (n := n) (lk := lks g n) (G.look hm) (G.lks_nd n) (G.lks_len n) (fun l hl => ⟨ha _ (G.cl _ hm _ (List.mem_map.mpr ⟨l, hl, rfl⟩)), by rcases hk _ hm l hl with e | e <;> rw [e] <;> decide +kernel⟩) (g2.map eRow) (by simp; omega) c4 c5 b'
      refine ⟨_, _, rfl, e, g2 ++ [(n, lk')], b2, _, _, _, by rw [List.map_append]; rfl, by rw [keys_app, List.append_assoc]; exact h1, fun p hp => ?_⟩
      rcases List.mem_append.mp hp with hp | hp
      · exact h2 p hp
      · rw [List.mem_singleton.mp hp]; exact hp2)
    ⟨[], b1, _, _, _, rfl, rfl, fun p hp => nomatch hp⟩
  rw [List.append_nil] at h1
  refine ⟨g2, b2, fnOf_eq.trans (fnK_rw (e0.trans (congrArg _ e1)) ?_), ⟨h1 ▸ hq, h2⟩⟩
  simp -implicitDefEqProofs [b__law_rows_2, tre_def, loc_def, at_def, rwS]
theorem grof_i (R : D) (n : D) (lk : Lk) (hn : (keys lk).Nodup) (hl : lk.length ≤ 1000) : mDc [3, 4] (.tp [3, 4]) (mIts (mNm 2)) mYes e_graph_of_1 e_graph_of_2 [.ow R 0, .ow n 0, .ow (.tup (lk.map prD)) 0, .un, .un, .ow R 0] = .ok (eL lk, 1) [.ow R 0, .ow n 0, .ow (.tup (lk.map prD)) 0, .un, .un, .ow R 0] := by
  have hb : 1000 ≤ big := by decide
  have := dcL_mp (us := [3, 4]) (tg := .tp [3, 4]) (t := mYes) (mk := e_graph_of_1) (mv := e_graph_of_2) (c := prD) (f := D.str) (fun p : Str × Str => p) (s := [.ow R 0, .ow n 0, .ow (.tup (lk.map prD)) 0, .un, .un, .ow R 0]) (xs := lk) (acc := []) (fun p hp => by
    simp -implicitDefEqProofs [e_graph_of_1, e_graph_of_2, dcStep_eq, tre_def, loc_def, at_def, Tg.set, setsF]) (by simp; omega)
  rw [foldl_putL_new (fun p : Str × Str => p) (by simpa [keys] using hn)] at this
  simp only [List.map_nil, List.nil_append, List.map_id'] at this
  simp -implicitDefEqProofs [tre_def, loc_def, at_def, this]
  rfl
theorem grof_ok (R : D) (g : Gr) (hR : itsOf R = some (g.map eRow)) (hn : (keys g).Nodup) (hl : g.length ≤ 1000) (h : ∀ p ∈ g, (keys p.2).Nodup ∧ p.2.length ≤ 1000) : f_graph_of [(R, 0)] = .ok (eG g, 1) [(R, 0)] := by
  have hb : 1000 ≤ big := by decide
  have := dcL_mp (us := [1, 2]) (tg := .tp [1, 2]) (t := mYes) (mk := e_graph_of_3) (mv := e_graph_of_4) (c := eRow) (f := fun l => eD D.str l) (fun p : Str × Lk => p) (s := [.ow R 0, .un, .un, .un, .un, .ow R 0]) (xs := g) (acc := []) (fun p hp => by
    have := grof_i R (.str p.1) p.2 (h p hp).1 (h p hp).2
    simp -implicitDefEqProofs [-mDc_eq, e_graph_of_3, e_graph_of_4, dcStep_eq, tre_def, loc_def, at_def, Tg.set, setsF, eRow, this]) (by simp; omega)
  rw [foldl_putL_new (fun p : Str × Lk => p) (by simpa [keys] using hn)] at this
  simp only [List.map_nil, List.nil_append, List.map_id'] at this
  refine fnOf_eq.trans ?_
  simp -implicitDefEqProofs [st0, List.replicate, b_graph_of, tre_def, loc_def, at_def, hR, this]
  rfl
def reS (n : Nat) (g : Gr) (a : Str) (F W : List Str) (c4 : Ce) : S := [if n = 0 then .ow (eG g) 0 else .pa 5, .ow (.str a) 0, .ow (eB (tr F)) 1, .ow (.lst (W.map D.str)) 1, c4, .ow (eG g) n, .ow (.str a) 0]
theorem reached_w {n : Nat} {g : Gr} {a : Str} {F W : List Str} {c4 : Ce} : w_reached_1 (reS n g a F W c4) = .ok (decide (0 < W.length)) (reS n g a F W c4) := by
  simp -implicitDefEqProofs [reS, w_reached_1, tre_def, loc_def, at_def]
theorem reached_l {n : Nat} (hn : n = 0 ∨ n = 1) {g : Gr} (G : Gw g) {a h : Str} {F W : List Str} {c4 : Ce} {lk : Lk} (hF : F.length ≤ 1000) (hW : W.length ≤ 2000000) (hg : g.lookup h = some lk) (hl : lk.length ≤ 1000) :
    l_reached_1 (reS n g a F (W ++ [h]) c4) = .ok .nx (if h ∈ F then reS n g a F W (.ow (.str h) 0) else reS n g a (F ++ [h]) (W ++ keys lk) (.ow (.str h) 0)) := by
  have hb : big = 16000000 := rfl
  have hF' : F.length < big := by omega
  have hW' : W.length + lk.length ≤ big := by omega
  by_cases q : h ∈ F
  · rw [if_pos q]
    rcases hn with rfl | rfl <;> simp -implicitDefEqProofs [reS, l_reached_1, l_reached_1_1, tre_def, loc_def, at_def, q]
  · rw [if_neg q]
    have hp := tr_put q
    rcases hn with rfl | rfl <;> simp -implicitDefEqProofs [reS, l_reached_1, l_reached_1_1, tre_def, loc_def, at_def, q, setD_b (l := tr F) (a := h) (v := true) (by simpa using hF'), hp, hg, hW']
theorem reached_ok {n : Nat} (hn : n = 0 ∨ n = 1) {g : Gr} (G : Gw g) {a : Str} (ha : a ∈ keys g) : ∃ F, f_reached [(eG g, n), (.str a, 0)] = .ok (eB (tr F), 0) [(eG g, n), (.str a, 0)] ∧ F.Nodup ∧ F.length ≤ 1000 ∧ ∀ x, x ∈ F ↔ Reach g a x := by
  have hg := G.look (G.at_key ha)
  have e0 : b_reached (st0 5 [(eG g, n), (.str a, 0)]) = sqK b_reached_3 (mWhile w_reached_1 l_reached_1 (reS n g a [] (keys (lks g a)) .un)) := by
    rcases hn with rfl | rfl <;> simp -implicitDefEqProofs [st0, List.replicate, b_reached, b_reached_1, b_reached_2, tre_def, loc_def, at_def, reS, hg, tr]
  have hw := mWhile_run (t := w_reached_1) (body := l_reached_1) (s := reS n g a [] (keys (lks g a)) .un)
    (I := fun k s => ∃ F W c4, s = reS n g a F W c4 ∧ RInv g a F W k ∧ k ≤ 2000000)
    (P := fun r => ∃ F c4, r = .ok .nx (reS n g a F [] c4) ∧ ∃ k, RInv g a F [] k)
    (fun ⟨_, _, e, _⟩ => nomatch e)
    (by
      rintro k s ⟨F, W, c4, rfl, I, hk⟩
      rw [reached_w]
      rcases List.eq_nil_or_concat W with rfl | ⟨W', h, rfl⟩
      · exact ⟨F, c4, rfl, k, I⟩
      · have hpos : decide (0 < (W'.concat h).length) = true := by simp
        rw [hpos]
        rw [List.concat_eq_append] at I ⊢
        have hW : W'.length ≤ 2000000 := by
          have := I.hk
          simp at this
          omega
        have hm := G.at_key (I.key G)
        show (match l_reached_1 (reS n g a F (W' ++ [h]) c4) with | .ok .nx s2 => _ | .ok .ct s2 => _ | .ok .bk s2 => _ | .ok (.rt t) s2 => _ | .ex x s2 => _ | .no => False)
        rw [reached_l hn G (I.flen G) hW (G.look hm) (G.lks_len h)]
        by_cases q : h ∈ F
        · rw [if_pos q]
          obtain ⟨j, hj, I2⟩ := I.old G q
          exact ⟨j, hj, F, W', _, rfl, I2, by omega⟩
        · rw [if_neg q]
          obtain ⟨j, hj, I2⟩ := I.new G q
          exact ⟨j, hj, _, _, _, rfl, I2, by omega⟩)
    ⟨[], _, .un, rfl, RInv.start G, start_le G⟩
  obtain ⟨F, c4, e, k, I⟩ := hw
  refine ⟨F, fnOf_eq.trans (fnK_rw (e0.trans (congrArg _ e)) ?_), I.nd, I.flen G, fun x => I.fin G x⟩
  rcases hn with rfl | rfl <;> simp -implicitDefEqProofs [b_reached_3, tre_def, loc_def, at_def, reS]
theorem there_ok {n : Nat} (hn : n = 0 ∨ n = 1) {g : Gr} {a : Str} (ha : a ∈ keys g) : f_check_there [(eG g, n), (.str a, 0)] = .ok (.non, 0) [(eG g, n), (.str a, 0)] := by
  rcases hn with rfl | rfl <;> simp -implicitDefEqProofs [f_check_there, b_check_there, fnOf_eq, st0, tre_def, loc_def, at_def, List.replicate, ha]
theorem there_no {n : Nat} (hn : n = 0 ∨ n = 1) {g : Gr} {a : Str} (ha : a ∉ keys g) (hl : a.length ≤ 1000) : f_check_there [(eG g, n), (.str a, 0)] = .ex ⟨"Missing", [("name", .str a)]⟩ [(eG g, n), (.str a, 0)] := by
  rcases hn with rfl | rfl <;> simp -implicitDefEqProofs [f_check_there, b_check_there, fnOf_eq, st0, tre_def, loc_def, at_def, List.replicate, ha, hl]
def lkS (R : D) (c1 c2 c3 c4 c5 c6 : Ce) : S := [.ow R 0, c1, c2, c3, c4, c5, c6, .ow R 0]
theorem look_1 {R : D} {F : List Str} {c5 c6 : Ce} {p : Str × Lk} (h : nmOk p.1 = true) (hF : p.1 ∉ F) (hl : F.length ≤ 1000) :
    l_look_rows_1 (lkS R (.ow (eB (tr F)) 1) .un (.ow (.str p.1) 0) (.ow (.tup (p.2.map prD)) 0) c5 c6) = .ok .nx (lkS R (.ow (eB (tr (F ++ [p.1]))) 1) .un (.ow (.str p.1) 0) (.ow (.tup (p.2.map prD)) 0) c5 c6) := by
  have hb : big = 16000000 := rfl
  have hn := name_ok p.1 (Nat.le_trans (nmOk_len h) (by decide))
  rw [h] at hn
  simp -implicitDefEqProofs [lkS, l_look_rows_1, l_look_rows_1_1, l_look_rows_1_2, tre_def, loc_def, at_def, hn, hF, setD_b (l := tr F) (a := p.1) (v := true) (by rw [tr_len]; omega), tr_put hF]
theorem look_2 {R : D} {F : List Str} {c3 c5 c6 : Ce} {lk : Lk} (h : ∀ t ∈ keys lk, t ∈ F) :
    ∃ c5' c6', l_look_rows_2 (lkS R (.ow (eB (tr F)) 1) .un c3 (.ow (.tup (lk.map prD)) 0) c5 c6) = .ok .nx (lkS R (.ow (eB (tr F)) 1) .un c3 (.ow (.tup (lk.map prD)) 0) c5' c6') := by
  obtain ⟨s', e, c5', c6', rfl, _⟩ := forL_inv (tg := .tp [5, 6]) (body := l_look_rows_3) (xs := lk) (c := prD) (s := lkS R (.ow (eB (tr F)) 1) .un c3 (.ow (.tup (lk.map prD)) 0) c5 c6)
    (I := fun r s => ∃ c5' c6', s = lkS R (.ow (eB (tr F)) 1) .un c3 (.ow (.tup (lk.map prD)) 0) c5' c6' ∧ ∀ l ∈ r, l.1 ∈ F)
    (by
      rintro l r s ⟨c5', c6', rfl, hr⟩
      refine ⟨_, _, rfl, ?_, .ow (.str l.2) 0, .ow (.str l.1) 0, rfl, fun x hx => hr x (List.mem_cons_of_mem _ hx)⟩
      simp -implicitDefEqProofs [lkS, l_look_rows_3, tre_def, loc_def, at_def, hr l List.mem_cons_self])
    ⟨c5, c6, rfl, fun l hl => h _ (List.mem_map.mpr ⟨l, hl, rfl⟩)⟩
  refine ⟨c5', c6', ?_⟩
  unfold lkS at e
  simp -implicitDefEqProofs [lkS, l_look_rows_2, tre_def, loc_def, at_def, e]
theorem look_4 {R : D} {g : Gr} (G : Gw g) (ac : ∀ n, ¬ Reach g n n) {c1 c5 c6 : Ce} {a : Str} {q : D} (ha : a ∈ keys g) :
    l_look_rows_4 (lkS R c1 (.ow (eG g) 1) (.ow (.str a) 0) (.ow q 0) c5 c6) = .ok .nx (lkS R c1 (.ow (eG g) 1) (.ow (.str a) 0) (.ow q 0) c5 c6) := by
  obtain ⟨F, e, _, _, hF⟩ := reached_ok (.inr rfl) G ha
  have hn : a ∉ F := fun m => ac a ((hF a).mp m)
  simp -implicitDefEqProofs [lkS, l_look_rows_4, tre_def, loc_def, at_def, e, hn]
theorem look_ok (R : D) (g : Gr) (hR : itsOf R = some (g.map eRow)) (G : Gw g) (hn : ∀ n ∈ keys g, nmOk n = true) (ac : ∀ n, ¬ Reach g n n) : f_look_rows [(R, 0)] = .ok (.non, 0) [(R, 0)] := by
  have hgr := grof_ok R g hR G.nd G.sz fun p hp => ⟨G.ln p hp, G.sl p hp⟩
  have e0 : b_look_rows (st0 7 [(R, 0)]) = sqK b_look_rows_2 (forL (.tp [3, 4]) l_look_rows_1 (g.map eRow) (lkS R (.ow (eB (tr [])) 1) .un .un .un .un .un)) := by
    simp -implicitDefEqProofs [st0, List.replicate, b_look_rows, b_look_rows_1, tre_def, loc_def, at_def, lkS, hR, tr]
  obtain ⟨s1, e1, F, c3, c4, rfl, hF⟩ := forL_inv (tg := .tp [3, 4]) (body := l_look_rows_1) (xs := g) (c := eRow) (s := lkS R (.ow (eB (tr [])) 1) .un .un .un .un .un)
    (I := fun r s => ∃ F c3 c4, s = lkS R (.ow (eB (tr F)) 1) .un c3 c4 .un .un ∧ F ++ keys r = keys g)
    (by
      rintro p r s ⟨F, c3, c4, rfl, hF⟩
      have hnd := G.nd
      rw [← hF] at hnd
      have hq : p.1 ∉ F := fun m => (List.nodup_append.mp hnd).2.2 _ m _ List.mem_cons_self rfl
      have hl : F.length ≤ 1000 := by
        have h1 := congrArg List.length hF
        have h2 := G.sz
        rw [List.length_append, keys_len, keys_len] at h1
        omega
      exact ⟨_, _, rfl, look_1 (hn _ (by rw [← hF]; simp)) hq hl, _, _, _, rfl, by rw [← hF]; simp⟩)
    ⟨[], .un, .un, rfl, rfl⟩
  rw [keys_nil, List.append_nil] at hF
  subst hF
  have e2 : b_look_rows_2 (lkS R (.ow (eB (tr (keys g))) 1) .un c3 c4 .un .un) = sqK b_look_rows_3 (forL (.tp [3, 4]) l_look_rows_2 (g.map eRow) (lkS R (.ow (eB (tr (keys g))) 1) .un c3 c4 .un .un)) := by
    simp -implicitDefEqProofs [b_look_rows_2, tre_def, loc_def, at_def, lkS, hR]
  obtain ⟨s2, e3, c3, c4, c5, c6, rfl, _⟩ := forL_inv (tg := .tp [3, 4]) (body := l_look_rows_2) (xs := g) (c := eRow) (s := lkS R (.ow (eB (tr (keys g))) 1) .un c3 c4 .un .un)
    (I := fun r s => ∃ c3 c4 c5 c6, s = lkS R (.ow (eB (tr (keys g))) 1) .un c3 c4 c5 c6 ∧ ∀ p ∈ r, p ∈ g)
    (by
      rintro p r s ⟨c3, c4, c5, c6, rfl, hr⟩
      obtain ⟨c5', c6', e⟩ := look_2 (R := R) (F := keys g) (c3 := .ow (.str p.1) 0) (c5 := c5) (c6 := c6) (lk := p.2) (G.cl p (hr p List.mem_cons_self))
      exact ⟨_, _, rfl, e, _, _, _, _, rfl, fun x hx => hr x (List.mem_cons_of_mem _ hx)⟩)
    ⟨_, _, _, _, rfl, fun p hp => hp⟩
  have e4 : b_look_rows_3 (lkS R (.ow (eB (tr (keys g))) 1) .un c3 c4 c5 c6) = forL (.tp [3, 4]) l_look_rows_4 (g.map eRow) (lkS R (.ow (eB (tr (keys g))) 1) (.ow (eG g) 1) c3 c4 c5 c6) := by
    simp -implicitDefEqProofs [b_look_rows_3, b_look_rows_4, tre_def, loc_def, at_def, lkS, hR, hgr]
  obtain ⟨s3, e5, c3, c4, rfl, _⟩ := forL_inv (tg := .tp [3, 4]) (body := l_look_rows_4) (xs := g) (c := eRow) (s := lkS R (.ow (eB (tr (keys g))) 1) (.ow (eG g) 1) c3 c4 c5 c6)
    (I := fun r s => ∃ c3 c4, s = lkS R (.ow (eB (tr (keys g))) 1) (.ow (eG g) 1) c3 c4 c5 c6 ∧ ∀ p ∈ r, p ∈ g)
    (by
      rintro p r s ⟨c3, c4, rfl, hr⟩
      exact ⟨_, _, rfl, look_4 G ac (List.mem_map.mpr ⟨p, hr p List.mem_cons_self, rfl⟩), _, _, rfl, fun x hx => hr x (List.mem_cons_of_mem _ hx)⟩)
    ⟨_, _, rfl, fun p hp => hp⟩
  refine fnOf_eq.trans (fnK_rw (e0.trans ((congrArg _ e1).trans (e2.trans ((congrArg _ e3).trans (e4.trans e5))))) ?_)
  simp -implicitDefEqProofs [lkS]
abbrev eC (g : Gr) : D := .obj "Catalog" [("graph", eG g)]
theorem init_ok (R : D) (g : Gr) (hR : itsOf R = some (g.map eRow)) (G : Gw g) (hn : ∀ n ∈ keys g, nmOk n = true) (ac : ∀ n, ¬ Reach g n n) : f_Catalog_init [(.obj "Catalog" [], 1), (R, 0)] = .ok (.non, 0) [(eC g, 1), (R, 0)] := by
  have hgr := grof_ok R g hR G.nd G.sz fun p hp => ⟨G.ln p hp, G.sl p hp⟩
  simp -implicitDefEqProofs [f_Catalog_init, b_Catalog_init, b_Catalog_init_1, fnOf_eq, st0, tre_def, loc_def, at_def, List.replicate, look_ok R g hR G hn ac, hgr, cs_graph]
def lksD (g : Gr) (n : Str) : D := .tup ((sortS (keys (lks g n))).map fun t => .tup [.str ((knd g n t).getD ""), .str t])
theorem linksin_c {lk : Lk} (hn : (keys lk).Nodup) (hl : lk.length ≤ 1000) (c0 c1 c4 c5 : Ce) : lcL [3] (.nm 3) mYes e_links_in_1 ((sortS (keys lk)).map D.str) [] [c0, c1, .ow (eL lk) 0, .un, c4, c5] = .ok ((sortS (keys lk)).map fun t => .tup [.str ((lk.lookup t).getD ""), .str t]) [c0, c1, .ow (eL lk) 0, .un, c4, c5] := by
  have hb : 1000 ≤ big := by decide
  refine lcL_mp (c := D.str) _ (fun t ht => ?_) (by rw [sortS_len, keys_len]; omega)
  obtain ⟨k, e⟩ := lookup_key (mem_sortS.mp ht)
  simp -implicitDefEqProofs [lcStep_eq, e_links_in_1, tre_def, loc_def, at_def, e]
theorem linksin_ok {g : Gr} (G : Gw g) {n : Str} (hn : n ∈ keys g) : f_links_in [(eG g, 0), (.str n, 0)] = .ok (lksD g n, 0) [(eG g, 0), (.str n, 0)] := by
  have hm := G.at_key hn
  have hg := G.look hm
  simp only at hg
  have hc := linksin_c (G.lks_nd n) (G.lks_len n) (.ow (eG g) 0) (.ow (.str n) 0) (.ow (eG g) 0) (.ow (.str n) 0)
  have hb : 1000 ≤ big := by decide
  have hs := fun (m : Nat) (hm : m ≤ 1) => fSorted_e (f := D.str) (l := lks g n) (n := m) hm (Nat.le_trans (G.lks_len n) hb)
  have e : lksD g n = .tup ((sortS (keys (lks g n))).map fun t => .tup [.str (((lks g n).lookup t).getD ""), .str t]) := rfl
  rw [e]
  generalize ((sortS (keys (lks g n))).map fun t => D.tup [.str (((lks g n).lookup t).getD ""), .str t]) = ds at hc
  refine fnOf_eq.trans ?_
  simp -implicitDefEqProofs [st0, List.replicate, b_links_in, b_links_in_1, tre_def, loc_def, at_def, hg, hs, hc]
theorem rowsof_ok {g : Gr} (G : Gw g) : f_rows_of [(eG g, 0)] = .ok (rowsD g, 0) [(eG g, 0)] := by
  have hb : 1000 ≤ big := by decide
  have hs := fun (m : Nat) (hm : m ≤ 1) => fSorted_e (f := fun l => eD D.str l) (l := g) (n := m) hm (Nat.le_trans G.sz hb)
  have hc := lcL_mp (us := [1]) (tg := .nm 1) (t := mYes) (m := e_rows_of_1) (c := D.str) (rowD g) (s := [.ow (eG g) 0, .un, .ow (eG g) 0]) (xs := sortS (keys g)) (fun n hn => by
    simp -implicitDefEqProofs [lcStep_eq, e_rows_of_1, tre_def, loc_def, at_def, linksin_ok G (mem_sortS.mp hn), rowD, lksD]) (by rw [sortS_len, keys_len]; exact Nat.le_trans G.sz hb)
  unfold rowsD
  generalize (sortS (keys g)).map (rowD g) = ds at hc
  refine fnOf_eq.trans ?_
  simp -implicitDefEqProofs [st0, List.replicate, b_rows_of, tre_def, loc_def, at_def, hs, hc]
theorem catrows_ok {g : Gr} (G : Gw g) {n : Nat} (hn : n = 0 ∨ n = 1) : f_Catalog_rows [(eC g, n)] = .ok (rowsD g, 0) [(eC g, n)] := by
  rcases hn with rfl | rfl <;> simp -implicitDefEqProofs [f_Catalog_rows, b_Catalog_rows, fnOf_eq, st0, tre_def, loc_def, at_def, List.replicate, rowsof_ok G, cs_graph]
def ltS (g : Gr) (found : List D) (c2 c3 : Ce) : S := [.ow (eG g) 0, .ow (.lst found) 1, c2, c3, .un, .ow (eG g) 0]
theorem told_l {g : Gr} (G : Gw g) {n : Str} (hn : n ∈ keys g) {found : List D} (hf : found.length ≤ 100000) {c3 : Ce} : l__law_told_1 (ltS g found (.ow (.str n) 0) c3) = .ok .nx (ltS g (found ++ [rowD g n]) (.ow (.str n) 0) (.ow (eL (lks g n)) 0)) := by
  have hb : big = 16000000 := rfl
  have hf' : found.length < big := by omega
  have hm := G.at_key hn
  have hg := G.look hm
  simp only at hg
  have hl := G.lks_len n
  have hs := fun (m : Nat) (hm : m ≤ 1) => fSorted_s (ss := keys (lks g n)) (n := m) hm (by rw [keys_len]; omega)
  have hc := lcL_mp (us := [4]) (tg := .nm 4) (t := mYes) (m := e__law_told_1) (c := D.str) (fun t => .tup [.str ((knd g n t).getD ""), .str t]) (s := ltS g found (.ow (.str n) 0) (.ow (eL (lks g n)) 0)) (xs := sortS (keys (lks g n))) (fun t ht => by
    obtain ⟨k, e⟩ := lookup_key (mem_sortS.mp ht)
    have e2 : knd g n t = some k := e
    simp -implicitDefEqProofs [ltS, lcStep_eq, e__law_told_1, tre_def, loc_def, at_def, e, e2]) (by rw [sortS_len, keys_len]; omega)
  unfold rowD
  generalize (sortS (keys (lks g n))).map (fun t => D.tup [.str ((knd g n t).getD ""), .str t]) = ds at hc
  unfold ltS at hc
  simp -implicitDefEqProofs [ltS, l__law_told_1, l__law_told_1_1, tre_def, loc_def, at_def, hg, hs, hc, hf']
theorem told_ok {g : Gr} (G : Gw g) : f__law_told [(eG g, 0)] = .ok (rowsD g, 0) [(eG g, 0)] := by
  have hb : big = 16000000 := rfl
  have hsz := G.sz
  have hs := fun (m : Nat) (hm : m ≤ 1) => fSorted_s (ss := keys g) (n := m) hm (by rw [keys_len]; omega)
  have e0 : b__law_told (st0 5 [(eG g, 0)]) = sqK b__law_told_2 (forL (.nm 2) l__law_told_1 ((sortS (keys g)).map D.str) (ltS g [] .un .un)) := by
    simp -implicitDefEqProofs [st0, List.replicate, b__law_told, b__law_told_1, tre_def, loc_def, at_def, ltS, hs]
  obtain ⟨s', e1, F, c2, c3, rfl, h1, h2⟩ := forL_inv (tg := .nm 2) (body := l__law_told_1) (xs := sortS (keys g)) (c := D.str) (s := ltS g [] .un .un)
    (I := fun r s => ∃ F c2 c3, s = ltS g F c2 c3 ∧ F ++ r.map (rowD g) = (sortS (keys g)).map (rowD g) ∧ ∀ x ∈ r, x ∈ keys g)
    (by
      rintro n r s ⟨F, c2, c3, rfl, h1, h2⟩
      have hl : F.length ≤ 100000 := by
        have := congrArg List.length h1
        simp [sortS_len] at this
        omega
      exact ⟨_, _, rfl, told_l G (h2 n List.mem_cons_self) hl, _, _, _, rfl, by rw [← h1]; simp, fun x hx => h2 x (List.mem_cons_of_mem _ hx)⟩)
    ⟨[], .un, .un, rfl, rfl, fun x hx => mem_sortS.mp hx⟩
  rw [List.map_nil, List.append_nil] at h1
  subst h1
  refine fnOf_eq.trans (fnK_rw (e0.trans (congrArg _ e1)) ?_)
  simp -implicitDefEqProofs [b__law_told_2, tre_def, loc_def, at_def, ltS, rowsD]
/-! the known objects at the ends of paths -/
def keS (g : Gr) (a : Str) (ns ks : List Str) (K : KS) (c7 c8 c9 : Ce) : S := [.ow (eG g) 0, .ow (.str a) 0, .ow (.tup (ns.map D.str)) 0, .ow (.tup (ks.map D.str)) 0, .ow (eB (tr K.F)) 1, .ow (eB (tr K.M)) 1, .ow (.lst (K.W.map D.str)) 1, c7, c8, c9, .ow (eG g) 0, .ow (.str a) 0, .ow (.tup (ns.map D.str)) 0, .ow (.tup (ks.map D.str)) 0]
theorem ke_w {g : Gr} {a : Str} {ns ks : List Str} {K : KS} {c7 c8 c9 : Ce} : w_known_ends_1 (keS g a ns ks K c7 c8 c9) = .ok (decide (0 < K.W.length)) (keS g a ns ks K c7 c8 c9) := by
  simp -implicitDefEqProofs [keS, w_known_ends_1, tre_def, loc_def, at_def]
theorem ke_i {g : Gr} {a : Str} {ns ks : List Str} {F M W : List Str} {c7 : Ce} {t k : Str} (hF : F.length ≤ 1000) (hM : M.length ≤ 1000) (hW : W.length ≤ 10000) :
    l_known_ends_2 (keS g a ns ks ⟨F, M, W⟩ c7 (.ow (.str t) 0) (.ow (.str k) 0)) = .ok .nx (keS g a ns ks (stepK ns ks ⟨F, M, W⟩ (t, k)) c7 (.ow (.str t) 0) (.ow (.str k) 0)) := by
  have hb : big = 16000000 := rfl
  have h1 := setD_b (l := tr F) (a := t) (v := true) (by rw [tr_len]; omega)
  have h2 := setD_b (l := tr M) (a := t) (v := true) (by rw [tr_len]; omega)
  have hw : W.length < big := by omega
  unfold Z.stepK
  by_cases q : k ∈ ks
  · by_cases q2 : t ∈ ns
    · simp -implicitDefEqProofs [keS, l_known_ends_2, tre_def, loc_def, at_def, q, q2, h1, tr_ins]
    · by_cases q3 : t ∈ M
      · simp -implicitDefEqProofs [keS, l_known_ends_2, tre_def, loc_def, at_def, q, q2, q3]
      · simp -implicitDefEqProofs [keS, l_known_ends_2, tre_def, loc_def, at_def, q, q2, q3, h2, tr_put q3, hw]
  · simp -implicitDefEqProofs [keS, l_known_ends_2, tre_def, loc_def, at_def, q]
theorem ke_l {g : Gr} (G : Gw g) {a h : Str} (ha : a ∈ keys g) {ns ks : List Str} {F M W : List Str} {k : Nat} (hk : k ≤ 1001) (I : KI g ns ks a none ⟨F, M, W ++ [h]⟩ (k + 1)) (c7 c8 c9 : Ce) :
    ∃ K c8' c9', l_known_ends_1 (keS g a ns ks ⟨F, M, W ++ [h]⟩ c7 c8 c9) = .ok .nx (keS g a ns ks K (.ow (.str h) 0) c8' c9') ∧ KI g ns ks a none K k := by
  obtain ⟨hm, hh⟩ := I.here G ha
  have hz := G.sz
  have hg := G.look (G.at_key hh)
  have I1 := I.pop G
  have e0 : l_known_ends_1 (keS g a ns ks ⟨F, M, W ++ [h]⟩ c7 c8 c9) = forL (.tp [8, 9]) l_known_ends_2 ((lks g h).map fun p => .tup [.str p.1, .str p.2]) (keS g a ns ks ⟨F, M, W⟩ (.ow (.str h) 0) c8 c9) := by
    simp -implicitDefEqProofs [keS, l_known_ends_1, l_known_ends_1_1, tre_def, loc_def, at_def, hg]
  obtain ⟨s', e, K, c8', c9', rfl, I2, _⟩ := forL_inv (tg := .tp [8, 9]) (body := l_known_ends_2) (xs := lks g h) (c := fun p => .tup [.str p.1, .str p.2]) (s := keS g a ns ks ⟨F, M, W⟩ (.ow (.str h) 0) c8 c9)
    (I := fun r s => ∃ K c8' c9', s = keS g a ns ks K (.ow (.str h) 0) c8' c9' ∧ KI g ns ks a (some (h, r)) K k ∧ (keys r).Nodup ∧ ∀ p ∈ r, knd g h p.1 = some p.2)
    (by
      rintro p r s ⟨K, c8', c9', rfl, I, nd, hl⟩
      have h1 := I.flen G
      have h2 := I.mlen G ha
      have h3 := I.hk
      obtain ⟨n1, n2⟩ := List.nodup_cons.mp (by simpa using nd)
      obtain ⟨F', M', W'⟩ := K
      simp only at h1 h2 h3
      exact ⟨_, _, rfl, ke_i (by omega) (by omega) (by omega), _, _, _, rfl, I.step G hm (hl p List.mem_cons_self) n1, n2, fun q hq => hl q (List.mem_cons_of_mem _ hq)⟩)
    ⟨_, _, _, rfl, I1, G.lks_nd h, fun p hp => (lookup_iff (G.lks_nd h)).mpr hp⟩
  exact ⟨K, c8', c9', e0.trans e, I2.shut G (o := none)⟩
theorem ke_ok {g : Gr} (G : Gw g) {a : Str} (ha : a ∈ keys g) (ns ks : List Str) : ∃ F, f_known_ends [(eG g, 0), (.str a, 0), (.tup (ns.map D.str), 0), (.tup (ks.map D.str), 0)] = .ok (eB (tr F), 0) [(eG g, 0), (.str a, 0), (.tup (ns.map D.str), 0), (.tup (ks.map D.str), 0)] ∧ F.Nodup ∧ F.length ≤ 1000 ∧ ∀ t, t ∈ F ↔ End g ns ks a t := by
  have hz := G.sz
  have e0 : b_known_ends (st0 10 [(eG g, 0), (.str a, 0), (.tup (ns.map D.str), 0), (.tup (ks.map D.str), 0)]) = sqK b_known_ends_4 (mWhile w_known_ends_1 l_known_ends_1 (keS g a ns ks ⟨[], [], [a]⟩ .un .un .un)) := by
    simp -implicitDefEqProofs [st0, List.replicate, b_known_ends, b_known_ends_1, b_known_ends_2, b_known_ends_3, tre_def, loc_def, at_def, keS, tr]
  obtain ⟨K, c7, c8, c9, e, hW, k, I⟩ := mWhile_run (t := w_known_ends_1) (body := l_known_ends_1) (s := keS g a ns ks ⟨[], [], [a]⟩ .un .un .un)
    (I := fun k s => ∃ K c7 c8 c9, s = keS g a ns ks K c7 c8 c9 ∧ KI g ns ks a none K k ∧ k ≤ 1001)
    (P := fun r => ∃ K c7 c8 c9, r = .ok .nx (keS g a ns ks K c7 c8 c9) ∧ K.W = [] ∧ ∃ k, KI g ns ks a none K k)
    (fun ⟨_, _, _, _, e, _⟩ => nomatch e)
    (by
      rintro k s ⟨⟨F, M, W⟩, c7, c8, c9, rfl, I, hk⟩
      rw [ke_w]
      rcases List.eq_nil_or_concat W with rfl | ⟨W', h, rfl⟩
      · exact ⟨⟨F, M, []⟩, c7, c8, c9, rfl, rfl, k, I⟩
      · have hpos : decide (0 < (W'.concat h).length) = true := by simp
        show (match (R.ok (decide (0 < (W'.concat h).length)) (keS g a ns ks ⟨F, M, W'.concat h⟩ c7 c8 c9) : R Bool) with | .ok false s1 => _ | .ok true s1 => _ | .ex x s1 => _ | .no => False)
        rw [hpos]
        rw [List.concat_eq_append] at I ⊢
        have h1 := I.mlen G ha
        have h2 := I.hk
        simp at h1 h2
        obtain ⟨j, rfl⟩ : ∃ j, k = j + 1 := ⟨k - 1, by omega⟩
        obtain ⟨K, c8', c9', e, I2⟩ := ke_l G ha (by omega) I c7 c8 c9
        show (match l_known_ends_1 (keS g a ns ks ⟨F, M, W' ++ [h]⟩ c7 c8 c9) with | .ok .nx s2 => _ | .ok .ct s2 => _ | .ok .bk s2 => _ | .ok (.rt t) s2 => _ | .ex x s2 => _ | .no => False)
        rw [e]
        exact ⟨j, by omega, K, _, _, _, rfl, I2, by omega⟩)
    ⟨⟨[], [], [a]⟩, .un, .un, .un, rfl, KI.start G, by omega⟩
  obtain ⟨F, M, W⟩ := K
  cases hW
  have hf := I.flen G
  refine ⟨F, fnOf_eq.trans (fnK_rw (e0.trans (congrArg _ e)) ?_), I.fn, by simp at hf; omega, fun t => I.fin G t⟩
  simp -implicitDefEqProofs [b_known_ends_4, tre_def, loc_def, at_def, keS]
/-! leads -/
def leS (g : Gr) (m : Nat) (a : Str) (ns ps : List Str) (acc : List D) (c5 : Ce) : S := [if m = 0 then .ow (eC g) 0 else .pa 6, .ow (.str a) 0, .ow (.tup (ns.map D.str)) 0, .ow (eB (tr ps)) 0, .ow (.lst acc) 1, c5, .ow (eC g) m, .ow (.str a) 0, .ow (.tup (ns.map D.str)) 0]
theorem leads_no {g : Gr} {m : Nat} (hm : m = 0 ∨ m = 1) {a : Str} {R : D} (ha : a ∉ keys g) (hl : a.length ≤ 1000) : f_leads [(eC g, m), (.str a, 0), (R, 0)] = .ex ⟨"Missing", [("name", .str a)]⟩ [(eC g, m), (.str a, 0), (R, 0)] := by
  rcases hm with rfl | rfl <;> simp -implicitDefEqProofs [f_leads, b_leads, l_leads_1, b_leads_4, b_leads_3, b_leads_2, b_leads_1, fnOf_eq, st0, tre_def, loc_def, at_def, List.replicate, there_no (.inl rfl) ha hl, cs_graph]
theorem leads_l {g : Gr} {m : Nat} {a : Str} {ns ps : List Str} {acc : List D} {t : Str} (hl : acc.length ≤ 1000) :
    l_leads_1 (leS g m a ns ps acc (.ow (.str t) 0)) = .ok .nx (leS g m a ns ps (acc ++ [.tup [.str (if t ∈ ps then "part" else "needs"), .str t]]) (.ow (.str t) 0)) := by
  have hb : big = 16000000 := rfl
  have h1 : acc.length < big := by omega
  by_cases q : t ∈ ps <;> simp -implicitDefEqProofs [leS, l_leads_1, tre_def, loc_def, at_def, q, h1]
theorem leads_ok {g : Gr} (G : Gw g) {m : Nat} (hm : m = 0 ∨ m = 1) {a : Str} (ha : a ∈ keys g) (ns : List Str) : ∃ d, f_leads [(eC g, m), (.str a, 0), (.tup (ns.map D.str), 0)] = .ok (d, 0) [(eC g, m), (.str a, 0), (.tup (ns.map D.str), 0)] ∧ Ld g ns a d := by
  have hb : big = 16000000 := rfl
  obtain ⟨ps, e1, n1, l1, h1⟩ := ke_ok G ha ns PK
  obtain ⟨F, e2, n2, l2, h2⟩ := ke_ok G ha ns AK
  have e1' : f_known_ends [(eG g, 0), (.str a, 0), (.tup (ns.map D.str), 0), (.tup [.str "part"], 0)] = .ok (eB (tr ps), 0) [(eG g, 0), (.str a, 0), (.tup (ns.map D.str), 0), (.tup [.str "part"], 0)] := e1
  have e2' : f_known_ends [(eG g, 0), (.str a, 0), (.tup (ns.map D.str), 0), (.tup [.str "part", .str "needs"], 0)] = .ok (eB (tr F), 0) [(eG g, 0), (.str a, 0), (.tup (ns.map D.str), 0), (.tup [.str "part", .str "needs"], 0)] := e2
  have hs := fun (n : Nat) (hn : n ≤ 1) => fSorted_e (f := D.bl) (l := tr F) (n := n) hn (by rw [tr_len]; omega)
  rw [keys_tr] at hs
  have e0 : b_leads (st0 6 [(eC g, m), (.str a, 0), (.tup (ns.map D.str), 0)]) = sqK b_leads_4 (forL (.nm 5) l_leads_1 ((sortS F).map D.str) (leS g m a ns ps [] .un)) := by
    rcases hm with rfl | rfl <;> simp -implicitDefEqProofs [st0, List.replicate, b_leads, b_leads_1, b_leads_2, b_leads_3, tre_def, loc_def, at_def, leS, there_ok (.inl rfl) ha, cs_graph, e1', e2', hs]
  obtain ⟨s', e, c5, r, rfl, hr⟩ := forL_inv (tg := .nm 5) (body := l_leads_1) (xs := sortS F) (c := D.str) (s := leS g m a ns ps [] .un)
    (I := fun r s => ∃ c5 ts, s = leS g m a ns ps (ts.map fun t => .tup [.str (if t ∈ ps then "part" else "needs"), .str t]) c5 ∧ ts ++ r = sortS F)
    (by
      rintro t r s ⟨c5, ts, rfl, hr⟩
      have hl : ts.length ≤ 1000 := by
        have := congrArg List.length hr
        rw [sortS_len, List.length_append] at this
        omega
      refine ⟨_, _, rfl, leads_l (by rw [List.length_map]; exact hl), .ow (.str t) 0, ts ++ [t], ?_, by simpa using hr⟩
      rw [List.map_append]
      rfl)
    ⟨_, [], rfl, rfl⟩
  rw [List.append_nil] at hr
  subst hr
  refine ⟨_, fnOf_eq.trans (fnK_rw (e0.trans (congrArg _ e)) ?_), sortS F, ps, ⟨F, rfl, n2, h2⟩, h1, rfl⟩
  generalize (sortS F).map (fun t => D.tup [.str (if t ∈ ps then "part" else "needs"), .str t]) = ds
  rcases hm with rfl | rfl <;> simp -implicitDefEqProofs [leS, b_leads_4, tre_def, loc_def, at_def]
/-! how a law over q names begins -/
structure Nmq (q : Nat) (nm : List Str) : Prop where
  len : nm.length = q
  nd : nm.Nodup
  ok : ∀ n ∈ nm, nmOk n = true
theorem Nmq.asc {q : Nat} {nm : List Str} (h : Nmq q nm) : ∀ n ∈ nm, asc n = true := fun n hn => nmOk_asc (h.ok n hn)
theorem Nmq.sh {q : Nat} {nm : List Str} (h : Nmq q nm) : ∀ n ∈ nm, n.length ≤ 1000 := fun n hn => Nat.le_trans (nmOk_len (h.ok n hn)) (by decide)
theorem startn1 (q : Nat) (hq : q ≤ 26) (ns : List Int) (k : Nat) : ∃ b0 nm b1, f__law_box [(.rol (ns.map D.int), 0), (.int (k : Int), 0)] = .ok (bx b0, 1) [(.rol (ns.map D.int), 0), (.int (k : Int), 0)] ∧ f__law_names [(bx b0, 1), (.int (q : Int), 0)] = .ok (.lst (nm.map D.str), 0) [(bx b1, 1), (.int (q : Int), 0)] ∧ Nmq q nm := by
  obtain ⟨b0, eb⟩ := box_ok ns k (by omega)
  obtain ⟨s1, s2, f, b1, hl, h1, h2, en⟩ := names_ok b0 q hq
  refine ⟨b0, _, b1, eb, en, nms_len, nms_nd hq, fun n hn => ?_⟩
  obtain ⟨j, _, rfl⟩ := List.mem_map.mp hn
  exact nmx_ok hl h1 h2
theorem startn2 {q : Nat} {nm : List Str} (N : Nmq q nm) (hq : q ≤ 26) (b : Bx) (j d : Nat) (hd : d ≤ 100) : ∃ g b2, f__law_graph [(bx b, 1), (.lst ((nm.take j).map D.str), 1), (.int (d : Int), 0)] = .ok (eG g, 0) [(bx b2, 1), (.lst ((nm.take j).map D.str), 1), (.int (d : Int), 0)] ∧ GG nm g ∧ (keys g).Perm (nm.take j) := by
  have hl := N.len
  obtain ⟨g, b2, eg, K, hp⟩ := graph_ok b (nm.take j) (N.nd.sublist (List.take_sublist _ _)) (fun n hn => N.asc n (List.mem_of_mem_take hn)) (by simp; omega) d hd
  exact ⟨g, b2, eg, K.gg (by omega) fun n hn => List.mem_of_mem_take (hp.mem_iff.mp hn), hp⟩
theorem startn3 {q : Nat} {nm : List Str} (N : Nmq q nm) (hq : q ≤ 26) (b : Bx) {g : Gr} (G : GG nm g) : ∃ g2 b3, f__law_rows [(bx b, 1), (eG g, 0)] = .ok (.lst (g2.map eRow), 0) [(bx b3, 1), (eG g, 0)] ∧ f_Catalog_init [(.obj "Catalog" [], 1), (.lst (g2.map eRow), 0)] = .ok (.non, 0) [(eC g2, 1), (.lst (g2.map eRow), 0)] ∧ Same g g2 ∧ GG nm g2 := by
  have hl := N.len
  obtain ⟨g2, b3, er, Sh⟩ := rows_ok b g G.gw (fun n hn => N.asc n (G.ks n hn)) G.kd
  have G2 := G.shuf (by omega) Sh
  exact ⟨g2, b3, er, init_ok (.lst (g2.map eRow)) g2 rfl G2.gw (fun n hn => N.ok n (G2.ks n hn)) G2.ac, Sh.same G.gw, G2⟩
theorem some_of {l : List Str} (hl : l.length ≤ 1000) (ha : ∀ n ∈ l, asc n = true) (b : Bx) : ∃ (ys : List Str) (b1 : Bx), f__law_shuffled [(bx b, 1), (.lst (l.map D.str), 0)] = .ok (.lst (ys.map D.str), 0) [(bx b1, 1), (.lst (l.map D.str), 0)] ∧ ys.Perm l := by
  have hb : big = 16000000 := rfl
  obtain ⟨ys, b1, e1, p1⟩ := shuf_okm b 0 (.inl rfl) (l.map D.str) (gP_map fun n hn => gP_str (ha n hn)) (by simp; omega)
  obtain ⟨ys, rfl, q1⟩ := perm_map_inv p1 rfl
  exact ⟨ys, b1, e1, q1⟩
def paS (g : Gr) (a : Str) (ns : List Str) (F W : PF) (c5 c6 c7 c8 : Ce) : S := [.ow (eG g) 0, .ow (.str a) 0, .ow (.tup (ns.map D.str)) 0, .ow (.lst (F.map eP)) 1, .ow (.lst (W.map eP)) 1, c5, c6, c7, c8, .ow (eG g) 0, .ow (.str a) 0, .ow (.tup (ns.map D.str)) 0]
theorem paths_w {g : Gr} {a : Str} {ns : List Str} {F W : PF} {c5 c6 c7 c8 : Ce} (h : ∀ x ∈ W, asc x.1 = true) : w__law_paths_1 (paS g a ns F W c5 c6 c7 c8) = .ok (!W.isEmpty) (paS g a ns F W c5 c6 c7 c8) := by
  have := fun n m => fNe_nil (n := n) (m := m) (gP_map (f := eP) fun x hx => gP_eP (h x hx)) (by decide : 1 < 64)
  simp -implicitDefEqProofs [paS, w__law_paths_1, tre_def, loc_def, at_def, this]
theorem rep0 {x : D} {n m : Nat} (h : n ≤ 1) : fMul [(.lst [x], n), (.int 0, m)] = some (.lst [], 1) := by
  rcases Nat.le_one_iff_eq_zero_or_eq_one.mp h with rfl | rfl <;> rfl
theorem rep1 {x : D} {n m : Nat} (h : n ≤ 1) : fMul [(.lst [x], n), (.int 1, m)] = some (.lst [x], 1) := by
  rcases Nat.le_one_iff_eq_zero_or_eq_one.mp h with rfl | rfl <;> rfl
theorem paths_i {g : Gr} {a h : Str} {f : Bool} {ns : List Str} {F W : PF} {t k : Str} {lk : Lk} (hg : g.lookup h = some lk) (hl : lk.lookup t = some k) (ht : asc t = true) (hF : ∀ y ∈ F, asc y.1 = true) (hFl : F.length ≤ 10000) (hWl : W.length ≤ 10000) (c8 : Ce) :
    l__law_paths_2 (paS g a ns F W (.ow (.str t) 0) (.ow (.str h) 0) (.ow (.bl f) 0) c8) = .ok .nx (paS g a ns (stepP ns (h, f) F W (t, k)).1 (stepP ns (h, f) F W (t, k)).2 (.ow (.str t) 0) (.ow (.str h) 0) (.ow (.bl f) 0) (.ow (eP (t, nxt f k)) 0)) := by
  have hb : big = 16000000 := rfl
  have e0 : l__law_paths_2 (paS g a ns F W (.ow (.str t) 0) (.ow (.str h) 0) (.ow (.bl f) 0) c8) = l__law_paths_2_1 (paS g a ns F W (.ow (.str t) 0) (.ow (.str h) 0) (.ow (.bl f) 0) (.ow (eP (t, nxt f k)) 0)) := by
    cases f <;> simp -implicitDefEqProofs [paS, l__law_paths_2, tre_def, loc_def, at_def, hg, hl, eP, nxt]
  have e1 := fun n m => fNotInD_eP (x := (t, nxt f k)) (F := F) ht hF (n := n) (m := m)
  have h1 : F.length < big := by omega
  have h2 : W.length + 1 ≤ big := by omega
  have h3 : W.length ≤ big := by omega
  rw [e0]
  unfold stepP
  by_cases q : (t, nxt f k) ∈ F
  · rw [if_pos q]
    simp -implicitDefEqProofs [paS, l__law_paths_2_1, tre_def, loc_def, at_def, e1, q]
  · rw [if_neg q]
    have r0 := fun n (hn : n ≤ 1) m => rep0 (x := eP (t, nxt f k)) (n := n) (m := m) hn
    have r1 := fun n (hn : n ≤ 1) m => rep1 (x := eP (t, nxt f k)) (n := n) (m := m) hn
    by_cases q2 : t ∈ ns
    · simp -implicitDefEqProofs [paS, l__law_paths_2_1, tre_def, loc_def, at_def, e1, q, q2, h1, h2, h3, r0]
    · simp -implicitDefEqProofs [paS, l__law_paths_2_1, tre_def, loc_def, at_def, e1, q, q2, h1, h2, h3, r1]
theorem paths_l {nm : List Str} {g : Gr} (G : GG nm g) (hs : ∀ n ∈ nm, asc n = true) {a : Str} (ha : a ∈ keys g) {ns : List Str} {F W : PF} {h : Str × Bool} {k : Nat} (hk : k ≤ 3000) (I : PI g ns a none F (W ++ [h]) (k + 1)) (c5 c6 c7 c8 : Ce) :
    ∃ F' W' c5' c6' c7' c8', l__law_paths_1 (paS g a ns F (W ++ [h]) c5 c6 c7 c8) = .ok .nx (paS g a ns F' W' c5' c6' c7' c8') ∧ PI g ns a none F' W' k := by
  have he : Exp g ns a h.1 h.2 := I.ww h (by simp)
  have hh : h.1 ∈ keys g := Exp.key G.gw ha he
  have hz := G.gw.sz
  have hg := G.gw.look (G.gw.at_key hh)
  simp only at hg
  have I1 := I.pop G.gw
  have e0 : l__law_paths_1 (paS g a ns F (W ++ [h]) c5 c6 c7 c8) = forL (.nm 5) l__law_paths_2 ((keys (lks g h.1)).map D.str) (paS g a ns F W c5 (.ow (.str h.1) 0) (.ow (.bl h.2) 0) c8) := by
    simp -implicitDefEqProofs [paS, l__law_paths_1, l__law_paths_1_1, tre_def, loc_def, at_def, Tg.set, setsF, eP, hg]
  obtain ⟨s', e, F', W', c5', c8', rfl, I2, _⟩ := forL_inv (tg := .nm 5) (body := l__law_paths_2) (xs := lks g h.1) (c := fun l : Str × Str => D.str l.1) (s := paS g a ns F W c5 (.ow (.str h.1) 0) (.ow (.bl h.2) 0) c8)
    (I := fun r s => ∃ F' W' c5' c8', s = paS g a ns F' W' c5' (.ow (.str h.1) 0) (.ow (.bl h.2) 0) c8' ∧ PI g ns a (some (h, r)) F' W' k ∧ ∀ p ∈ r, knd g h.1 p.1 = some p.2)
    (by
      rintro p r s ⟨F', W', c5', c8', rfl, I, hl⟩
      have h1 := I.flen G.gw
      have h3 := I.hk
      have hp := hl p List.mem_cons_self
      have hpk : p.1 ∈ keys g := G.gw.to_key (n := h.1) (by rw [hp]; exact fun z => nomatch z)
      refine ⟨_, _, rfl, paths_i (f := h.2) (k := p.2) hg hp (hs _ (G.ks _ hpk)) (fun y hy => hs _ (G.ks _ (I.key G.gw y hy))) (by omega) (by omega) c8', _, _, _, _, rfl, I.step G.gw he hp, fun q hq => hl q (List.mem_cons_of_mem _ hq)⟩)
    ⟨_, _, _, _, rfl, I1, fun p hp => (lookup_iff (G.gw.lks_nd h.1)).mpr hp⟩
  have ek : (keys (lks g h.1)).map D.str = (lks g h.1).map fun l => D.str l.1 := by unfold keys; rw [List.map_map]; rfl
  rw [ek] at e0
  exact ⟨F', W', _, _, _, _, e0.trans e, I2.shut G.gw⟩
theorem paths_ok2 {nm : List Str} {g : Gr} (G : GG nm g) (hs : ∀ n ∈ nm, asc n = true) {a : Str} (ha : a ∈ keys g) (ns : List Str) : ∃ P : PF, f__law_paths [(eG g, 0), (.str a, 0), (.tup (ns.map D.str), 0)] = .ok (.lst (P.map eP), 1) [(eG g, 0), (.str a, 0), (.tup (ns.map D.str), 0)] ∧ (∀ x ∈ P, asc x.1 = true) ∧ P.length ≤ 2000 ∧ (∀ x : Str × Bool, x.1 ∈ ns → (x ∈ P ↔ Fnd g ns a x.1 x.2)) ∧ ∀ x ∈ P, x.1 ∈ ns := by
  have hb : big = 16000000 := rfl
  have hz := G.gw.sz
  have e0 : b__law_paths (st0 9 [(eG g, 0), (.str a, 0), (.tup (ns.map D.str), 0)]) = sqK b__law_paths_2 (mWhile w__law_paths_1 l__law_paths_1 (paS g a ns [] [(a, true)] .un .un .un .un)) := by
    simp -implicitDefEqProofs [st0, List.replicate, b__law_paths, b__law_paths_1, tre_def, loc_def, at_def, paS, eP]
  obtain ⟨F, c5, c6, c7, c8, e, k, I⟩ := mWhile_run (t := w__law_paths_1) (body := l__law_paths_1) (s := paS g a ns [] [(a, true)] .un .un .un .un)
    (I := fun k s => ∃ F W c5 c6 c7 c8, s = paS g a ns F W c5 c6 c7 c8 ∧ PI g ns a none F W k ∧ k ≤ 3000)
    (P := fun r => ∃ F c5 c6 c7 c8, r = .ok .nx (paS g a ns F [] c5 c6 c7 c8) ∧ ∃ k, PI g ns a none F [] k)
    (fun ⟨_, _, _, _, _, e, _⟩ => nomatch e)
    (by
      rintro k s ⟨F, W, c5, c6, c7, c8, rfl, I, hk⟩
      have hW : ∀ x ∈ W, asc x.1 = true := fun x hx => hs _ (G.ks _ (Exp.key G.gw ha (I.ww x hx)))
      rw [paths_w hW]
      rcases List.eq_nil_or_concat W with rfl | ⟨W', h, rfl⟩
      · exact ⟨F, c5, c6, c7, c8, rfl, k, I⟩
      · have hpos : (!(W'.concat h).isEmpty) = true := by simp
        rw [hpos]
        rw [List.concat_eq_append] at I ⊢
        have h1 := I.flen G.gw
        have h2 := I.hk
        simp at h1 h2
        obtain ⟨j, rfl⟩ : ∃ j, k = j + 1 := ⟨k - 1, by omega⟩
        obtain ⟨F', W2, d5, d6, d7, d8, e, I2⟩ := paths_l G hs ha (by omega) I c5 c6 c7 c8
        show (match l__law_paths_1 (paS g a ns F (W' ++ [h]) c5 c6 c7 c8) with | .ok .nx s2 => _ | .ok .ct s2 => _ | .ok .bk s2 => _ | .ok (.rt t) s2 => _ | .ex x s2 => _ | .no => False)
        rw [e]
        exact ⟨j, by omega, F', W2, _, _, _, _, rfl, I2, by omega⟩)
    ⟨[], [(a, true)], .un, .un, .un, .un, rfl, PI.start G.gw, by omega⟩
  have hf := I.flen G.gw
  have hc := lcL_fm (us := [8]) (tg := .nm 8) (t := t__law_paths_1) (m := e__law_paths_1) (c := eP) (fun x => decide (x.1 ∈ ns)) eP (s := [.ow (eG g) 0, .ow (.str a) 0, .ow (.tup (ns.map D.str)) 0, .ow (.lst (F.map eP)) 0, .ow (.lst []) 1, c5, c6, c7, .un, .ow (eG g) 0, .ow (.str a) 0, .ow (.tup (ns.map D.str)) 0]) (xs := F) (acc := []) (fun x _ => by
    by_cases q : x.1 ∈ ns <;> simp -implicitDefEqProofs [lcStep_eq, t__law_paths_1, e__law_paths_1, tre_def, loc_def, at_def, Tg.set, eP, q]) (by simp; omega)
  refine ⟨F.filter fun x => decide (x.1 ∈ ns), fnOf_eq.trans (fnK_rw (e0.trans (congrArg _ e)) ?_), fun x hx => hs _ (G.ks _ (I.key G.gw x (List.mem_filter.mp hx).1)), ?_, fun x hx => ?_, fun x hx => by simpa using (List.mem_filter.mp hx).2⟩
  · rw [List.nil_append] at hc
    generalize (F.filter fun x => decide (x.1 ∈ ns)).map eP = ds at hc
    simp -implicitDefEqProofs [b__law_paths_2, tre_def, loc_def, at_def, paS, hc]
  · have := List.length_filter_le (fun x : Str × Bool => decide (x.1 ∈ ns)) F
    omega
  · rw [List.mem_filter]
    simp only [decide_eq_true_eq]
    exact ⟨fun z => (I.fin G.gw x).mp z.1, fun z => ⟨(I.fin G.gw x).mpr z, hx⟩⟩
/-! what is due of an object -/
def duS (g : Gr) (a : Str) (ns : List Str) (P : PF) (n3 : Nat) (c4 c5 : Ce) : S := [.ow (eG g) 0, .ow (.str a) 0, .ow (.tup (ns.map D.str)) 0, .ow (.lst (P.map eP)) n3, c4, c5, .ow (eG g) 0, .ow (.str a) 0, .ow (.tup (ns.map D.str)) 0]
def duP (P : PF) (t : Str) : Bool := decide ((t, true) ∈ P) || decide ((t, false) ∈ P)
theorem ldue_ok {nm : List Str} {g : Gr} (G : GG nm g) (hs : ∀ n ∈ nm, asc n = true) {a : Str} (ha : a ∈ keys g) (ns : List Str) : ∃ d, f__law_due [(eG g, 0), (.str a, 0), (.tup (ns.map D.str), 0)] = .ok (d, 0) [(eG g, 0), (.str a, 0), (.tup (ns.map D.str), 0)] ∧ Ld g ns a d := by
  have hb : big = 16000000 := rfl
  have hz := G.gw.sz
  have kd : ∀ n t k, knd g n t = some k → k = "needs" ∨ k = "part" := fun n t k e => G.kd _ (G.gw.at_key (knd_key (t := t) (by rw [e]; exact fun z => nomatch z))) _ (lookup_some_mem e)
  -- only the known ends are among the paths
  obtain ⟨P, e, hP, hPl, hPF⟩ : ∃ P : PF, f__law_paths [(eG g, 0), (.str a, 0), (.tup (ns.map D.str), 0)] = .ok (.lst (P.map eP), 1) [(eG g, 0), (.str a, 0), (.tup (ns.map D.str), 0)] ∧ (∀ x ∈ P, asc x.1 = true) ∧ P.length ≤ 2000 ∧ ∀ x : Str × Bool, (x ∈ P ↔ x.1 ∈ ns ∧ Fnd g ns a x.1 x.2) := by
    obtain ⟨P, e, hP, hPl, hPF, hin⟩ := paths_ok2 G hs ha ns
    exact ⟨P, e, hP, hPl, fun x => ⟨fun z => ⟨hin x z, (hPF x (hin x z)).mp z⟩, fun z => (hPF x z.1).mpr z.2⟩⟩
  have hs2 := fun (n : Nat) (hn : n ≤ 1) => fSorted_s (ss := keys g) (n := n) hn (by rw [keys_len]; omega)
  have hk : ∀ t ∈ keys g, asc t = true := fun t ht => hs t (G.ks t ht)
  have i1 : ∀ t : Str, asc t = true → ∀ (b : Bool) (n m : Nat), fInD [(.tup [.str t, .bl b], n), (.lst (P.map eP), m)] = some (.bl (decide ((t, b) ∈ P)), 0) := fun t ht b n m => fInD_eP (x := (t, b)) (F := P) ht hP (n := n) (m := m)
  have hc := lcL_fm (us := [5]) (tg := .nm 5) (t := t__law_due_1) (m := e__law_due_1) (c := D.str) (duP P) D.str (s := duS g a ns P 1 .un .un) (xs := sortS (keys g)) (acc := []) (fun t ht => by
    have ht2 := hk t (mem_sortS.mp ht)
    have j1 := i1 t ht2 true
    have j2 := i1 t ht2 false
    unfold duP
    by_cases q1 : (t, true) ∈ P
    · simp -implicitDefEqProofs [duS, lcStep_eq, t__law_due_1, e__law_due_1, tre_def, loc_def, at_def, Tg.set, j1, j2, q1]
    · by_cases q2 : (t, false) ∈ P <;> simp -implicitDefEqProofs [duS, lcStep_eq, t__law_due_1, e__law_due_1, tre_def, loc_def, at_def, Tg.set, j1, j2, q1, q2]) (by simp [sortS_len]; omega)
  rw [List.nil_append] at hc
  have a0 : atI [D.str "needs", D.str "part"] 0 = some (.str "needs") := rfl
  have a1 : atI [D.str "needs", D.str "part"] 1 = some (.str "part") := rfl
  have hc2 := lcL_mp (us := [5]) (tg := .nm 5) (t := mYes) (m := e__law_due_2) (c := D.str) (fun t : Str => .tup [.str (if (t, true) ∈ P then "part" else "needs"), .str t]) (s := duS g a ns P 1 (.ow (.lst (((sortS (keys g)).filter (duP P)).map D.str)) 0) .un) (xs := (sortS (keys g)).filter (duP P)) (fun t ht => by
    have ht2 := hk t (mem_sortS.mp (List.mem_filter.mp ht).1)
    have j1 := i1 t ht2 true
    by_cases q1 : (t, true) ∈ P <;> simp -implicitDefEqProofs [duS, lcStep_eq, e__law_due_2, tre_def, loc_def, at_def, Tg.set, j1, q1, a0, a1]) (by
      have := List.length_filter_le (duP P) (sortS (keys g))
      rw [sortS_len, keys_len] at this
      omega)
  have hmem : ∀ t : Str, duP P t = true ↔ t ∈ ns ∧ End g ns AK a t := fun t => by
    unfold duP
    simp only [Bool.or_eq_true, decide_eq_true_eq]
    rw [hPF, hPF]
    constructor
    · rintro (⟨h1, h2⟩ | ⟨h1, h2⟩)
      · exact ⟨h1, (Fnd.any kd h1).mp (.inl h2)⟩
      · exact ⟨h1, (Fnd.any kd h1).mp (.inr h2)⟩
    · rintro ⟨h1, h2⟩
      exact ((Fnd.any kd h1).mpr h2).imp (fun z => ⟨h1, z⟩) fun z => ⟨h1, z⟩
  refine ⟨.tup (((sortS (keys g)).filter (duP P)).map fun t => .tup [.str (if (t, true) ∈ P then "part" else "needs"), .str t]), fnOf_eq.trans ?_, (sortS (keys g)).filter (duP P), (P.filter fun x => x.2).map (·.1), ⟨(keys g).filter (duP P), sortS_filter _ _, G.gw.nd.sublist List.filter_sublist, fun x => ?_⟩, fun x => ?_, ?_⟩
  · unfold duS at hc hc2
    generalize (((sortS (keys g)).filter (duP P)).map fun t => D.tup [.str (if (t, true) ∈ P then "part" else "needs"), .str t]) = ds at hc2 ⊢
    generalize (sortS (keys g)).filter (duP P) = ts at hc hc2
    simp -implicitDefEqProofs [st0, List.replicate, b__law_due, b__law_due_1, b__law_due_2, tre_def, loc_def, at_def, e, hs2, hc, hc2]
  · rw [List.mem_filter, hmem]
    exact ⟨fun z => z.2.2, fun z => ⟨G.gw.end_key z, z.1, z⟩⟩
  · rw [List.mem_map]
    constructor
    · rintro ⟨y, hy, rfl⟩
      obtain ⟨h1, h2⟩ := List.mem_filter.mp hy
      obtain ⟨u, b⟩ := y
      have h2 : b = true := h2
      subst h2
      obtain ⟨k1, k2⟩ := (hPF _).mp h1
      exact (Fnd.part k1).mp k2
    · intro z
      exact ⟨(x, true), List.mem_filter.mpr ⟨(hPF _).mpr ⟨z.1, (Fnd.part z.1).mpr z⟩, rfl⟩, rfl⟩
  · congr 1
    refine List.map_congr_left fun t _ => ?_
    have : t ∈ (P.filter fun x => x.2).map (·.1) ↔ (t, true) ∈ P := by
      rw [List.mem_map]
      constructor
      · rintro ⟨y, hy, rfl⟩
        obtain ⟨h1, h2⟩ := List.mem_filter.mp hy
        obtain ⟨u, b⟩ := y
        have h2 : b = true := h2
        subst h2
        exact h1
      · intro z; exact ⟨(t, true), List.mem_filter.mpr ⟨z, rfl⟩, rfl⟩
    by_cases q : (t, true) ∈ P
    · rw [if_pos q, if_pos (this.mpr q)]
    · rw [if_neg q, if_neg fun z => q (this.mp z)]
theorem lmiss_ok {g : Gr} {a : Str} {ns : List Str} (h : a ∉ keys g) (hl : a.length ≤ 1000) : f__law_missing [(eC g, 1), (.str a, 0), (.tup (ns.map D.str), 0)] = .ok (.bl true, 0) [(eC g, 1), (.str a, 0), (.tup (ns.map D.str), 0)] := by
  have q : sub "Missing" "Missing" = true := by decide +kernel
  simp -implicitDefEqProofs [f__law_missing, b__law_missing, y__law_missing_1, b__law_missing_2, b__law_missing_1, fnOf_eq, st0, tre_def, loc_def, at_def, List.replicate, leads_no (.inr rfl) h hl, q, List.lookup]
def lwS (R : D) (k : Ce) (b : Bx) (nm : List Str) (g g2 : Gr) (ns : List Str) (c7 c8 : Ce) : S := [.ow R 0, k, .ow (bx b) 1, .ow (.lst (nm.map D.str)) 0, .ow (eG g) 0, .ow (eC g2) 1, .ow (.tup (ns.map D.str)) 0, c7, c8, .ow R 0]
theorem law_2o {R : D} {k : Ce} {b : Bx} {nm ns : List Str} (N : Nmq 10 nm) (hns : ∀ n ∈ ns, n ∈ nm) {g g2 : Gr} (G : GG nm g) (G2 : GG nm g2) (Sm : Same g g2) {n : Str} (hn : n ∈ nm) (c8 : Ce) : ∃ c8', l_law_2 (lwS R k b nm g g2 ns (.ow (.str n) 0) c8) = .ok .nx (lwS R k b nm g g2 ns (.ow (.str n) 0) c8') := by
  by_cases h : n ∈ keys g
  · obtain ⟨d, e1, L1⟩ := leads_ok G2.gw (m := 1) (.inr rfl) ((Sm.ks n).mp h) ns
    obtain ⟨d2, e2, L2⟩ := ldue_ok G N.asc h ns
    have := L1.eq L2 fun ks t => Sm.end_iff.symm
    subst this
    have ne := fun a b => L2.ne G.gw (fun n hn => N.asc n (hns n hn)) (a := a) (b := b)
    obtain ⟨ts, ps, _, _, hd⟩ := L2
    rw [hd] at e1 e2 ne
    generalize (ts.map fun t => D.tup [.str (if t ∈ ps then "part" else "needs"), .str t]) = ds at e1 e2 ne
    refine ⟨.ow (.tup ds) 0, ?_⟩
    simp -implicitDefEqProofs [lwS, l_law_2, tre_def, loc_def, at_def, h, e1, e2, ne]
  · have e := lmiss_ok (ns := ns) (fun z => h ((Sm.ks n).mpr z)) (N.sh n hn)
    refine ⟨c8, ?_⟩
    simp -implicitDefEqProofs [lwS, l_law_2, tre_def, loc_def, at_def, h, e]
theorem law_many {R : D} {k : Ce} {b : Bx} {nm ns : List Str} (N : Nmq 10 nm) (hns : ∀ n ∈ ns, n ∈ nm) {g g2 : Gr} (G : GG nm g) (G2 : GG nm g2) (Sm : Same g g2) (c7 c8 : Ce) : ∃ c7' c8', l_law_1_5 (lwS R k b nm g g2 ns c7 c8) = .ok .nx (lwS R k b nm g g2 ns c7' c8') := by
  have hb : big = 16000000 := rfl
  have hl := N.len
  have hc : cutD (nm.map D.str) none (some 1) = (nm.take 1).map D.str := by rw [List.map_take]; exact cutD_first (k := 1)
  have hbb : nm.length + (nm.take 1).length ≤ big := by simp; omega
  have er := catrows_ok G2.gw (n := 1) (.inr rfl)
  rw [← Sm.rows G.gw G2.gw] at er
  have et := told_ok G.gw
  have rn := fun n m => G.rows_ne N.asc (n := n) (m := m)
  have e0 : l_law_1_5 (lwS R k b nm g g2 ns c7 c8) = sqK l_law_1_6 (forL (.nm 7) l_law_2 ((nm ++ nm.take 1).map D.str) (lwS R k b nm g g2 ns c7 c8)) := by
    rw [List.map_append]
    simp -implicitDefEqProofs [-List.map_take, -List.length_take, lwS, l_law_1_5, tre_def, loc_def, at_def, hc, hbb]
  obtain ⟨s', e3, c7', c8', rfl, _⟩ := forL_inv (tg := .nm 7) (body := l_law_2) (xs := nm ++ nm.take 1) (c := D.str) (s := lwS R k b nm g g2 ns c7 c8)
    (I := fun r s => ∃ c7' c8', s = lwS R k b nm g g2 ns c7' c8' ∧ ∀ n ∈ r, n ∈ nm)
    (by
      rintro n r s ⟨c7', c8', rfl, h⟩
      obtain ⟨d8, e⟩ := law_2o (R := R) (k := k) (b := b) N hns G G2 Sm (h n List.mem_cons_self) c8'
      exact ⟨_, _, rfl, e, _, _, rfl, fun x hx => h x (List.mem_cons_of_mem _ hx)⟩)
    ⟨_, _, rfl, fun n hn => (List.mem_append.mp hn).elim id List.mem_of_mem_take⟩
  refine ⟨c7', c8', e0.trans ((congrArg _ e3).trans ?_)⟩
  simp -implicitDefEqProofs [lwS, l_law_1_6, tre_def, loc_def, at_def, er, et, rn]
def lwT (R : D) (c1 c2 c3 c4 c5 c6 c7 c8 : Ce) : S := [.ow R 0, c1, c2, c3, c4, c5, c6, c7, c8, .ow R 0]
theorem law_turn {R : D} {ns : List Int} {k : Nat} (hR : R = .rol (ns.map D.int)) (c2 c3 c4 c5 c6 c7 c8 : Ce) : ∃ d2 d3 d4 d5 d6 d7 d8, l_law_1 (lwT R (.ow (.int (k : Int)) 0) c2 c3 c4 c5 c6 c7 c8) = .ok .nx (lwT R (.ow (.int (k : Int)) 0) d2 d3 d4 d5 d6 d7 d8) := by
  obtain ⟨b0, nm, b1, eb, en, N⟩ := startn1 10 (by decide) ns k
  have en' : f__law_names [(bx b0, 1), (.int 10, 0)] = .ok (.lst (nm.map D.str), 0) [(bx b1, 1), (.int 10, 0)] := en
  rw [← hR] at eb
  have hl := N.len
  obtain ⟨j, ej, hj⟩ := tk_nat (b := b1) (m := 9) (by decide)
  obtain ⟨g, b2, eg, G, _⟩ := startn2 N (by decide) (tkB b1 9) (1 + j) 3 (by decide)
  have eg' : f__law_graph [(bx (tkB b1 9), 1), (.lst ((nm.take (1 + j)).map D.str), 1), (.int 3, 0)] = .ok (eG g, 0) [(bx b2, 1), (.lst ((nm.take (1 + j)).map D.str), 1), (.int 3, 0)] := eg
  obtain ⟨g2, b3, er, ec, Sm, G2⟩ := startn3 N (by decide) b2 G
  obtain ⟨ys, b4, ey, py⟩ := some_of (l := nm) (by omega) N.asc b3
  obtain ⟨i, ei, hi⟩ := tk_nat (b := b4) (m := 7) (by decide)
  have hc := cut_1 (xs := nm.map D.str) (j := j)
  have hc2 : cutD (ys.map D.str) none (some (i : Int)) = (ys.take i).map D.str := by rw [cutD_first, List.map_take]
  rw [← List.map_take] at hc
  have e0 : l_law_1 (lwT R (.ow (.int (k : Int)) 0) c2 c3 c4 c5 c6 c7 c8) = l_law_1_5 (lwS R (.ow (.int (k : Int)) 0) (tkB b4 7) nm g g2 (ys.take i) c7 c8) := by
    simp -implicitDefEqProofs [-List.map_take, lwT, lwS, l_law_1, l_law_1_1, l_law_1_2, l_law_1_3, l_law_1_4, tre_def, loc_def, at_def, eb, en', take_s, ej, hc, eg', er, ec, ey, ei, hc2]
  obtain ⟨c7', c8', e6⟩ := law_many (R := R) (k := .ow (.int (k : Int)) 0) (b := tkB b4 7) (ns := ys.take i) N (fun n hn => py.mem_iff.mp (List.mem_of_mem_take hn)) G G2 Sm c7 c8
  exact ⟨_, _, _, _, _, _, _, e0.trans e6⟩
theorem law_loop (ns : List Int) (R : D) (hR : R = .rol (ns.map D.int)) : b_law (lwT R .un .un .un .un .un .un .un .un) = sqK b_law_1 (forL (.nm 1) l_law_1 (rngL 0 (1 + (ns.take 2).length)) (lwT R .un .un .un .un .un .un .un .un)) := by
  have hc : cutD (ns.map D.int) none (some 2) = (ns.take 2).map D.int := by rw [List.map_take]; exact cutD_first (k := 2)
  subst hR
  have hj : (ns.take 2).length ≤ 100000 := by simp; omega
  generalize ns.take 2 = ms at hc hj
  simp -implicitDefEqProofs [lwT, b_law, tre_def, loc_def, at_def, hc, r1K2_1 hj]
theorem law_ok (ns : List Int) (hl : ns.length ≤ 63) : ∃ ts, f_law [(.rol (ns.map D.int), 0)] = .ok (.bl true, 0) ts := by
  obtain ⟨s', e, c1, c2, c3, c4, c5, c6, c7, c8, rfl⟩ := forL_rng (tg := .nm 1) (body := l_law_1) (n := 1 + (ns.take 2).length) (s := lwT (.rol (ns.map D.int)) .un .un .un .un .un .un .un .un)
    (I := fun k s => ∃ c1 c2 c3 c4 c5 c6 c7 c8, s = lwT (.rol (ns.map D.int)) c1 c2 c3 c4 c5 c6 c7 c8)
    (by
      rintro k hk s ⟨c1, c2, c3, c4, c5, c6, c7, c8, rfl⟩
      obtain ⟨d2, d3, d4, d5, d6, d7, d8, e⟩ := law_turn (ns := ns) (k := k) rfl c2 c3 c4 c5 c6 c7 c8
      exact ⟨_, _, rfl, e, _, _, _, _, _, _, _, _, rfl⟩)
    ⟨_, _, _, _, _, _, _, _, rfl⟩
  refine ⟨[(.rol (ns.map D.int), 0)], fnOf_eq.trans (fnK_rw ((law_loop ns _ rfl).trans (congrArg _ e)) ?_)⟩
  generalize D.rol (ns.map D.int) = R
  simp -implicitDefEqProofs [b_law_1, lwT]
end Y_k18

open PySem PySem.W PyProof.Rows in
set_option maxRecDepth 100000 in
set_option maxHeartbeats 0 in
theorem PySem.Challenge.cw_dropfates_k18_what_an_object_leads_to_holds : PySem.Challenge.rw_dropfates_k18_what_an_object_leads_to.Holds := by
  w_on; o_law; k_head; (case hw => w_witness2)
  k_fill
  refine Z.z_endC (l := PySem.Challenge.rw_dropfates_k18_what_an_object_leads_to) (k := 7) (x := "_law_script") (fn := Y_k18.f_law) Y_k18.names rfl rfl ⟨⟨rfl, by decide, by decide⟩, rfl⟩ (fun w h Y => PySem.W.kIn_of Y) ?F (fun ns hl => Y_k18.law_ok ns hl)
  case F =>
    intro w mg fa h KX G hmg
    refine' Y_k18.all_mk KX G hmg ?z_abs ?z_all ?z_enumerate ?z_int ?z_isinstance ?z_len ?z_list ?z_range ?z_sorted ?z_str ?z_tuple ?g_LONGEST ?h_LONGEST ?g_LETTERS ?h_LETTERS ?g_KEPT_WORDS ?l_KEPT_WORDS ?y_KEPT_WORDS ?h_KEPT_WORDS ?n_Catalog ?n_BadName ?n_Taken ?n_Missing ?n_Cycle ?n_CatalogError ?pg_Catalog ?hd_Catalog ?po_Catalog ?sa_Catalog ?mm_Catalog ?mk_Catalog ?nf_graph_Catalog ?bsp_CatalogError ?brd_CatalogError ?bfd_CatalogError ?xl_BadName ?xsa_BadName ?xeC_BadName ?xtC_BadName ?xkC_BadName ?xiC_BadName ?xtI_BadName ?xga_BadName ?xgg_BadName ?xhd_BadName ?xnb_BadName ?xl1_BadName ?xc1_BadName ?xk1_BadName ?xl_Taken ?xsa_Taken ?xeC_Taken ?xtC_Taken ?xkC_Taken ?xiC_Taken ?xtI_Taken ?xga_Taken ?xgg_Taken ?xhd_Taken ?xnb_Taken ?xl1_Taken ?xc1_Taken ?xk1_Taken ?xl_Missing ?xsa_Missing ?xeC_Missing ?xtC_Missing ?xkC_Missing ?xiC_Missing ?xtI_Missing ?xga_Missing ?xgg_Missing ?xhd_Missing ?xnb_Missing ?xl1_Missing ?xc1_Missing ?xk1_Missing ?xl_Cycle ?xsa_Cycle ?xeC_Cycle ?xtC_Cycle ?xkC_Cycle ?xiC_Cycle ?xtI_Cycle ?xga_Cycle ?xgg_Cycle ?xhd_Cycle ?xnb_Cycle ?xl1_Cycle ?xc1_Cycle ?xk1_Cycle ?his_Missing ?hs_Catalog_Missing ?hs_BadName_Missing ?hs_Taken_Missing ?hs_Missing_Missing ?hs_Cycle_Missing ?hs_CatalogError_Missing ?a__law_box ?l__law_box ?c__law_box ?k__law_box ?a__law_take ?l__law_take ?c__law_take ?k__law_take ?a__law_names ?l__law_names ?c__law_names ?k__law_names ?a__law_shuffled ?l__law_shuffled ?c__law_shuffled ?k__law_shuffled ?a__law_graph ?l__law_graph ?c__law_graph ?k__law_graph ?a_has_letters ?l_has_letters ?c_has_letters ?k_has_letters ?a_is_name ?l_is_name ?c_is_name ?k_is_name ?a_graph_of ?l_graph_of ?c_graph_of ?k_graph_of ?a_reached ?l_reached ?c_reached ?k_reached ?a_look_rows ?l_look_rows ?c_look_rows ?k_look_rows ?a_Catalog_init ?af_Catalog_init ?l_Catalog_init ?lT_Catalog_init ?c_Catalog_init ?k_Catalog_init ?a__law_rows ?l__law_rows ?c__law_rows ?k__law_rows ?a_check_there ?l_check_there ?c_check_there ?k_check_there ?a_known_ends ?l_known_ends ?c_known_ends ?k_known_ends ?a_leads ?l_leads ?c_leads ?k_leads ?a__law_paths ?l__law_paths ?c__law_paths ?k__law_paths ?a__law_due ?l__law_due ?c__law_due ?k__law_due ?a__law_missing ?l__law_missing ?c__law_missing ?k__law_missing ?a_links_in ?l_links_in ?c_links_in ?k_links_in ?a_rows_of ?l_rows_of ?c_rows_of ?k_rows_of ?a_Catalog_rows ?af_Catalog_rows ?l_Catalog_rows ?c_Catalog_rows ?k_Catalog_rows ?a__law_told ?l__law_told ?c__law_told ?k__law_told ?a_law ?l_law ?c_law ?k_law
    (case z_abs => k_is)
    (case z_all => k_is)
    (case z_enumerate => k_is)
    (case z_int => k_is)
    (case z_isinstance => k_is)
    (case z_len => k_is)
    (case z_list => k_is)
    (case z_range => k_is)
    (case z_sorted => k_is)
    (case z_str => k_is)
    (case z_tuple => k_is)
    (case g_LONGEST => k_is)
    (case h_LONGEST => decide +kernel)
    (case g_LETTERS => k_is)
    (case h_LETTERS => decide +kernel)
    (case g_KEPT_WORDS => k_is)
    (case l_KEPT_WORDS => k_is)
    (case y_KEPT_WORDS => decide +kernel)
    (case h_KEPT_WORDS => decide +kernel)
    (case n_Catalog => k_is)
    (case n_BadName => k_is)
    (case n_Taken => k_is)
    (case n_Missing => k_is)
    (case n_Cycle => k_is)
    (case n_CatalogError => k_is)
    (case pg_Catalog => k_is)
    (case hd_Catalog => k_is)
    (case po_Catalog => k_is)
    (case sa_Catalog => k_is)
    (case mm_Catalog => k_is)
    (case mk_Catalog => k_is)
    (case nf_graph_Catalog => k_is)
    (case bsp_CatalogError => k_is)
    (case brd_CatalogError => k_is)
    (case bfd_CatalogError => k_is)
    (case xl_BadName => k_is)
    (case xsa_BadName => k_is)
    (case xeC_BadName => k_is)
    (case xtC_BadName => k_is)
    (case xkC_BadName => k_is)
    (case xiC_BadName => k_is)
    (case xtI_BadName => k_is)
    (case xga_BadName => k_is)
    (case xgg_BadName => k_is)
    (case xhd_BadName => k_is)
    (case xnb_BadName => k_is)
    (case xl1_BadName => k_is)
    (case xc1_BadName => k_is)
    (case xk1_BadName => k_is)
    (case xl_Taken => k_is)
    (case xsa_Taken => k_is)
    (case xeC_Taken => k_is)
    (case xtC_Taken => k_is)
    (case xkC_Taken => k_is)
    (case xiC_Taken => k_is)
    (case xtI_Taken => k_is)
    (case xga_Taken => k_is)
    (case xgg_Taken => k_is)
    (case xhd_Taken => k_is)
    (case xnb_Taken => k_is)
    (case xl1_Taken => k_is)
    (case xc1_Taken => k_is)
    (case xk1_Taken => k_is)
    (case xl_Missing => k_is)
    (case xsa_Missing => k_is)
    (case xeC_Missing => k_is)
    (case xtC_Missing => k_is)
    (case xkC_Missing => k_is)
    (case xiC_Missing => k_is)
    (case xtI_Missing => k_is)
    (case xga_Missing => k_is)
    (case xgg_Missing => k_is)
    (case xhd_Missing => k_is)
    (case xnb_Missing => k_is)
    (case xl1_Missing => k_is)
    (case xc1_Missing => k_is)
    (case xk1_Missing => k_is)
    (case xl_Cycle => k_is)
    (case xsa_Cycle => k_is)
    (case xeC_Cycle => k_is)
    (case xtC_Cycle => k_is)
    (case xkC_Cycle => k_is)
    (case xiC_Cycle => k_is)
    (case xtI_Cycle => k_is)
    (case xga_Cycle => k_is)
    (case xgg_Cycle => k_is)
    (case xhd_Cycle => k_is)
    (case xnb_Cycle => k_is)
    (case xl1_Cycle => k_is)
    (case xc1_Cycle => k_is)
    (case xk1_Cycle => k_is)
    (case his_Missing => k_is)
    (case hs_Catalog_Missing => k_is)
    (case hs_BadName_Missing => k_is)
    (case hs_Taken_Missing => k_is)
    (case hs_Missing_Missing => k_is)
    (case hs_Cycle_Missing => k_is)
    (case hs_CatalogError_Missing => k_is)
    (case a__law_box => k_is)
    (case l__law_box => k_is)
    (case c__law_box => k_is)
    (case k__law_box => k_is)
    (case a__law_take => k_is)
    (case l__law_take => k_is)
    (case c__law_take => k_is)
    (case k__law_take => k_is)
    (case a__law_names => k_is)
    (case l__law_names => k_is)
    (case c__law_names => k_is)
    (case k__law_names => k_is)
    (case a__law_shuffled => k_is)
    (case l__law_shuffled => k_is)
    (case c__law_shuffled => k_is)
    (case k__law_shuffled => k_is)
    (case a__law_graph => k_is)
    (case l__law_graph => k_is)
    (case c__law_graph => k_is)
    (case k__law_graph => k_is)
    (case a_has_letters => k_is)
    (case l_has_letters => k_is)
    (case c_has_letters => k_is)
    (case k_has_letters => k_is)
    (case a_is_name => k_is)
    (case l_is_name => k_is)
    (case c_is_name => k_is)
    (case k_is_name => k_is)
    (case a_graph_of => k_is)
    (case l_graph_of => k_is)
    (case c_graph_of => k_is)
    (case k_graph_of => k_is)
    (case a_reached => k_is)
    (case l_reached => k_is)
    (case c_reached => k_is)
    (case k_reached => k_is)
    (case a_look_rows => k_is)
    (case l_look_rows => k_is)
    (case c_look_rows => k_is)
    (case k_look_rows => k_is)
    (case a_Catalog_init => k_is)
    (case af_Catalog_init => k_is)
    (case l_Catalog_init => k_is)
    (case lT_Catalog_init => k_is)
    (case c_Catalog_init => k_is)
    (case k_Catalog_init => k_is)
    (case a__law_rows => k_is)
    (case l__law_rows => k_is)
    (case c__law_rows => k_is)
    (case k__law_rows => k_is)
    (case a_check_there => k_is)
    (case l_check_there => k_is)
    (case c_check_there => k_is)
    (case k_check_there => k_is)
    (case a_known_ends => k_is)
    (case l_known_ends => k_is)
    (case c_known_ends => k_is)
    (case k_known_ends => k_is)
    (case a_leads => k_is)
    (case l_leads => k_is)
    (case c_leads => k_is)
    (case k_leads => k_is)
    (case a__law_paths => k_is)
    (case l__law_paths => k_is)
    (case c__law_paths => k_is)
    (case k__law_paths => k_is)
    (case a__law_due => k_is)
    (case l__law_due => k_is)
    (case c__law_due => k_is)
    (case k__law_due => k_is)
    (case a__law_missing => k_is)
    (case l__law_missing => k_is)
    (case c__law_missing => k_is)
    (case k__law_missing => k_is)
    (case a_links_in => k_is)
    (case l_links_in => k_is)
    (case c_links_in => k_is)
    (case k_links_in => k_is)
    (case a_rows_of => k_is)
    (case l_rows_of => k_is)
    (case c_rows_of => k_is)
    (case k_rows_of => k_is)
    (case a_Catalog_rows => k_is)
    (case af_Catalog_rows => k_is)
    (case l_Catalog_rows => k_is)
    (case c_Catalog_rows => k_is)
    (case k_Catalog_rows => k_is)
    (case a__law_told => k_is)
    (case l__law_told => k_is)
    (case c__law_told => k_is)
    (case k__law_told => k_is)
    (case a_law => k_is)
    (case l_law => k_is)
    (case c_law => k_is)
    (case k_law => k_is)
