import PyProof.Rows.All
import Wide.All
import OpenK.AllK
import Wide.FinOn
import HandS.ForMost
import HandS.TupAny
import HandS.Wide
import HandS.Style
import HandS.Conv
import HandS.IsInst
import HandS.Gcd
import HandS.List
import HandS.Codes
import HandS.Words
import HandS.Defaults
import HandS.HeadHook1
import HandS.HeadHook2
import HandS.HeadHook4
import HandS.HeadEnd
import KE.KStateDown
import Lean
import HandS.Head0
import HandS.Head1
import HandS.Head2
import HandS.Text
import PySem.Challenge.RW_coarsegauge_k12_fits_and_fitted
set_option Elab.async false
set_option linter.all false
set_option maxRecDepth 100000
set_option maxHeartbeats 0
/-! Pure data beside the abstract heap: what a value stands for, which objects are owned by one variable alone. -/
namespace PyD
open PySem PySem.Spec PyProof.Rows L2

/-- who may touch a list: one variable alone; nobody writes it any more; nobody may (a list that was handed in, a constant of the module) -/
inductive Ow where
  | own | sh | lk
  deriving DecidableEq
inductive D where
  | non
  | bl (b : Bool)
  | int (i : Int)
  | str (s : Str)
  | tup (l : List D)
  | lst (o : Ow) (l : List D)
  | obj (o : Bool) (c : Str) (f : List Str) (l : List D)

mutual
def clr : D → D
  | .non => .non
  | .bl b => .bl b
  | .int i => .int i
  | .str s => .str s
  | .tup l => .tup l
  | .lst .own l => .lst .sh (clrs l)
  | .lst .sh l => .lst .sh l
  | .lst .lk l => .lst .lk l
  | .obj true c f l => .obj false c f (clrs l)
  | .obj false c f l => .obj false c f l
def clrs : List D → List D
  | [] => []
  | d :: ds => clr d :: clrs ds
end
mutual
/-- no part is owned -/
def flat : D → Bool
  | .lst .own _ => false
  | .obj true _ _ _ => false
  | _ => true
def flats : List D → Bool
  | [] => true
  | d :: ds => flat d && flats ds
end

/-- what the text's side of a run holds: the written part, where a class stands -/
structure Gd where
  K : PySem.W.Frag
  cl : Str → Addr

def ShT (G : Gd) (S : Addr → Prop) (H : Hp) (a : Addr) (xs : List V) : Prop :=
  (Rd H a (.tup xs) ∧ ¬ S a) ∨
    ∃ (o : Obj) (its : Array Value) (n : Nat), G.K.lookup a = some o ∧ o.cls = .type "tuple" ∧ o.data = .seq its n ∧ its.size ≤ sizeLine ∧ Vals xs its.toList
def LkL (G : Gd) (S : Addr → Prop) (H : Hp) (a : Addr) (xs : List V) : Prop :=
  (Rd H a (.lst xs) ∧ ¬ S a) ∨
    ∃ (o : Obj) (its : Array Value) (n : Nat), G.K.lookup a = some o ∧ o.cls = .type "list" ∧ o.dict = none ∧ o.data = .seq its n ∧ its.size ≤ sizeLine ∧ Vals xs its.toList
theorem ShT.seq {G : Gd} {S : Addr → Prop} {H : Hp} {a : Addr} {xs : List V} (h : ShT G S H a xs) : SqT G.K H a xs := by
  rcases h with ⟨h, _⟩ | h
  · exact .inl h
  · exact .inr h
theorem LkL.seq {G : Gd} {S : Addr → Prop} {H : Hp} {a : Addr} {xs : List V} (h : LkL G S H a xs) : SqL G.K H a xs := by
  rcases h with ⟨h, _⟩ | h
  · exact .inl h
  · exact .inr h

mutual
/-- the value v stands for d in the heap H; S: the objects that some variable owns; fp: those that d owns, in order -/
def Rep (G : Gd) (S : Addr → Prop) (H : Hp) : D → V → List Addr → Prop
  | .non, v, fp => v = .non ∧ fp = []
  | .bl b, v, fp => v = .bl b ∧ fp = []
  | .int i, v, fp => v = .int i ∧ fp = []
  | .str s, v, fp => v = .str s ∧ fp = []
  | .tup l, v, fp => ∃ a xs, v = .ref a ∧ fp = [] ∧ ShT G S H a xs ∧ Reps G S H l xs []
  | .lst .lk l, v, fp => ∃ a xs, v = .ref a ∧ fp = [] ∧ LkL G S H a xs ∧ Reps G S H l xs []
  | .lst .sh l, v, fp => ∃ a xs, v = .ref a ∧ fp = [] ∧ H a = some (.lst xs) ∧ ¬ S a ∧ Reps G S H l xs []
  | .lst .own l, v, fp => ∃ a xs f, v = .ref a ∧ fp = a :: f ∧ H a = some (.lst xs) ∧ S a ∧ Reps G S H l xs f
  | .obj false c f l, v, fp => ∃ a dx fs, v = .ref a ∧ fp = [] ∧ H a = some (.ins (G.cl c) dx fs) ∧ ¬ S a ∧ fs.map (·.1) = f ∧ Reps G S H l (fs.map (·.2)) []
  | .obj true c f l, v, fp => ∃ a dx fs g, v = .ref a ∧ fp = a :: g ∧ H a = some (.ins (G.cl c) dx fs) ∧ S a ∧ fs.map (·.1) = f ∧ Reps G S H l (fs.map (·.2)) g
def Reps (G : Gd) (S : Addr → Prop) (H : Hp) : List D → List V → List Addr → Prop
  | [], xs, fp => xs = [] ∧ fp = []
  | d :: ds, xs, fp => ∃ v vs f g, xs = v :: vs ∧ fp = f ++ g ∧ Rep G S H d v f ∧ Reps G S H ds vs g
end

/-- a step: W what may be written; S, S' what is owned ahead and behind -/
structure Stp (W S : Addr → Prop) (H : Hp) (S' : Addr → Prop) (H' : Hp) : Prop where
  keep : ∀ a o, H a = some o → ¬ W a → H' a = some o
  back : ∀ a, H a ≠ none → S' a → S a
  stay : ∀ a, S a → ¬ W a → S' a
  live : ∀ a, H a ≠ none → H' a ≠ none

section
variable {G : Gd} {S S' S'' W W' : Addr → Prop} {H H' H'' : Hp}
theorem Stp.refl : Stp W S H S H := ⟨fun _ _ h _ => h, fun _ _ h => h, fun _ h _ => h, fun _ h => h⟩
theorem Stp.trans (a : Stp W S H S' H') (b : Stp W' S' H' S'' H'') (hw : ∀ c, W' c → W c ∨ H c = none) (hl : ∀ c, S c → H c ≠ none) : Stp W S H S'' H'' where
  keep := fun c o e n => b.keep c o (a.keep c o e n) fun z => (hw c z).elim n fun q => by rw [q] at e; cases e
  back := fun c e s => a.back c e (b.back c (a.live c e) s)
  stay := fun c s n => b.stay c (a.stay c s n) fun z => (hw c z).elim n (hl c s)
  live := fun c e => b.live c (a.live c e)
theorem Stp.wide (a : Stp W S H S' H') (h : ∀ c, W c → W' c) : Stp W' S H S' H' :=
  ⟨fun c o e n => a.keep c o e fun z => n (h c z), a.back, fun c s n => a.stay c s fun z => n (h c z), a.live⟩

/-! ### what stands for a datum goes on doing so -/
theorem Rd.keep {a : Addr} {u : HO} (h : Rd H a u) (k : ∀ o, H a = some o → H' a = some o) : Rd H' a u := by
  rcases h with h | ⟨o, h⟩
  · exact .inl (k _ h)
  · exact .inr ⟨o, k _ h⟩
theorem Rd.some {a : Addr} {u : HO} (h : Rd H a u) : H a ≠ none := by
  rcases h with h | ⟨o, h⟩ <;> rw [h] <;> exact fun z => by cases z
theorem ShT.move {a : Addr} {xs : List V} (h : ShT G S H a xs) (k : ∀ o, H a = .some o → ¬ S a → H' a = .some o) (n : H a ≠ none → ¬ S a → ¬ S' a) : ShT G S' H' a xs := by
  rcases h with ⟨h, s⟩ | h
  · exact .inl ⟨Rd.keep h fun o e => k o e s, n (Rd.some h) s⟩
  · exact .inr h
theorem LkL.move {a : Addr} {xs : List V} (h : LkL G S H a xs) (k : ∀ o, H a = .some o → ¬ S a → H' a = .some o) (n : H a ≠ none → ¬ S a → ¬ S' a) : LkL G S' H' a xs := by
  rcases h with ⟨h, s⟩ | h
  · exact .inl ⟨Rd.keep h fun o e => k o e s, n (Rd.some h) s⟩
  · exact .inr h
mutual
theorem Rep.move (k : ∀ a o, H a = .some o → ¬ S a → H' a = .some o) (n : ∀ a, H a ≠ none → ¬ S a → ¬ S' a) :
    ∀ (d : D) (v : V) (fp : List Addr), (∀ a ∈ fp, (∀ o, H a = .some o → H' a = .some o) ∧ (S a → S' a)) → Rep G S H d v fp → Rep G S' H' d v fp
  | .non, _, _, _, h => h
  | .bl _, _, _, _, h => h
  | .int _, _, _, _, h => h
  | .str _, _, _, _, h => h
  | .tup l, v, fp, q, h => by
    simp only [Rep] at h ⊢
    obtain ⟨a, xs, e, e2, x, r⟩ := h
    exact ⟨a, xs, e, e2, x.move (k a) (n a), Reps.move k n l xs [] (fun _ z => nomatch z) r⟩
  | .lst .lk l, v, fp, q, h => by
    simp only [Rep] at h ⊢
    obtain ⟨a, xs, e, e2, x, r⟩ := h
    exact ⟨a, xs, e, e2, x.move (k a) (n a), Reps.move k n l xs [] (fun _ z => nomatch z) r⟩
  | .lst .sh l, v, fp, q, h => by
    simp only [Rep] at h ⊢
    obtain ⟨a, xs, e, e2, x, s, r⟩ := h
    exact ⟨a, xs, e, e2, k a _ x s, n a (by rw [x]; exact fun z => nomatch z) s, Reps.move k n l xs [] (fun _ z => nomatch z) r⟩
  | .lst .own l, v, fp, q, h => by
    simp only [Rep] at h ⊢
    obtain ⟨a, xs, f, e, e2, x, s, r⟩ := h
    subst e2
    have qa := q a List.mem_cons_self
    exact ⟨a, xs, f, e, rfl, qa.1 _ x, qa.2 s, Reps.move k n l xs f (fun b hb => q b (List.mem_cons_of_mem _ hb)) r⟩
  | .obj false c f l, v, fp, q, h => by
    simp only [Rep] at h ⊢
    obtain ⟨a, dx, fs, e, e2, x, s, ef, r⟩ := h
    exact ⟨a, dx, fs, e, e2, k a _ x s, n a (by rw [x]; exact fun z => nomatch z) s, ef, Reps.move k n l _ [] (fun _ z => nomatch z) r⟩
  | .obj true c f l, v, fp, q, h => by
    simp only [Rep] at h ⊢
    obtain ⟨a, dx, fs, g, e, e2, x, s, ef, r⟩ := h
    subst e2
    have qa := q a List.mem_cons_self
    exact ⟨a, dx, fs, g, e, rfl, qa.1 _ x, qa.2 s, ef, Reps.move k n l _ g (fun b hb => q b (List.mem_cons_of_mem _ hb)) r⟩
theorem Reps.move (k : ∀ a o, H a = .some o → ¬ S a → H' a = .some o) (n : ∀ a, H a ≠ none → ¬ S a → ¬ S' a) :
    ∀ (ds : List D) (xs : List V) (fp : List Addr), (∀ a ∈ fp, (∀ o, H a = .some o → H' a = .some o) ∧ (S a → S' a)) → Reps G S H ds xs fp → Reps G S' H' ds xs fp
  | [], _, _, _, h => h
  | d :: ds, xs, fp, q, h => by
    simp only [Reps] at h ⊢
    obtain ⟨v, vs, f, g, e, e2, r, t⟩ := h
    subst e2
    exact ⟨v, vs, f, g, e, rfl, Rep.move k n d v f (fun b hb => q b (List.mem_append_left _ hb)) r, Reps.move k n ds vs g (fun b hb => q b (List.mem_append_right _ hb)) t⟩
end
/-- the frame: what a step does not write stands as it stood (what is owned by W may be written, but only by W's owners: su) -/
theorem Rep.frame {d : D} {v : V} {fp : List Addr} (h : Rep G S H d v fp) (st : Stp W S H S' H') (su : ∀ a, W a → S a ∨ H a = none) (q : ∀ a ∈ fp, ¬ W a) : Rep G S' H' d v fp :=
  Rep.move (fun a o e s => st.keep a o e fun w => (su a w).elim s fun z => by rw [z] at e; cases e) (fun a e s z => s (st.back a e z)) d v fp (fun a ha => ⟨fun o e => st.keep a o e (q a ha), fun s => st.stay a s (q a ha)⟩) h
theorem Reps.frame {d : List D} {v : List V} {fp : List Addr} (h : Reps G S H d v fp) (st : Stp W S H S' H') (su : ∀ a, W a → S a ∨ H a = none) (q : ∀ a ∈ fp, ¬ W a) : Reps G S' H' d v fp :=
  Reps.move (fun a o e s => st.keep a o e fun w => (su a w).elim s fun z => by rw [z] at e; cases e) (fun a e s z => s (st.back a e z)) d v fp (fun a ha => ⟨fun o e => st.keep a o e (q a ha), fun s => st.stay a s (q a ha)⟩) h
mutual
theorem Rep.owned : ∀ (d : D) (v : V) (fp : List Addr), Rep G S H d v fp → ∀ a ∈ fp, S a ∧ H a ≠ none
  | .non, _, _, h => by simp only [Rep] at h; rw [h.2]; exact fun _ z => nomatch z
  | .bl _, _, _, h => by simp only [Rep] at h; rw [h.2]; exact fun _ z => nomatch z
  | .int _, _, _, h => by simp only [Rep] at h; rw [h.2]; exact fun _ z => nomatch z
  | .str _, _, _, h => by simp only [Rep] at h; rw [h.2]; exact fun _ z => nomatch z
  | .tup l, v, fp, h => by
    simp only [Rep] at h
    obtain ⟨a, xs, e, e2, x, r⟩ := h
    rw [e2]; exact fun _ z => nomatch z
  | .lst .lk l, v, fp, h => by
    simp only [Rep] at h
    obtain ⟨a, xs, e, e2, x, r⟩ := h
    rw [e2]; exact fun _ z => nomatch z
  | .lst .sh l, v, fp, h => by
    simp only [Rep] at h
    obtain ⟨a, xs, e, e2, x, s, r⟩ := h
    rw [e2]; exact fun _ z => nomatch z
  | .lst .own l, v, fp, h => by
    simp only [Rep] at h
    obtain ⟨a, xs, f, e, e2, x, s, r⟩ := h
    rw [e2]
    intro b hb
    rcases List.mem_cons.mp hb with rfl | hb
    · exact ⟨s, by rw [x]; exact fun z => nomatch z⟩
    · exact Reps.owned l xs f r b hb
  | .obj false c f l, v, fp, h => by
    simp only [Rep] at h
    obtain ⟨a, dx, fs, e, e2, x, s, ef, r⟩ := h
    rw [e2]; exact fun _ z => nomatch z
  | .obj true c f l, v, fp, h => by
    simp only [Rep] at h
    obtain ⟨a, dx, fs, g, e, e2, x, s, ef, r⟩ := h
    rw [e2]
    intro b hb
    rcases List.mem_cons.mp hb with rfl | hb
    · exact ⟨s, by rw [x]; exact fun z => nomatch z⟩
    · exact Reps.owned l _ g r b hb
theorem Reps.owned : ∀ (ds : List D) (xs : List V) (fp : List Addr), Reps G S H ds xs fp → ∀ a ∈ fp, S a ∧ H a ≠ none
  | [], _, _, h => by simp only [Reps] at h; rw [h.2]; exact fun _ z => nomatch z
  | d :: ds, xs, fp, h => by
    simp only [Reps] at h
    obtain ⟨v, vs, f, g, e, e2, r, t⟩ := h
    rw [e2]
    intro b hb
    rcases List.mem_append.mp hb with hb | hb
    · exact Rep.owned d v f r b hb
    · exact Reps.owned ds vs g t b hb
end
mutual
/-- given up: nobody owns it any more -/
theorem Rep.clr (n : ∀ a, ¬ S a → ¬ S' a) : ∀ (d : D) (v : V) (fp : List Addr), (∀ a ∈ fp, ¬ S' a) → Rep G S H d v fp → Rep G S' H (clr d) v []
  | .non, _, _, _, h => by simp only [Rep, PyD.clr] at h ⊢; exact ⟨h.1, trivial⟩
  | .bl _, _, _, _, h => by simp only [Rep, PyD.clr] at h ⊢; exact ⟨h.1, trivial⟩
  | .int _, _, _, _, h => by simp only [Rep, PyD.clr] at h ⊢; exact ⟨h.1, trivial⟩
  | .str _, _, _, _, h => by simp only [Rep, PyD.clr] at h ⊢; exact ⟨h.1, trivial⟩
  | .tup l, v, fp, q, h => by
    simp only [Rep, PyD.clr] at h ⊢
    obtain ⟨a, xs, e, e2, x, r⟩ := h
    exact ⟨a, xs, e, trivial, x.move (fun o e _ => e) (fun _ s => n a s), Reps.move (fun _ _ e _ => e) (fun a _ s => n a s) l xs [] (fun _ z => nomatch z) r⟩
  | .lst .lk l, v, fp, q, h => by
    simp only [Rep, PyD.clr] at h ⊢
    obtain ⟨a, xs, e, e2, x, r⟩ := h
    exact ⟨a, xs, e, trivial, x.move (fun o e _ => e) (fun _ s => n a s), Reps.move (fun _ _ e _ => e) (fun a _ s => n a s) l xs [] (fun _ z => nomatch z) r⟩
  | .lst .sh l, v, fp, q, h => by
    simp only [Rep, PyD.clr] at h ⊢
    obtain ⟨a, xs, e, e2, x, s, r⟩ := h
    exact ⟨a, xs, e, trivial, x, n a s, Reps.move (fun _ _ e _ => e) (fun a _ s => n a s) l xs [] (fun _ z => nomatch z) r⟩
  | .lst .own l, v, fp, q, h => by
    simp only [Rep, PyD.clr] at h ⊢
    obtain ⟨a, xs, f, e, e2, x, s, r⟩ := h
    subst e2
    exact ⟨a, xs, e, trivial, x, q a List.mem_cons_self, Reps.clr n l xs f (fun b hb => q b (List.mem_cons_of_mem _ hb)) r⟩
  | .obj false c f l, v, fp, q, h => by
    simp only [Rep, PyD.clr] at h ⊢
    obtain ⟨a, dx, fs, e, e2, x, s, ef, r⟩ := h
    exact ⟨a, dx, fs, e, trivial, x, n a s, ef, Reps.move (fun _ _ e _ => e) (fun a _ s => n a s) l _ [] (fun _ z => nomatch z) r⟩
  | .obj true c f l, v, fp, q, h => by
    simp only [Rep, PyD.clr] at h ⊢
    obtain ⟨a, dx, fs, g, e, e2, x, s, ef, r⟩ := h
    subst e2
    exact ⟨a, dx, fs, e, trivial, x, q a List.mem_cons_self, ef, Reps.clr n l _ g (fun b hb => q b (List.mem_cons_of_mem _ hb)) r⟩
theorem Reps.clr (n : ∀ a, ¬ S a → ¬ S' a) : ∀ (ds : List D) (xs : List V) (fp : List Addr), (∀ a ∈ fp, ¬ S' a) → Reps G S H ds xs fp → Reps G S' H (clrs ds) xs []
  | [], _, _, _, h => by simp only [Reps, PyD.clrs] at h ⊢; exact ⟨h.1, trivial⟩
  | d :: ds, xs, fp, q, h => by
    simp only [Reps, PyD.clrs] at h ⊢
    obtain ⟨v, vs, f, g, e, e2, r, t⟩ := h
    subst e2
    exact ⟨v, vs, [], [], e, rfl, Rep.clr n d v f (fun b hb => q b (List.mem_append_left _ hb)) r, Reps.clr n ds vs g (fun b hb => q b (List.mem_append_right _ hb)) t⟩
end
theorem Rep.flat {d : D} {v : V} {fp : List Addr} (h : Rep G S H d v fp) (hf : flat d = true) : fp = [] := by
  cases d with
  | non => simp only [Rep] at h; exact h.2
  | bl _ => simp only [Rep] at h; exact h.2
  | int _ => simp only [Rep] at h; exact h.2
  | str _ => simp only [Rep] at h; exact h.2
  | tup l => simp only [Rep] at h; obtain ⟨_, _, _, e, _⟩ := h; exact e
  | lst o l =>
    cases o with
    | own => cases hf
    | sh => simp only [Rep] at h; obtain ⟨_, _, _, e, _⟩ := h; exact e
    | lk => simp only [Rep] at h; obtain ⟨_, _, _, e, _⟩ := h; exact e
  | obj o c f l =>
    cases o with
    | true => cases hf
    | false => simp only [Rep] at h; obtain ⟨_, _, _, _, e, _⟩ := h; exact e
theorem clr_flat {d : D} (hf : PyD.flat d = true) : PyD.clr d = d := by
  cases d with
  | lst o l =>
    cases o with
    | own => cases hf
    | sh => simp only [PyD.clr]
    | lk => simp only [PyD.clr]
  | obj o c f l =>
    cases o with
    | true => cases hf
    | false => simp only [PyD.clr]
  | _ => simp only [PyD.clr]
theorem Reps.flats : ∀ {ds : List D} {xs : List V} {fp : List Addr}, Reps G S H ds xs fp → PyD.flats ds = true → fp = []
  | [], _, _, h, _ => by simp only [Reps] at h; exact h.2
  | d :: ds, xs, fp, h, hf => by
    simp only [Reps] at h
    obtain ⟨v, vs, f, g, e, e2, r, t⟩ := h
    have h2 : (PyD.flat d && PyD.flats ds) = true := by simpa only [PyD.flats] using hf
    rw [Bool.and_eq_true] at h2
    rw [e2, Rep.flat r h2.1, Reps.flats t h2.2]; rfl
theorem Reps.length : ∀ {ds : List D} {xs : List V} {fp : List Addr}, Reps G S H ds xs fp → xs.length = ds.length
  | [], _, _, h => by simp only [Reps] at h; rw [h.1]; rfl
  | d :: ds, xs, fp, h => by
    simp only [Reps] at h
    obtain ⟨v, vs, f, g, e, e2, r, t⟩ := h
    rw [e, List.length_cons, List.length_cons, Reps.length t]
theorem Reps.get : ∀ {ds : List D} {xs : List V} {fp : List Addr} {i : Nat} {d : D}, Reps G S H ds xs fp → ds[i]? = some d → ∃ v f, xs[i]? = some v ∧ Rep G S H d v f ∧ ∀ a ∈ f, a ∈ fp
  | [], _, _, _, _, _, e => by simp at e
  | d :: ds, xs, fp, 0, d', h, e => by
    simp only [Reps] at h
    obtain ⟨v, vs, f, g, e1, e2, r, t⟩ := h
    simp at e; subst e
    exact ⟨v, f, by rw [e1]; rfl, r, fun a ha => by rw [e2]; exact List.mem_append_left _ ha⟩
  | d :: ds, xs, fp, i + 1, d', h, e => by
    simp only [Reps] at h
    obtain ⟨v, vs, f, g, e1, e2, r, t⟩ := h
    obtain ⟨v', f', q1, q2, q3⟩ := Reps.get (i := i) t (by simpa using e)
    exact ⟨v', f', by rw [e1]; simpa using q1, q2, fun a ha => by rw [e2]; exact List.mem_append_right _ (q3 a ha)⟩
theorem Reps.append : ∀ {ds es : List D} {xs ys : List V} {f g : List Addr}, Reps G S H ds xs f → Reps G S H es ys g → Reps G S H (ds ++ es) (xs ++ ys) (f ++ g)
  | [], _, _, _, _, _, h, h2 => by simp only [Reps] at h; rw [h.1, h.2]; exact h2
  | d :: ds, es, xs, ys, f, g, h, h2 => by
    simp only [Reps] at h
    obtain ⟨v, vs, f1, f2, e1, e2, r, t⟩ := h
    have := Reps.append t h2
    show Reps G S H (d :: (ds ++ es)) (xs ++ ys) (f ++ g)
    simp only [Reps]
    exact ⟨v, vs ++ ys, f1, f2 ++ g, by rw [e1]; rfl, by rw [e2, List.append_assoc], r, this⟩
theorem Reps.cons {d : D} {ds : List D} {v : V} {xs : List V} {f g : List Addr} (h : Rep G S H d v f) (h2 : Reps G S H ds xs g) : Reps G S H (d :: ds) (v :: xs) (f ++ g) := by
  simp only [Reps]; exact ⟨v, xs, f, g, rfl, rfl, h, h2⟩
theorem Reps.nil : Reps G S H [] [] [] := by simp only [Reps]; exact ⟨trivial, trivial⟩
theorem Reps.one {d : D} {v : V} {f : List Addr} (h : Rep G S H d v f) : Reps G S H [d] [v] f := by
  have := Reps.cons h (Reps.nil (G := G) (S := S) (H := H))
  rw [List.append_nil] at this
  exact this
end
end PyD

/-! The variables of a def beside its slots; what a step leaves; held values. -/
namespace PyD
open PySem PySem.Spec PyProof.Rows L2
abbrev Env := List (Option D)
abbrev Fp := Nat → List Addr
def Wf (fp : Fp) (a : Addr) : Prop := ∃ i, a ∈ fp i
def put (fp : Fp) (i : Nat) (f : List Addr) : Fp := fun j => if j = i then f else fp j
theorem put_same {fp : Fp} {i : Nat} {f : List Addr} : put fp i f i = f := if_pos rfl
theorem put_ne {fp : Fp} {i j : Nat} {f : List Addr} (h : j ≠ i) : put fp i f j = fp j := if_neg h

structure EnvOk (G : Gd) (S : Addr → Prop) (H : Hp) (σ : L2.St) (δ : Env) (fp : Fp) : Prop where
  len : σ.length = δ.length
  slot : ∀ (i : Nat) (d : D), δ[i]? = some (some d) → ∃ v, σ[i]? = some (some v) ∧ Rep G S H d v (fp i)
  nd : ∀ i, (fp i).Nodup
  dj : ∀ i j a, a ∈ fp i → a ∈ fp j → i = j
  su : ∀ i a, a ∈ fp i → S a
  lv : ∀ a, S a → H a ≠ none

/-- behind a step -/
structure Pst (G : Gd) (S : Addr → Prop) (H : Hp) (fp : Fp) (S' : Addr → Prop) (H' : Hp) (σ' : L2.St) (δ' : Env) (fp' : Fp) : Prop where
  env : EnvOk G S' H' σ' δ' fp'
  stp : Stp (Wf fp) S H S' H'
  new : ∀ i, ∀ a ∈ fp' i, Wf fp a ∨ H a = none
/-- a value in hand: it owns f, nothing of which a variable owns; f is new since (W, H), or was W's -/
structure Vp (G : Gd) (S : Addr → Prop) (H : Hp) (d : D) (v : V) (f : List Addr) (fp : Fp) (W0 : Addr → Prop) (H0 : Hp) : Prop where
  rep : Rep G S H d v f
  nd : f.Nodup
  dj : ∀ a ∈ f, ¬ Wf fp a
  new : ∀ a ∈ f, W0 a ∨ H0 a = none
structure Vps (G : Gd) (S : Addr → Prop) (H : Hp) (d : List D) (v : List V) (f : List Addr) (fp : Fp) (W0 : Addr → Prop) (H0 : Hp) : Prop where
  rep : Reps G S H d v f
  nd : f.Nodup
  dj : ∀ a ∈ f, ¬ Wf fp a
  new : ∀ a ∈ f, W0 a ∨ H0 a = none

section
variable {G : Gd} {S S1 S2 S' : Addr → Prop} {H H0 H1 H2 H' : Hp} {σ σ1 σ2 : L2.St} {δ δ1 δ2 : Env} {fp fp1 fp2 : Fp} {W0 : Addr → Prop} {d : D} {v : V} {f : List Addr}
theorem EnvOk.wf (E : EnvOk G S H σ δ fp) {a : Addr} (h : Wf fp a) : S a := let ⟨i, hi⟩ := h; E.su i a hi
theorem Pst.refl (E : EnvOk G S H σ δ fp) : Pst G S H fp S H σ δ fp := ⟨E, .refl, fun i a ha => .inl ⟨i, ha⟩⟩
theorem Pst.wf (p : Pst G S H fp S1 H1 σ1 δ1 fp1) {a : Addr} (h : Wf fp1 a) : Wf fp a ∨ H a = none := let ⟨i, hi⟩ := h; p.new i a hi
theorem none_of {a : Addr} (p : Stp W0 S H S1 H1) (h : H1 a = none) : H a = none := Classical.byContradiction fun z => p.live a z h
theorem Pst.trans (E : EnvOk G S H σ δ fp) (p : Pst G S H fp S1 H1 σ1 δ1 fp1) (q : Pst G S1 H1 fp1 S2 H2 σ2 δ2 fp2) : Pst G S H fp S2 H2 σ2 δ2 fp2 where
  env := q.env
  stp := p.stp.trans q.stp (fun c hc => p.wf hc) E.lv
  new := fun i a ha => (q.new i a ha).elim (fun z => p.wf z) fun z => .inr (none_of p.stp z)
/-- a value in hand stays behind a further step -/
theorem Vp.hold (x : Vp G S1 H1 d v f fp1 W0 H0) (E : EnvOk G S1 H1 σ1 δ1 fp1) (q : Pst G S1 H1 fp1 S2 H2 σ2 δ2 fp2) : Vp G S2 H2 d v f fp2 W0 H0 where
  rep := x.rep.frame q.stp (fun a w => .inl (E.wf w)) x.dj
  nd := x.nd
  dj := fun a ha w => (q.wf w).elim (x.dj a ha) (Rep.owned d v f x.rep a ha).2
  new := x.new
theorem Vps.hold {ds : List D} {vs : List V} (x : Vps G S1 H1 ds vs f fp1 W0 H0) (E : EnvOk G S1 H1 σ1 δ1 fp1) (q : Pst G S1 H1 fp1 S2 H2 σ2 δ2 fp2) : Vps G S2 H2 ds vs f fp2 W0 H0 where
  rep := x.rep.frame q.stp (fun a w => .inl (E.wf w)) x.dj
  nd := x.nd
  dj := fun a ha w => (q.wf w).elim (x.dj a ha) (Reps.owned ds vs f x.rep a ha).2
  new := x.new
/-- what is new since the later step is new since the earlier one -/
theorem Vp.since (x : Vp G S2 H2 d v f fp2 (Wf fp1) H1) (p : Pst G S H fp S1 H1 σ1 δ1 fp1) : Vp G S2 H2 d v f fp2 (Wf fp) H :=
  ⟨x.rep, x.nd, x.dj, fun a ha => (x.new a ha).elim (fun z => p.wf z) fun z => .inr (none_of p.stp z)⟩
theorem Vps.since {ds : List D} {vs : List V} (x : Vps G S2 H2 ds vs f fp2 (Wf fp1) H1) (p : Pst G S H fp S1 H1 σ1 δ1 fp1) : Vps G S2 H2 ds vs f fp2 (Wf fp) H :=
  ⟨x.rep, x.nd, x.dj, fun a ha => (x.new a ha).elim (fun z => p.wf z) fun z => .inr (none_of p.stp z)⟩
/-- two values in hand own different things -/
theorem Vp.apart {d' : D} {v' : V} {f' : List Addr} (x : Vp G S1 H1 d v f fp1 W0 H0) (y : Vp G S2 H2 d' v' f' fp2 (Wf fp1) H1) : ∀ a ∈ f, a ∉ f' := fun a ha hb =>
  (y.new a hb).elim (x.dj a ha) (Rep.owned d v f x.rep a ha).2
theorem Vp.apart' {ds : List D} {vs : List V} {f' : List Addr} (x : Vp G S1 H1 d v f fp1 W0 H0) (y : Vps G S2 H2 ds vs f' fp2 (Wf fp1) H1) : ∀ a ∈ f, a ∉ f' := fun a ha hb =>
  (y.new a hb).elim (x.dj a ha) (Rep.owned d v f x.rep a ha).2
theorem Vp.flat {fp : Fp} (r : Rep G S H d v []) : Vp G S H d v [] fp W0 H0 := ⟨r, List.nodup_nil, fun _ z => (nomatch z), fun _ z => (nomatch z)⟩
theorem Vps.nil {fp : Fp} : Vps G S H [] [] [] fp W0 H0 := ⟨Reps.nil, List.nodup_nil, fun _ z => (nomatch z), fun _ z => (nomatch z)⟩
theorem Vps.cons {ds : List D} {vs : List V} {f' : List Addr} (x : Vp G S H d v f fp W0 H0) (y : Vps G S H ds vs f' fp W0 H0) (ap : ∀ a ∈ f, a ∉ f') : Vps G S H (d :: ds) (v :: vs) (f ++ f') fp W0 H0 where
  rep := Reps.cons x.rep y.rep
  nd := List.nodup_append.mpr ⟨x.nd, y.nd, fun a ha b hb e => ap a ha (e ▸ hb)⟩
  dj := fun a ha => (List.mem_append.mp ha).elim (x.dj a) (y.dj a)
  new := fun a ha => (List.mem_append.mp ha).elim (x.new a) (y.new a)

/-- a new object at p, owned (b) or not -/
def addS (S : Addr → Prop) (b : Prop) (p : Addr) : Addr → Prop := fun a => S a ∨ (b ∧ a = p)
theorem stp_new {W : Addr → Prop} {b : Prop} {p : Addr} {o : HO} (h : H p = none) (hS : ¬ S p ∨ True) : Stp W S H (addS S b p) (upd H p o) where
  keep := fun a u e _ => by rw [upd_ne (ne_of_none e h)]; exact e
  back := fun a e s => s.elim id fun ⟨_, z⟩ => by rw [z] at e; exact absurd h e
  stay := fun a s _ => .inl s
  live := fun a e => by
    unfold upd
    split
    · exact fun z => nomatch z
    · exact e
theorem EnvOk.stp {W : Addr → Prop} (E : EnvOk G S H σ δ fp) (st : Stp W S H S' H') (su : ∀ a, W a → S a ∨ H a = none) (nw : ∀ a, W a → ¬ Wf fp a) (lv : ∀ a, S' a → H' a ≠ none) : EnvOk G S' H' σ δ fp where
  len := E.len
  slot := fun i d e => let ⟨v, e1, r⟩ := E.slot i d e; ⟨v, e1, r.frame st su fun a ha w => nw a w ⟨i, ha⟩⟩
  nd := E.nd
  dj := E.dj
  su := fun i a ha => st.stay a (E.su i a ha) fun w => nw a w ⟨i, ha⟩
  lv := lv
theorem lv_new {b : Prop} {p : Addr} {o : HO} (lv : ∀ a, S a → H a ≠ none) : ∀ a, addS S b p a → upd H p o a ≠ none := fun a s => by
  unfold upd
  split
  · exact fun z => nomatch z
  · rename_i n
    exact s.elim (lv a) fun z => absurd z.2 n
/-- a new object: the variables as they were -/
theorem EnvOk.new {b : Prop} {p : Addr} {o : HO} (E : EnvOk G S H σ δ fp) (h : H p = none) : Pst G S H fp (addS S b p) (upd H p o) σ δ fp := by
  have st : Stp (fun _ => False) S H (addS S b p) (upd H p o) := stp_new h (.inr trivial)
  exact ⟨E.stp st (fun _ z => z.elim) (fun _ z => z.elim) (lv_new E.lv), st.wide fun _ z => z.elim, fun i a ha => .inl ⟨i, ha⟩⟩
/-- what is in hand is given up: W = f -/
def subS (S : Addr → Prop) (f : List Addr) : Addr → Prop := fun a => S a ∧ a ∉ f
theorem stp_sub {f : List Addr} : Stp (· ∈ f) S H (subS S f) H :=
  ⟨fun _ _ e _ => e, fun _ _ s => s.1, fun a s n => ⟨s, n⟩, fun _ e => e⟩
theorem EnvOk.give {f : List Addr} (E : EnvOk G S H σ δ fp) (dj : ∀ a ∈ f, ¬ Wf fp a) (su : ∀ a ∈ f, S a) : EnvOk G (subS S f) H σ δ fp :=
  E.stp stp_sub (fun a ha => .inl (su a ha)) dj fun a s => E.lv a s.1
theorem Pst.give {f : List Addr} (E : EnvOk G S H σ δ fp) (p : Pst G S H fp S1 H1 σ1 δ1 fp1) (dj : ∀ a ∈ f, ¬ Wf fp1 a) (su : ∀ a ∈ f, S1 a) (nw : ∀ a ∈ f, Wf fp a ∨ H a = none) : Pst G S H fp (subS S1 f) H1 σ1 δ1 fp1 :=
  ⟨p.env.give dj su, p.stp.trans stp_sub nw E.lv, p.new⟩
/-- a variable's datum is exchanged -/
theorem EnvOk.set {i : Nat} (E : EnvOk G S H σ δ fp) (x : Vp G S H d v f fp W0 H0) (hi : i < δ.length) : EnvOk G S H (σ.set i (some v)) (δ.set i (some d)) (put fp i f) where
  len := by rw [List.length_set, List.length_set]; exact E.len
  slot := fun j d' e => by
    by_cases hj : j = i
    · subst hj
      rw [List.getElem?_set_self hi] at e
      cases e
      exact ⟨v, by rw [List.getElem?_set_self (by rw [E.len]; exact hi)], by rw [put_same]; exact x.rep⟩
    · rw [List.getElem?_set_ne (Ne.symm hj)] at e
      obtain ⟨w, e1, r⟩ := E.slot j d' e
      exact ⟨w, by rw [List.getElem?_set_ne (Ne.symm hj)]; exact e1, by rw [put_ne hj]; exact r⟩
  nd := fun j => by
    by_cases hj : j = i
    · rw [hj, put_same]; exact x.nd
    · rw [put_ne hj]; exact E.nd j
  dj := fun j k a ha hb => by
    by_cases hj : j = i
    · by_cases hk : k = i
      · rw [hj, hk]
      · rw [hj, put_same] at ha
        rw [put_ne hk] at hb
        exact absurd ⟨k, hb⟩ (x.dj a ha)
    · by_cases hk : k = i
      · rw [hk, put_same] at hb
        rw [put_ne hj] at ha
        exact absurd ⟨j, ha⟩ (x.dj a hb)
      · rw [put_ne hj] at ha
        rw [put_ne hk] at hb
        exact E.dj j k a ha hb
  su := fun j a ha => by
    by_cases hj : j = i
    · rw [hj, put_same] at ha; exact (Rep.owned d v f x.rep a ha).1
    · rw [put_ne hj] at ha; exact E.su j a ha
  lv := E.lv
theorem Pst.set {i : Nat} (p : Pst G S H fp S1 H1 σ1 δ1 fp1) (x : Vp G S1 H1 d v f fp1 (Wf fp) H) (hi : i < δ1.length) : Pst G S H fp S1 H1 (σ1.set i (some v)) (δ1.set i (some d)) (put fp1 i f) :=
  ⟨p.env.set x hi, p.stp, fun j a ha => by
    by_cases hj : j = i
    · rw [hj, put_same] at ha; exact x.new a ha
    · rw [put_ne hj] at ha; exact p.new j a ha⟩
/-- a variable's datum is taken away (the slot stays) -/
theorem EnvOk.take {i : Nat} (E : EnvOk G S H σ δ fp) (e : δ[i]? = some (some d)) : ∃ v, σ[i]? = some (some v) ∧ EnvOk G S H σ (δ.set i none) (put fp i []) ∧ Vp G S H d v (fp i) (put fp i []) (Wf fp) H := by
  obtain ⟨v, e1, r⟩ := E.slot i d e
  have hi : i < δ.length := (List.getElem?_eq_some_iff.mp e).1
  refine ⟨v, e1, ⟨by rw [List.length_set]; exact E.len, fun j d' e' => ?_, fun j => ?_, fun j k a ha hb => ?_, fun j a ha => ?_, E.lv⟩, r, E.nd i, fun a ha ⟨j, hj⟩ => ?_, fun a ha => .inl ⟨i, ha⟩⟩
  · by_cases hj : j = i
    · subst hj
      rw [List.getElem?_set_self hi] at e'
      cases e'
    · rw [List.getElem?_set_ne (Ne.symm hj)] at e'
      obtain ⟨w, e1, r⟩ := E.slot j d' e'
      exact ⟨w, e1, by rw [put_ne hj]; exact r⟩
  · by_cases hj : j = i
    · rw [hj, put_same]; exact List.nodup_nil
    · rw [put_ne hj]; exact E.nd j
  · by_cases hj : j = i
    · rw [hj, put_same] at ha; cases ha
    · by_cases hk : k = i
      · rw [hk, put_same] at hb; cases hb
      · rw [put_ne hj] at ha
        rw [put_ne hk] at hb
        exact E.dj j k a ha hb
  · by_cases hj : j = i
    · rw [hj, put_same] at ha; cases ha
    · rw [put_ne hj] at ha; exact E.su j a ha
  · by_cases hk : j = i
    · rw [hk, put_same] at hj; cases hj
    · rw [put_ne hk] at hj
      exact hk (E.dj j i a hj ha)
theorem Pst.take {i : Nat} (p : Pst G S H fp S1 H1 σ1 δ1 fp1) (e : δ1[i]? = some (some d)) : ∃ v, σ1[i]? = some (some v) ∧ Pst G S H fp S1 H1 σ1 (δ1.set i none) (put fp1 i []) ∧ Vp G S1 H1 d v (fp1 i) (put fp1 i []) (Wf fp) H := by
  obtain ⟨v, e1, E, x⟩ := p.env.take e
  refine ⟨v, e1, ⟨E, p.stp, fun j a ha => ?_⟩, x.rep, x.nd, x.dj, fun a ha => p.new i a ha⟩
  by_cases hj : j = i
  · rw [hj, put_same] at ha; cases ha
  · rw [put_ne hj] at ha; exact p.new j a ha
/-- .. and laid back, sealed or not -/
theorem EnvOk.back {i : Nat} (E : EnvOk G S H σ δ fp) (x : Vp G S H d v f fp W0 H0) (hi : i < δ.length) (e : σ[i]? = some (some v)) : EnvOk G S H σ (δ.set i (some d)) (put fp i f) := by
  have := E.set x hi
  have q : σ.set i (some v) = σ := by
    apply List.ext_getElem?
    intro j
    by_cases hj : j = i
    · subst hj; rw [List.getElem?_set_self (by rw [E.len]; exact hi), e]
    · rw [List.getElem?_set_ne (Ne.symm hj)]
  rw [q] at this
  exact this
theorem Pst.back {i : Nat} (p : Pst G S H fp S1 H1 σ1 δ1 fp1) (x : Vp G S1 H1 d v f fp1 (Wf fp) H) (hi : i < δ1.length) (e : σ1[i]? = some (some v)) : Pst G S H fp S1 H1 σ1 (δ1.set i (some d)) (put fp1 i f) :=
  ⟨p.env.back x hi e, p.stp, fun j a ha => by
    by_cases hj : j = i
    · rw [hj, put_same] at ha; exact x.new a ha
    · rw [put_ne hj] at ha; exact p.new j a ha⟩
end
end PyD

/-! The interpreter over pure data. «none» claims nothing. -/
namespace PyD
open PySem PySem.Spec PyProof.Rows L2

/-! ### operations on data -/
mutual
def toPy : D → PyData
  | .non => .none
  | .bl b => .bool b
  | .int i => .int i
  | .str s => .str s
  | .tup l => .tuple (toPys l)
  | .lst _ l => .list (toPys l)
  | .obj _ _ _ _ => .none
def toPys : List D → List PyData
  | [] => []
  | d :: ds => toPy d :: toPys ds
end
mutual
/-- None, bools, ints, texts, tuples and lists of these, n deep at most -/
def okD : Nat → D → Bool
  | _, .non => true
  | _, .bl _ => true
  | _, .int _ => true
  | _, .str s => PyData.strOk s
  | n + 1, .tup l => okDs n l
  | n + 1, .lst _ l => okDs n l
  | _, _ => false
def okDs : Nat → List D → Bool
  | _, [] => true
  | n, d :: ds => okD n d && okDs n ds
end
def eqD (x y : D) : Option Bool := if okD 60 x && okD 60 y then some (PyData.eqv (toPy x) (toPy y)) else none
def mulOk (i j : Int) : Bool := decide (-(2 ^ 64) < i ∧ i < 2 ^ 64) || (decide (-(2 ^ 64) < j ∧ j < 2 ^ 64) || decide (i.natAbs.log2 + j.natAbs.log2 < 1000000))
def divOk (j : Int) : Bool := decide (0 < j) && decide (j.natAbs.log2 < 9000)
def powOk (i j : Int) : Bool := decide (0 ≤ j) && (decide (j ≤ 1000000) && decide (i.natAbs < 2 ^ 64))
/-- how long a list may become -/
def line : Nat := 16777216
def notLk : Ow → Bool
  | .lk => false
  | _ => true
def binD : Operator → D → D → Option D
  | .Add, .int i, .int j => some (.int (i + j))
  | .Add, .str a, .str b => if a.length + b.length ≤ line then some (.str (a ++ b)) else none
  | .Add, .tup a, .tup b => if a.length + b.length ≤ line then some (.tup (a ++ b)) else none
  | .Add, .lst o a, .lst p b => if notLk o && notLk p && flats a && flats b && decide (a.length + b.length ≤ line) then some (.lst .own (a ++ b)) else none
  | .Sub, .int i, .int j => some (.int (i - j))
  | .Mult, .int i, .int j => if mulOk i j then some (.int (i * j)) else none
  | .FloorDiv, .int i, .int j => if divOk j then some (.int (i / j)) else none
  | .Mod, .int i, .int j => if decide (0 < j) then some (.int (i % j)) else none
  | .Pow, .int i, .int j => if powOk i j then some (.int (i ^ j.toNat)) else none
  | .LShift, .int i, .int j => if powOk i j then some (.int (i * 2 ^ j.toNat)) else none
  | .BitAnd, .int i, .int j => some (.int (Builtin.bitAnd i j))
  | _, _, _ => none
/-- scalars -/
def scaD : D → Option V
  | .non => some .non
  | .bl b => some (.bl b)
  | .int i => some (.int i)
  | .str s => some (.str s)
  | _ => none
def scaDs : List D → Option (List V)
  | [] => some []
  | d :: ds => match scaD d, scaDs ds with
    | some v, some vs => some (v :: vs)
    | _, _ => none
def inD (x : D) : D → Option Bool
  | .lst _ l => match scaD x, scaDs l with
    | some v, some vs => some (inV v vs)
    | _, _ => none
  | .tup l => match scaD x, scaDs l with
    | some v, some vs => some (inV v vs)
    | _, _ => none
  | .str b => match x with
    | .str a => some (!(Builtin.Str.occurrences b a 0 b.length 1).isEmpty)
    | _ => none
  | _ => none
def isNon : D → Bool
  | .non => true
  | _ => false
def cmpD : CmpOp → D → D → Option Bool
  | .Eq, x, y => eqD x y
  | .NotEq, x, y => (eqD x y).map not
  | .Lt, .int i, .int j => some (decide (i < j))
  | .LtE, .int i, .int j => some (decide (i ≤ j))
  | .Gt, .int i, .int j => some (decide (j < i))
  | .GtE, .int i, .int j => some (decide (j ≤ i))
  | .In, x, y => inD x y
  | .NotIn, x, y => (inD x y).map not
  | .Is, x, .non => some (isNon x)
  | .IsNot, x, .non => some (!isNon x)
  | _, _, _ => none
def ixD : D → D → Option D
  | .lst _ l, .int i => (atI l i).bind fun d => if flat d then some d else none
  | .tup l, .int i => atI l i
  | .str z, .int i => if z.length ≤ line then (atI z.cps.toList i).map fun c => .str ⟨#[c]⟩ else none
  | _, _ => none
def cutD (l : List D) (lo hi : Option Int) : List D := (l.drop (HT.sIx l.length 0 lo)).take (HT.sIx l.length l.length hi - HT.sIx l.length 0 lo)
def sliD : D → Option Int → Option Int → Option D
  | .lst _ l, lo, hi => if flats l then some (.lst .own (cutD l lo hi)) else none
  | .tup l, lo, hi => some (.tup (cutD l lo hi))
  | .str z, lo, hi => if z.length ≤ line then some (.str (cutS z lo hi)) else none
  | _, _, _ => none
def revD : D → Option D
  | .lst _ l => if flats l then some (.lst .own l.reverse) else none
  | _ => none
def intsD : List D → Option (List Int)
  | [] => some []
  | .int i :: ds => (intsD ds).map (i :: ·)
  | _ => none
def minI : List Int → Option Int
  | [] => none
  | x :: xs => some (xs.foldl (fun a b => if b < a then b else a) x)
def maxI : List Int → Option Int
  | [] => none
  | x :: xs => some (xs.foldl (fun a b => if b > a then b else a) x)
/-- the built-ins, by their names -/
def blt (x : Str) (as : List D) : Option D :=
  if x = "len" then (match as with
    | [.lst _ l] => some (.int l.length)
    | [.tup l] => some (.int l.length)
    | [.str z] => if z.length ≤ line then some (.int z.length) else none
    | _ => none)
  else if x = "abs" then (match as with
    | [.int i] => some (.int (if i < 0 then -i else i))
    | _ => none)
  else if x = "int" then (match as with
    | [.int i] => some (.int i)
    | [.bl k] => some (.int (if k then 1 else 0))
    | _ => none)
  else if x = "list" then (match as with
    | [.lst _ l] => if flats l then some (.lst .own l) else none
    | [.tup l] => some (.lst .own l)
    | _ => none)
  else if x = "tuple" then (match as with
    | [.lst _ l] => if flats l then some (.tup l) else none
    | [.tup l] => some (.tup l)
    | _ => none)
  else if x = "sum" then (match as with
    | [.lst _ l] => (intsD l).map fun ns => .int ns.sum
    | _ => none)
  else if x = "min" then (match as with
    | [.lst _ l] => ((intsD l).bind minI).map .int
    | [.int i, .int j] => some (.int (if j < i then j else i))
    | _ => none)
  else if x = "max" then (match as with
    | [.lst _ l] => ((intsD l).bind maxI).map .int
    | [.int i, .int j] => some (.int (if j > i then j else i))
    | _ => none)
  else none
def isTy : String → D → Option Bool
  | "int", .int _ => some true
  | "int", .bl _ => some true
  | "int", .non => some false
  | "int", .str _ => some false
  | "int", .tup _ => some false
  | "int", .lst _ _ => some false
  | "bool", .bl _ => some true
  | "bool", .int _ => some false
  | "bool", .non => some false
  | "bool", .str _ => some false
  | "bool", .tup _ => some false
  | "bool", .lst _ _ => some false
  | "tuple", .tup _ => some true
  | "tuple", .int _ => some false
  | "tuple", .bl _ => some false
  | "tuple", .non => some false
  | "tuple", .str _ => some false
  | "tuple", .lst _ _ => some false
  | "list", .lst _ _ => some true
  | "list", .int _ => some false
  | "list", .bl _ => some false
  | "list", .non => some false
  | "list", .str _ => some false
  | "list", .tup _ => some false
  | "str", .str _ => some true
  | "str", .int _ => some false
  | "str", .bl _ => some false
  | "str", .non => some false
  | "str", .tup _ => some false
  | "str", .lst _ _ => some false
  | _, _ => none
def tyNames : List (Str × String) := [("int", "int"), ("bool", "bool"), ("tuple", "tuple"), ("list", "list"), ("str", "str")]
def bltNames : List Str := ["len", "abs", "int", "list", "tuple", "sum", "min", "max"]

/-! ### expressions -/
abbrev Ev (α : Type) := Env → Option (α × Env)
def Ev.bind {α β : Type} (m : Ev α) (k : α → Ev β) : Ev β := fun δ => match m δ with
  | some (a, δ') => k a δ'
  | none => none
def Ev.ret {α : Type} (a : α) : Ev α := fun δ => some (a, δ)
def Ev.opt {α : Type} (a : Option α) : Ev α := fun δ => a.map fun x => (x, δ)
/-- a datum in hand, or a variable that is read when it is needed -/
inductive Ar where
  | val (d : D)
  | ref (i : Nat)
def look (δ : Env) : Ar → Option D
  | .val d => some d
  | .ref i => match δ[i]? with
    | some (some d) => some d
    | _ => none
def looks (δ : Env) : List Ar → Option (List D)
  | [] => some []
  | a :: as => match look δ a, looks δ as with
    | some d, some ds => some (d :: ds)
    | _, _ => none
/-- where one stands: the names by slot, the scope, the slots that are not to be stored, the defs (which params are handed by reference), the module's constants, the built-ins that are not rebound -/
structure Gc where
  N : List Str
  sc : Scope
  fx : List Nat
  call : Str → List D → Option (D × List (Option D))
  mode : Str → Option (List Bool)
  con : Str → Option D
  free : List Str
  fuel : Nat
def ixOf (x : Str) : List Str → Nat → Option Nat
  | [], _ => none
  | y :: r, i => if y = x then some i else ixOf x r (i + 1)
def vis (k : Option NameKind) : Bool := match k with
  | some .local => true
  | some .cell => true
  | some .free => true
  | _ => false
def locK (k : Option NameKind) : Bool := match k with
  | some .local => true
  | some .cell => true
  | _ => false
def glK (k : Option NameKind) : Bool := match k with
  | some .globalImplicit => true
  | _ => false
def okName (x : Str) : Bool := !(x == ("__debug__" : Str)) && !(x == ("__classdict__" : Str))
def Gc.slot (G : Gc) (x : Str) : Option Nat := if vis (G.sc.names.lookup x) && okName x then ixOf x G.N 0 else none
def Gc.gl (G : Gc) (x : Str) : Bool := glK (G.sc.names.lookup x) && okName x
def Gc.isFree (G : Gc) (x : Str) : Bool := G.gl x && G.free.contains x
/-- a variable as a value: what it owns is given up -/
def rdN (i : Nat) : Ev D := fun δ => match δ[i]? with
  | some (some d) => if flat d then some (d, δ) else some (clr d, δ.set i (some (clr d)))
  | _ => none
def Gc.name (G : Gc) (x : Str) : Ev D := match G.slot x with
  | some i => rdN i
  | none => if G.gl x then Ev.opt (G.con x) else fun _ => none
def asBl (d : D) : Option Bool := match d with
  | .bl b => some b
  | _ => none
def asInt (d : D) : Option Int := match d with
  | .int i => some i
  | _ => none
/-- the handed variables' data are laid back -/
def backs : List Ar → List (Option D) → Env → Env
  | .ref i :: as, o :: os, δ => backs as os (δ.set i o)
  | .val _ :: as, _ :: os, δ => backs as os δ
  | _, _, δ => δ
def refsOf : List Ar → List Nat
  | [] => []
  | .ref i :: as => i :: refsOf as
  | .val _ :: as => refsOf as
/-- an argument: a value handed by value is sealed -/
def sealA : List Ar → List Bool → List Ar
  | .val d :: as, true :: bs => .val d :: sealA as bs
  | .val d :: as, false :: bs => .val (clr d) :: sealA as bs
  | .ref i :: as, _ :: bs => .ref i :: sealA as bs
  | as, [] => as
  | [], _ => []
def takes : List Ar → Env → Env
  | [], δ => δ
  | .ref i :: as, δ => takes as (δ.set i none)
  | .val _ :: as, δ => takes as δ
def callA (call : Str → List D → Option (D × List (Option D))) (f : Str) (as : List Ar) : Ev D := fun δ =>
  if decide (refsOf as).Nodup then match looks δ as with
    | some ds => match call f ds with
      | some (d, os) => if os.length = as.length then some (d, backs as os (takes as δ)) else none
      | none => none
    | none => none
  else none
/-- what a loop walks -/
inductive Src where
  | seq (l : List D)
  | rng (lo : Int) (n : Nat)
def srcOf : D → Option Src
  | .lst _ l => some (.seq (clrs l))
  | .tup l => some (.seq l)
  | _ => none
def Src.items : Src → List D
  | .seq l => l
  | .rng lo n => (List.range n).map fun i => .int (lo + (i : Nat))
def rngOk (i : Int) : Bool := decide (-(2 ^ 62) ≤ i) && decide (i < 2 ^ 62)
def plainT : Expr → Bool
  | .Starred _ _ => false
  | _ => true
/-- a target is filled -/
def flN (i : Nat) (d : D) (δ : Env) : Option Env := if decide (i < δ.length) then some (δ.set i (some d)) else none
def flTs : List (D → Env → Option Env) → List D → Env → Option Env
  | [], [], δ => some δ
  | f :: fs, d :: ds, δ => match f d δ with
    | some δ' => flTs fs ds δ'
    | none => none
  | _, _, _ => none
def flT (fs : List (D → Env → Option Env)) (d : D) (δ : Env) : Option Env := match d with
  | .tup l => if l.length = fs.length then flTs fs l δ else none
  | _ => none
def flNo (_ : D) (_ : Env) : Option Env := none
def Gc.fill (G : Gc) : Nat → Expr → D → Env → Option Env
  | 0, _ => flNo
  | n + 1, .Name x _ => match G.slot x with
    | some i => if locK (G.sc.names.lookup x) && !G.fx.contains i then flN i else flNo
    | none => flNo
  | n + 1, .Tuple es _ _ => if es.all plainT then flT (es.map (G.fill n)) else flNo
  | _ + 1, _ => flNo
/-- the slots of a block's own names -/
def ownOf (N : List Str) : List (Str × NameKind) → List (Str × Nat)
  | [] => []
  | (x, k) :: r => match locK (some k), ixOf x N 0 with
    | true, some i => (x, i) :: ownOf N r
    | _, _ => ownOf N r
def wipeD (δ : Env) : List Nat → Env
  | [] => δ
  | v :: vs => (wipeD δ vs).set v none
/-- behind a block: its own names' slots as they were ahead -/
def flatO (o : Option (Option D)) : Option D := match o with
  | some (some d) => if flat d then some d else none
  | _ => none
def mendD (δ0 δ : Env) : List Nat → Env
  | [] => δ
  | v :: vs => (mendD δ0 δ vs).set v (flatO δ0[v]?)
/-- the loop of a list comprehension -/
def compL (fill : D → Env → Option Env) (test : Ev Bool) (elt : Ev D) (vs : List Nat) : List D → List D → Ev (List D)
  | [], acc, δ => some (acc, δ)
  | d :: ds, acc, δ => match fill d δ with
    | some δ1 => match test δ1 with
      | some (true, δ2) => match elt δ2 with
        | some (x, δ3) => if acc.length < line then compL fill test elt vs ds (acc ++ [x]) (wipeD δ3 vs) else none
        | none => none
      | some (false, δ2) => compL fill test elt vs ds acc (wipeD δ2 vs)
      | none => none
    | none => none

/-- indices that are no slices -/
def plainIx : Expr → Bool
  | .Slice _ _ _ _ => false
  | _ => true
/-- a test by the truth of its value -/
def noComp : Expr → Bool
  | .ListComp _ _ _ _ => false
  | .SetComp _ _ _ _ => false
  | .DictComp _ _ _ _ _ => false
  | _ => true
def noTup : Expr → Bool
  | .Tuple _ _ _ => false
  | .ListComp _ _ _ _ => false
  | .SetComp _ _ _ _ => false
  | .DictComp _ _ _ _ _ => false
  | _ => true
def testable : Expr → Bool
  | .Call _ _ _ _ => true
  | .Name _ _ => true
  | .Subscript _ _ _ => true
  | .Constant _ _ _ => true
  | .Attribute _ _ _ => true
  | _ => false

/-! combinators -/
/-- an operand: where the flag is set a variable's name is looked at late -/
def opnd (G : Gc) (e : Expr) (m : Bool) (v : Ev D) : Ev Ar := fun δ => match (match e, m with | .Name x _, true => G.slot x | _, _ => none) with
  | some i => (look δ (.ref i)).map fun _ => (.ref i, δ)
  | none => (v δ).map fun p => (.val p.1, p.2)
def args (G : Gc) (v : Expr → Ev D) : List Expr → List Bool → Ev (List Ar)
  | [], _ => Ev.ret []
  | e :: es, ms => fun δ => match opnd G e (ms.headD false) (v e) δ with
    | some (a, δ1) => (args G v es ms.tail δ1).map fun p => (a :: p.1, p.2)
    | none => none
def op1 (ra : Ev Ar) (f : D → Option D) : Ev D := fun δ => match ra δ with
  | some (x, δ1) => match look δ1 x with
    | some u => (f u).map fun d => (d, δ1)
    | none => none
  | none => none
def op2 (ra rb : Ev Ar) (f : D → D → Option D) : Ev D := fun δ => match ra δ with
  | some (x, δ1) => match rb δ1 with
    | some (y, δ2) => match look δ2 x, look δ2 y with
      | some u, some v => (f u v).map fun d => (d, δ2)
      | _, _ => none
    | none => none
  | none => none
def negD : D → Option D
  | .int i => some (.int (-i))
  | _ => none
def chainC (va vb vc : Ev D) (f g : D → D → Option Bool) : Ev D := fun δ => match va δ with
  | some (.int i, δ1) => match vb δ1 with
    | some (.int j, δ2) => match f (.int i) (.int j) with
      | some true => match vc δ2 with
        | some (.int k, δ3) => (g (.int j) (.int k)).map fun r => (.bl r, δ3)
        | _ => none
      | some false => some (.bl false, δ2)
      | none => none
    | _ => none
  | _ => none
def andC (va vb : Ev D) : Ev D := fun δ => match va δ with
  | some (.bl true, δ1) => vb δ1
  | some (.bl false, δ1) => some (.bl false, δ1)
  | _ => none
def orC (va vb : Ev D) : Ev D := fun δ => match va δ with
  | some (.bl false, δ1) => vb δ1
  | some (.bl true, δ1) => some (.bl true, δ1)
  | _ => none
def iteC {α : Type} (c : Ev Bool) (a b : Ev α) : Ev α := fun δ => match c δ with
  | some (true, δ1) => a δ1
  | some (false, δ1) => b δ1
  | none => none
def notC (c : Ev Bool) : Ev Bool := fun δ => (c δ).map fun p => (!p.1, p.2)
def blC (c : Ev Bool) : Ev D := fun δ => (c δ).map fun p => (.bl p.1, p.2)
def asT (m : Ev D) : Ev Bool := fun δ => match m δ with
  | some (.bl b, δ') => some (b, δ')
  | _ => none
/-- a display -/
def dispC (as : Ev (List Ar)) (f : List D → D) : Ev D := fun δ => match as δ with
  | some (l, δ1) => match looks δ1 l with
    | some ds => if ds.length ≤ line then some (f ds, δ1) else none
    | none => none
  | none => none
def optC (v : Expr → Ev D) : Option Expr → Ev (Option Int)
  | none => Ev.ret none
  | some e => fun δ => match v e δ with
    | some (.int i, δ') => some (some i, δ')
    | _ => none
def sliC (ra : Ev Ar) (lo hi : Ev (Option Int)) : Ev D := fun δ => match ra δ with
  | some (x, δ1) => match lo δ1 with
    | some (l, δ2) => match hi δ2 with
      | some (h, δ3) => match look δ3 x with
        | some u => (sliD u l h).map fun d => (d, δ3)
        | none => none
      | none => none
    | none => none
  | none => none
/-- a call of a built-in -/
def bltC (as : Ev (List Ar)) (f : List D → Option D) : Ev D := fun δ => match as δ with
  | some (l, δ1) => match looks δ1 l with
    | some ds => (f ds).map fun d => (d, δ1)
    | none => none
  | none => none
def callC (as : Ev (List Ar)) (call : Str → List D → Option (D × List (Option D))) (f : Str) (ms : List Bool) : Ev D := fun δ => match as δ with
  | some (l, δ1) => callA call f (sealA l ms) δ1
  | none => none
/-- what a for walks -/
def rngE (e : Expr) : Option (List Expr) := match e with
  | .Call (.Name r _) rs [] _ => if r = "range" then some rs else none
  | _ => none
def srcC (G : Gc) (v : Expr → Ev D) (e : Expr) : Ev Src := match rngE e with
  | some rs => if G.isFree "range" then (match rs with
    | [b] => fun δ => match v b δ with
      | some (.int j, δ1) => if rngOk j then some (.rng 0 j.toNat, δ1) else none
      | _ => none
    | [a, b] => fun δ => match v a δ with
      | some (.int i, δ1) => match v b δ1 with
        | some (.int j, δ2) => if rngOk i && rngOk j then some (.rng i (j - i).toNat, δ2) else none
        | _ => none
      | _ => none
    | _ => fun _ => none) else fun _ => none
  | none => fun δ => match v e δ with
    | some (d, δ1) => (srcOf d).map fun s => (s, δ1)
    | none => none
def testsC (t : Expr → Ev Bool) : List Expr → Ev Bool
  | [] => Ev.ret true
  | [c] => t c
  | _ => fun _ => none
def compC (src : Ev Src) (fill : D → Env → Option Env) (test : Ev Bool) (elt : Ev D) (vs : List Nat) : Ev D := fun δ => match src δ with
  | some (s, δ1) => match compL fill test (fun δ => (elt δ).map fun p => (clr p.1, p.2)) vs s.items [] (wipeD δ1 vs) with
    | some (l, δ2) => some (.lst .own l, mendD δ1 δ2 vs)
    | none => none
  | none => none
/-- list(range(..)), tuple(range(..)) -/
def lrC (src : Ev Src) (f : List D → D) : Ev D := fun δ => match src δ with
  | some (.rng lo k, δ1) => if k ≤ line then some (f (Src.rng lo k).items, δ1) else none
  | _ => none
def isRev : Expr → Bool
  | .Slice none none (some (.UnaryOp .USub (.Constant (.int 1) _ _) _)) _ => true
  | _ => false
def conD : Const → Option D
  | .int i => some (.int i)
  | .bool b => some (.bl b)
  | .none => some .non
  | .str s => some (.str s)
  | _ => none
def isiC (G : Gc) (v : Expr → Ev D) (es : List Expr) : Ev D := match es with
  | [a, .Name t _] => if G.isFree "isinstance" && G.isFree t then (match tyNames.lookup t with
    | some T => op1 (opnd G a true (v a)) fun u => (isTy T u).map .bl
    | none => fun _ => none) else fun _ => none
  | _ => fun _ => none
def rng1 : List Expr → Bool
  | [e] => (rngE e).isSome
  | _ => false
def bltE (G : Gc) (v : Expr → Ev D) (f : Str) (es : List Expr) : Ev D :=
  if (decide (f = "list") || decide (f = "tuple")) && rng1 es then (match es with
    | [e] => lrC (srcC G v e) (if f = "list" then .lst .own else .tup)
    | _ => fun _ => none)
  else if bltNames.contains f && !es.isEmpty then bltC (args G v es [true, true]) (blt f)
  else fun _ => none
def userE (G : Gc) (v : Expr → Ev D) (f : Str) (es : List Expr) (ms : List Bool) : Ev D :=
  if ms.length = es.length then callC (args G v es ms) G.call f ms else fun _ => none
def cmpC (G : Gc) (v : Expr → Ev D) (a : Expr) (op : CmpOp) (b : Expr) : Ev D := if behindInMarks op b then fun _ => none else op2 (opnd G a true (v a)) (opnd G b true (v b)) fun u v => (cmpD op u v).map .bl
def chnC (v : Expr → Ev D) (a : Expr) (op op2 : CmpOp) (b c : Expr) : Ev D := if lastMarks [op, op2] [b, c] then fun _ => none else chainC (v a) (v b) (v c) (cmpD op) (cmpD op2)
mutual
/-- an expression as a value -/
def ev : Nat → Gc → Expr → Ev D
  | 0, _, _ => fun _ => none
  | _ + 1, _, .Constant c _ _ => Ev.opt (conD c)
  | _ + 1, G, .Name x _ => G.name x
  | n + 1, G, .BinOp a op b _ => op2 (opnd G a true (ev n G a)) (opnd G b true (ev n G b)) (binD op)
  | n + 1, G, .UnaryOp .USub a _ => op1 (opnd G a true (ev n G a)) negD
  | n + 1, G, .UnaryOp .Not a _ => blC (notC (asT (ev n G a)))
  | n + 1, G, .Compare a [op] [b] _ => cmpC G (ev n G) a op b
  | n + 1, G, .Compare a [op, op2] [b, c] _ => chnC (ev n G) a op op2 b c
  | n + 1, G, .BoolOp _ [a] _ => ev n G a
  | n + 1, G, .BoolOp .And (a :: b :: r) p => andC (ev n G a) (ev n G (.BoolOp .And (b :: r) p))
  | n + 1, G, .BoolOp .Or (a :: b :: r) p => orC (ev n G a) (ev n G (.BoolOp .Or (b :: r) p))
  | n + 1, G, .IfExp c a b _ => iteC (tst n G c) (ev n G a) (ev n G b)
  | n + 1, G, .Tuple es _ _ => dispC (args G (ev n G) es []) fun ds => .tup (clrs ds)
  | n + 1, G, .List es _ => dispC (args G (ev n G) es []) (.lst .own)
  | n + 1, G, .Subscript a (.Slice lo hi none _) _ => sliC (opnd G a true (ev n G a)) (optC (ev n G) lo) (optC (ev n G) hi)
  | n + 1, G, .Subscript a i _ => if isRev i then op1 (opnd G a true (ev n G a)) revD
      else if plainIx i then op2 (opnd G a true (ev n G a)) (opnd G i true (ev n G i)) ixD
      else fun _ => none
  | n + 1, G, .Call (.Name f _) es [] _ =>
      if f = "isinstance" then isiC G (ev n G) es
      else if G.gl f then (match G.mode f with
        | some ms => userE G (ev n G) f es ms
        | none => if G.isFree f then bltE G (ev n G) f es else fun _ => none)
      else fun _ => none
  | n + 1, G, .ListComp elt [⟨tg, iter, ifs, 0⟩] scope _ =>
      if blkC G.N G.sc scope (ownOf G.N scope.names) then
        compC (srcC G (ev n G) iter) (Gc.fill { G with sc := scope } n tg) (testsC (tst n { G with sc := scope }) ifs) (ev n { G with sc := scope } elt) ((ownOf G.N scope.names).map (·.2))
      else fun _ => none
  | _ + 1, _, _ => fun _ => none
/-- a test -/
def tst : Nat → Gc → Expr → Ev Bool
  | 0, _, _ => fun _ => none
  | n + 1, G, .UnaryOp .Not a _ => notC (tst n G a)
  | n + 1, G, .BoolOp _ [a] _ => tst n G a
  | n + 1, G, .BoolOp .And (a :: b :: r) p => iteC (tst n G a) (tst n G (.BoolOp .And (b :: r) p)) (Ev.ret false)
  | n + 1, G, .BoolOp .Or (a :: b :: r) p => iteC (tst n G a) (Ev.ret true) (tst n G (.BoolOp .Or (b :: r) p))
  | n + 1, G, .Compare a [op] [b] _ => asT (cmpC G (ev n G) a op b)
  | n + 1, G, .Compare a [op, op2] [b, c] _ => asT (chnC (ev n G) a op op2 b c)
  | n + 1, G, e => if testable e then asT (ev n G e) else fun _ => none
end

/-! ### statements -/
inductive Fl where
  | nx | bk | ct
  | rt (d : D)
abbrev Ex := Env → Option (Fl × Env)
/-- a def's value handed back: an own variable goes with it -/
def Gc.retE (G : Gc) (n : Nat) (e : Expr) : Ev D := fun δ => match (match e with | .Name x _ => G.slot x | _ => none) with
  | some i => if G.fx.contains i then ev n G e δ else (match δ[i]? with
    | some (some d) => some (d, δ.set i none)
    | _ => none)
  | none => ev n G e δ
def forL (fill : D → Env → Option Env) (body : Ex) : List D → Ex
  | [], δ => some (.nx, δ)
  | d :: ds, δ => match fill d δ with
    | some δ1 => match body δ1 with
      | some (.nx, δ2) => forL fill body ds δ2
      | some (.ct, δ2) => forL fill body ds δ2
      | some (.bk, δ2) => some (.nx, δ2)
      | some (.rt r, δ2) => some (.rt r, δ2)
      | none => none
    | none => none
def whiL (test : Ev Bool) (body : Ex) : Nat → Ex
  | 0, _ => none
  | k + 1, δ => match test δ with
    | some (false, δ1) => some (.nx, δ1)
    | some (true, δ1) => match body δ1 with
      | some (.nx, δ2) => whiL test body k δ2
      | some (.ct, δ2) => whiL test body k δ2
      | some (.bk, δ2) => some (.nx, δ2)
      | some (.rt r, δ2) => some (.rt r, δ2)
      | none => none
    | none => none
/-- a comprehension stored at once: on the name's line, the name not its own -/
def lcOk (G : Gc) (x : Str) (p : Pos) : Expr → Bool
  | .ListComp _ _ scope pos => (match G.sc.names.lookup x with | some .local => true | _ => false) && (p.line == pos.line) && !(scope.names.any fun (n, k) => n == x && (k == .local || k == .cell))
  | _ => false
def loK (k : Option NameKind) : Bool := match k with
  | some .local => true
  | _ => false
/-- two plain names stored by turns -/
def swpB (G : Gc) (x y : Str) (px py : Pos) (a b : Expr) : Bool :=
  loK (G.sc.names.lookup x) && loK (G.sc.names.lookup y) && (px.line == py.line) && !(x == y) && plainT a && plainT b && !(foldedForSure 8 a && foldedForSure 8 b) && !(constantsAlone 8 a && constantsAlone 8 b)
/-- two constants -/
def cstB (a b : Expr) : Bool := plainT a && plainT b && foldedForSure 8 a && foldedForSure 8 b
def Gc.loc (G : Gc) (x : Str) : Option Nat := match G.slot x with
  | some i => if locK (G.sc.names.lookup x) && !G.fx.contains i then some i else none
  | none => none
def setIx (d i v : D) : Option D := match d, i with
  | .lst .own l, .int k => (ixN l.length k).map fun j => .lst .own (l.set j v)
  | _, _ => none
/-- name[i] = e -/
def subC (ve vi : Ev D) (j : Nat) : Ex := fun δ => match ve δ with
  | some (v, δ1) => match look δ1 (.ref j) with
    | some _ => match vi δ1 with
      | some (k, δ2) => match look δ2 (.ref j) with
        | some d => match setIx d k v with
          | some d' => some (.nx, δ2.set j (some d'))
          | none => none
        | none => none
      | none => none
    | none => none
  | none => none
/-- name.append(e) -/
def appC (ve : Ev D) (j : Nat) : Ex := fun δ => match look δ (.ref j) with
  | some (.lst .own _) => match ve δ with
    | some (v, δ') => match look δ' (.ref j) with
      | some (.lst .own l) => if l.length < line then some (.nx, δ'.set j (some (.lst .own (l ++ [v])))) else none
      | _ => none
    | none => none
  | _ => none
/-- name = e -/
def asgC (ve : Ev D) (fill : D → Env → Option Env) : Ex := fun δ => match ve δ with
    | some (d, δ') => (fill d δ').map fun δ2 => (Fl.nx, δ2)
    | none => none
def parC (va : Ev (List Ar)) (i j : Nat) : Ex := fun δ => match va δ with
      | some ([.val u, .val v], δ2) => if i < δ2.length ∧ j < δ2.length then some (.nx, (δ2.set i (some u)).set j (some v)) else none
      | _ => none
/-- (a, b, ..) = e -/
def tupC (G : Gc) (v : Expr → Ev D) (fill : Expr → D → Env → Option Env) (es : List Expr) (k : Nat) (p : Pos) (e : Expr) : Ex := match es, e with
  | [.Name x px, .Name y py], .Tuple [a, b] k2 p2 => if swpB G x y px py a b then (match G.loc x, G.loc y with
    | some i, some j => if i ≠ j then parC (args G v [a, b] []) i j else fun _ => none
    | _, _ => fun _ => none)
    else if cstB a b then asgC (v (.Tuple [a, b] k2 p2)) (fill (.Tuple [.Name x px, .Name y py] k p)) else fun _ => none
  | es, e => if noTup e then asgC (v e) (fill (.Tuple es k p)) else fun _ => none
def nxS : Ex := fun δ => some (.nx, δ)
def bkS : Ex := fun δ => some (.bk, δ)
def ctS : Ex := fun δ => some (.ct, δ)
def rnS : Ex := fun δ => some (.rt .non, δ)
def noS : Ex := fun _ => none
def retS (v : Ev D) : Ex := fun δ => match v δ with
  | some (d, δ') => some (.rt d, δ')
  | none => none
def cndS (t : Ev Bool) (a b : Ex) : Ex := fun δ => match t δ with
  | some (true, δ') => a δ'
  | some (false, δ') => b δ'
  | none => none
def forS (src : Ev Src) (fill : D → Env → Option Env) (body : Ex) : Ex := fun δ => match src δ with
  | some (s, δ1) => forL fill body s.items δ1
  | none => none
def augS (op : Operator) (i : Nat) (ve : Ev D) : Ex := fun δ => match look δ (.ref i) with
  | some (.int a) => match ve δ with
    | some (.int b, δ') => match op with
      | .Add => some (.nx, δ'.set i (some (.int (a + b))))
      | .Sub => some (.nx, δ'.set i (some (.int (a - b))))
      | _ => none
    | _ => none
  | _ => none
def seqS (a b : Ex) : Ex := fun δ => match a δ with
  | some (.nx, δ') => b δ'
  | r => r
mutual
def ex : Nat → Gc → Stmt → Ex
  | 0, _, _ => fun _ => none
  | _ + 1, _, .Pass _ => nxS
  | _ + 1, _, .Break _ => bkS
  | _ + 1, _, .Continue _ => ctS
  | n + 1, G, .Return (some e) _ => retS (G.retE n e)
  | _ + 1, _, .Return none _ => rnS
  | n + 1, G, .If c a b _ => cndS (tst n G c) (exs n G a) (exs n G b)
  | n + 1, G, .For tg iter body [] _ => forS (srcC G (ev n G) iter) (G.fill n tg) (exs n G body)
  | n + 1, G, .While c body [] _ => whiL (tst n G c) (exs n G body) G.fuel
  | n + 1, G, .Assign [.Subscript (.Name x _) i _] e _ => if plainIx i && noComp e then (match G.slot x with
    | some j => subC (ev n G e) (ev n G i) j
    | none => fun _ => none) else fun _ => none
  | n + 1, G, .Assign [.Name x p] e _ => if noComp e || lcOk G x p e then asgC (ev n G e) (G.fill 1 (.Name x p)) else fun _ => none
  | n + 1, G, .Assign [.Tuple es k p] e _ => tupC G (ev n G) (G.fill n) es k p e
  | n + 1, G, .AugAssign (.Name x _) op e _ => match G.loc x with
    | some i => augS op i (ev n G e)
    | none => noS
  | n + 1, G, .Expr (.Call (.Attribute (.Name x _) m ap) [e] [] cp) _ => if m = "append" ∧ (ap.endLine == cp.line) = true ∧ plainT e = true then (match G.slot x with
    | some j => appC (ev n G e) j
    | none => fun _ => none) else fun _ => none
  | _ + 1, _, _ => fun _ => none
def exs : Nat → Gc → List Stmt → Ex
  | 0, _, _ => fun _ => none
  | _ + 1, _, [] => nxS
  | n + 1, G, s :: ss => seqS (ex n G s) (exs n G ss)
end
/-- a def -/
structure Df where
  ps : Nat
  N : List Str
  sc : Scope
  body : List Stmt
  fx : List Nat
/-- what all defs share -/
structure Tb where
  defs : List (Str × Df)
  con : Str → Option D
  free : List Str
  fuel : Nat
  deep : Nat
def modeOf (df : Df) : List Bool := (List.range df.ps).map fun j => df.fx.contains j
def Tb.mode (T : Tb) (f : Str) : Option (List Bool) := (T.defs.lookup f).map modeOf
def Tb.gc (T : Tb) (df : Df) (call : Str → List D → Option (D × List (Option D))) : Gc := ⟨df.N, df.sc, df.fx, call, T.mode, T.con, T.free, T.fuel⟩
def outsOf (df : Df) (δ : Env) : List (Option D) := (List.range df.ps).map fun j => if df.fx.contains j then (δ[j]?).getD none else none
def runD (T : Tb) (df : Df) (call : Str → List D → Option (D × List (Option D))) (as : List D) : Option (D × List (Option D)) :=
  if as.length = df.ps then match exs T.deep (T.gc df call) df.body (as.map some ++ List.replicate (df.N.length - as.length) none) with
    | some (.rt d, δ) => some (d, outsOf df δ)
    | some (.nx, δ) => some (.non, outsOf df δ)
    | _ => none
  else none
def callD (T : Tb) : Nat → Str → List D → Option (D × List (Option D))
  | 0, _, _ => none
  | k + 1, f, as => match T.defs.lookup f with
    | some df => runD T df (callD T k) as
    | none => none
end PyD

/-! The interpreter is right: readings. -/
namespace PyD
open PySem PySem.Spec PyProof.Rows L2

/-- a def's promise: what the interpreter says of its call -/
def spD (Γ : Gd) (call : Str → List D → Option (D × List (Option D))) (f : Str) : Sp := fun vs H Q _ => ∃ (S : Addr → Prop) (as : List D) (fp : Fp) (d : D) (os : List (Option D)),
  EnvOk Γ S H (vs.map some) (as.map some) fp ∧ call f as = some (d, os) ∧ os.length = as.length ∧
    ∀ S' H' fp' v g, Pst Γ S H fp S' H' (vs.map some) os fp' → Vp Γ S' H' d v g fp' (Wf fp) H → Q v H'
structure FnS (Γ : Gd) (X : Cx) (call : Str → List D → Option (D × List (Option D))) (f : Str) (n : Nat) (k : Nat) (fa : Addr) (fd : FuncData) (ps : List Str) : Prop where
  fn : FnOk X.prog X.w X.K X.mg X.base CX0 k fa fd ps (spD Γ call f)
  room : Room k X.A
  mg : X.mg f = some (.ref fa)
  kp : PySem.W.keepIn X.K (.ref fa) = true
  bd : Binds X.K fd ps []
  len : ps.length = n
/-- the context's side of a Gc -/
structure XOk (Γ : Gd) (G : Gc) (X : Cx) : Prop where
  K : X.K = Γ.K
  N : X.N = G.N
  nd : G.N.Nodup
  calm : X.calm = true
  kind : X.env.scope.kind = .function
  scl : ∀ x k, k ≠ .free → G.sc.names.lookup x = some k → X.env.scope.names.lookup x = some k
  scf : ∀ x, G.sc.names.lookup x = some .free → X.env.scope.names.lookup x = some .free ∨ X.env.scope.names.lookup x = some .cell
  xe : X.xe = fun _ _ => False
  fn : ∀ x, locK (G.sc.names.lookup x) = true → X.fn x = true ∨ X.env.scope.names.lookup x = some .local
  con : ∀ x d, G.con x = some d → ∃ v u, X.mg x = some u ∧ RelV v u ∧ ∀ S H, Rep Γ S H d v []
  free : ∀ x, G.free.contains x = true → X.mg x = none
  units : X.A.units + 64 < cLine
  call : ∀ f ms, G.mode f = some ms → ∃ k fa fd ps, FnS Γ X G.call f ms.length k fa fd ps

section
variable {Γ : Gd} {G : Gc} {X : Cx}
theorem ixOf_get {x : Str} : ∀ {N : List Str} {i j : Nat}, ixOf x N i = some j → i ≤ j ∧ N[j - i]? = some x
  | [], _, _, h => by cases h
  | y :: r, i, j, h => by
    unfold ixOf at h
    split at h
    · rename_i e
      cases h
      subst e
      exact ⟨Nat.le_refl _, by simp⟩
    · obtain ⟨h1, h2⟩ := ixOf_get h
      refine ⟨by omega, ?_⟩
      have : j - i = (j - (i + 1)) + 1 := by omega
      rw [this, List.getElem?_cons_succ]
      exact h2
theorem slot_ok {x : Str} {i : Nat} (O : XOk Γ G X) (h : G.slot x = some i) : X.N[i]? = some x ∧ Vis X.env.scope x ∧ (x == ("__debug__" : Str)) = false ∧ (x == ("__classdict__" : Str)) = false ∧ vis (G.sc.names.lookup x) = true := by
  unfold Gc.slot at h
  split at h
  · rename_i c
    rw [Bool.and_eq_true] at c
    obtain ⟨c1, c2⟩ := c
    unfold okName at c2
    rw [Bool.and_eq_true, Bool.not_eq_true', Bool.not_eq_true'] at c2
    obtain ⟨h1, h2⟩ := ixOf_get h
    refine ⟨by rw [O.N]; simpa using h2, ?_, c2.1, c2.2, c1⟩
    unfold vis at c1
    split at c1
    · rename_i e; exact .inl (O.scl x _ (by decide) e)
    · rename_i e; exact .inr (.inl (O.scl x _ (by decide) e))
    · rename_i e
      rcases O.scf x e with z | z
      · exact .inr (.inr z)
      · exact .inr (.inl z)
    · cases c1
  · cases h
theorem gl_ok {x : Str} (O : XOk Γ G X) (h : G.gl x = true) : Gl X x ∧ (x == ("__debug__" : Str)) = false := by
  unfold Gc.gl at h
  rw [Bool.and_eq_true] at h
  obtain ⟨c1, c2⟩ := h
  unfold okName at c2
  rw [Bool.and_eq_true, Bool.not_eq_true', Bool.not_eq_true'] at c2
  refine ⟨?_, c2.1⟩
  unfold glK at c1
  split at c1
  · rename_i e; exact O.scl x _ (by decide) e
  · cases c1
theorem free_ok {x : Str} (O : XOk Γ G X) (h : G.isFree x = true) : Gl X x ∧ (x == ("__debug__" : Str)) = false ∧ X.mg x = none := by
  unfold Gc.isFree at h
  rw [Bool.and_eq_true] at h
  obtain ⟨a, b⟩ := gl_ok O h.1
  exact ⟨a, b, O.free x h.2⟩

/-! ### readings -/
def tE (Γ : Gd) (m : Ev D) : TE := fun σ H Q => ∃ S δ fp d δ', EnvOk Γ S H σ δ fp ∧ m δ = some (d, δ') ∧
  ∀ S' H' fp' v f, Pst Γ S H fp S' H' σ δ' fp' → Vp Γ S' H' d v f fp' (Wf fp) H → Q v H'
def tB (Γ : Gd) (m : Ev Bool) : TT := fun σ H Q => ∃ S δ fp b δ', EnvOk Γ S H σ δ fp ∧ m δ = some (b, δ') ∧
  ∀ S' H' fp', Pst Γ S H fp S' H' σ δ' fp' → Q b H'
def tI (Γ : Gd) (m : Ev (Option Int)) : TO := fun σ H Q => ∃ S δ fp o δ', EnvOk Γ S H σ δ fp ∧ m δ = some (o, δ') ∧
  ∀ S' H' fp', Pst Γ S H fp S' H' σ δ' fp' → Q o H'
/-- operands in hand -/
def RepA (Γ : Gd) (S : Addr → Prop) (H : Hp) (σ : L2.St) : Ar → V → List Addr → Prop
  | .val d, v, f => Rep Γ S H d v f
  | .ref i, v, f => σ[i]? = some (some v) ∧ f = []
def RepAs (Γ : Gd) (S : Addr → Prop) (H : Hp) (σ : L2.St) : List Ar → List V → List (List Addr) → Prop
  | [], vs, f => vs = [] ∧ f = []
  | a :: as, vs, f => ∃ v vs' f1 f2, vs = v :: vs' ∧ f = f1 :: f2 ∧ RepA Γ S H σ a v f1 ∧ RepAs Γ S H σ as vs' f2
structure Va (Γ : Gd) (S : Addr → Prop) (H : Hp) (σ : L2.St) (a : Ar) (v : V) (f : List Addr) (fp : Fp) (W0 : Addr → Prop) (H0 : Hp) : Prop where
  rep : RepA Γ S H σ a v f
  nd : f.Nodup
  dj : ∀ a ∈ f, ¬ Wf fp a
  new : ∀ a ∈ f, W0 a ∨ H0 a = none
structure Vas (Γ : Gd) (S : Addr → Prop) (H : Hp) (σ : L2.St) (a : List Ar) (v : List V) (f : List (List Addr)) (fp : Fp) (W0 : Addr → Prop) (H0 : Hp) : Prop where
  rep : RepAs Γ S H σ a v f
  nd : f.flatten.Nodup
  dj : ∀ a ∈ f.flatten, ¬ Wf fp a
  new : ∀ a ∈ f.flatten, W0 a ∨ H0 a = none
def tR (Γ : Gd) (m : Ev Ar) : TE := fun σ H Q => ∃ S δ fp a δ', EnvOk Γ S H σ δ fp ∧ m δ = some (a, δ') ∧
  ∀ S' H' fp' v f, Pst Γ S H fp S' H' σ δ' fp' → Va Γ S' H' σ a v f fp' (Wf fp) H → Q v H'
def tRs (Γ : Gd) (m : Ev (List Ar)) : TA := fun σ H Q => ∃ S δ fp as δ', EnvOk Γ S H σ δ fp ∧ m δ = some (as, δ') ∧
  ∀ S' H' fp' vs f, Pst Γ S H fp S' H' σ δ' fp' → Vas Γ S' H' σ as vs f fp' (Wf fp) H → Q vs H'

theorem PE.mono {e : Expr} {t t' : TE} (h : PE X e t) (m : ∀ σ H Q, t' σ H Q → t σ H Q) : PE X e t' := ⟨fun pins s σ H Q I z => h.run pins s σ H Q I (m σ H Q z)⟩
theorem PT.mono {e : Expr} {t t' : TT} (h : PT X e t) (m : ∀ σ H Q, t' σ H Q → t σ H Q) : PT X e t' := ⟨fun pins s σ H Q I z => h.run pins s σ H Q I (m σ H Q z)⟩
theorem PA.mono {e : List Expr} {t t' : TA} (h : PA X e t) (m : ∀ σ H Q, t' σ H Q → t σ H Q) : PA X e t' := ⟨fun pos pins s σ H Q I z => h.run pos pins s σ H Q I (m σ H Q z)⟩
theorem PO.mono {e : Option Expr} {t t' : TO} (h : PO X e t) (m : ∀ σ H Q, t' σ H Q → t σ H Q) : PO X e t' := ⟨fun pins s σ H Q I z => h.run pins s σ H Q I (m σ H Q z)⟩
theorem PS.mono {e : Stmt} {t t' : TS} (h : PS X e t) (m : ∀ D σ H, t' D σ H → t D σ H) : PS X e t' := ⟨fun pins s σ H D I z => h.run pins s σ H D I (m D σ H z)⟩
theorem PSs.mono {e : List Stmt} {t t' : TS} (h : PSs X e t) (m : ∀ D σ H, t' D σ H → t D σ H) : PSs X e t' := ⟨fun pins s σ H D I z => h.run pins s σ H D I (m D σ H z)⟩
theorem PI.mono {tg e : Expr} {t t' : TI} (h : PI X tg e t) (m : ∀ σ H R, t' σ H R → t σ H R) : PI X tg e t' := ⟨fun pins s σ H R I z => h.run pins s σ H R I (m σ H R z)⟩
/-- claims nothing -/
theorem PE.no {e : Expr} (Γ : Gd) : PE X e (tE Γ fun _ => none) := ⟨fun _ _ _ _ _ _ ⟨_, _, _, _, _, _, e, _⟩ => by cases e⟩
theorem PT.no {e : Expr} (Γ : Gd) : PT X e (tB Γ fun _ => none) := ⟨fun _ _ _ _ _ _ ⟨_, _, _, _, _, _, e, _⟩ => by cases e⟩

/-! ### what a rule of values asks -/
/-- the answer d may be told wherever it is new -/
def Cont (Γ : Gd) (S : Addr → Prop) (H : Hp) (d : D) (Q : VK) : Prop := ∀ S' H' z h, Stp (fun _ => False) S H S' H' → (∀ a, S' a → H' a ≠ none) → Rep Γ S' H' d z h → h.Nodup → (∀ a ∈ h, H a = none) → Q z H'
variable {S S' : Addr → Prop} {H H' H0 : Hp} {σ : L2.St} {δ : Env} {fp fp0 : Fp} {d : D} {Q : VK}
theorem Cont.same {z : V} (c : Cont Γ S H d Q) (lv : ∀ a, S a → H a ≠ none) (r : Rep Γ S H d z []) : Q z H :=
  c S H z [] .refl lv r List.nodup_nil fun _ q => nomatch q
theorem Cont.lst {l : List D} {xs : List V} (c : Cont Γ S H (.lst .own l) Q) (lv : ∀ a, S a → H a ≠ none) (r : Reps Γ S H l xs []) : ∀ p, H p = none → Q (.ref p) (upd H p (.lst xs)) := fun p hp => by
  have st : Stp (fun _ => False) S H (addS S True p) (upd H p (.lst xs)) := stp_new hp (.inr trivial)
  refine c (addS S True p) _ (.ref p) [p] st (lv_new lv) ?_ (by simp) fun a ha => by simp at ha; rw [ha]; exact hp
  simp only [Rep]
  exact ⟨p, xs, [], rfl, rfl, upd_same, .inr ⟨trivial, rfl⟩, r.frame st (fun _ z => z.elim) fun _ z => nomatch z⟩
theorem Cont.tup {l : List D} {xs : List V} (c : Cont Γ S H (.tup l) Q) (lv : ∀ a, S a → H a ≠ none) (r : Reps Γ S H l xs []) : ∀ p, H p = none → Q (.ref p) (upd H p (.tup xs)) := fun p hp => by
  have st : Stp (fun _ => False) S H (addS S False p) (upd H p (.tup xs)) := stp_new hp (.inr trivial)
  refine c (addS S False p) _ (.ref p) [] st (lv_new lv) ?_ List.nodup_nil fun a ha => nomatch ha
  simp only [Rep]
  exact ⟨p, xs, rfl, trivial, .inl ⟨.inl upd_same, fun z => z.elim (fun s => lv p s hp) fun w => w.1⟩, r.frame st (fun _ z => z.elim) fun _ z => nomatch z⟩
/-- from what is wanted behind an expression -/
theorem Cont.of (E : EnvOk Γ S0 H0 σ δ0 fp0) (p : Pst Γ S0 H0 fp0 S H σ δ fp) (q : ∀ S' H' fp' v f, Pst Γ S0 H0 fp0 S' H' σ δ fp' → Vp Γ S' H' d v f fp' (Wf fp0) H0 → Q v H') : Cont Γ S H d Q := fun S' H' z h st lv r nd nw => by
  have E1 : EnvOk Γ S' H' σ δ fp := p.env.stp st (fun _ z => z.elim) (fun _ z => z.elim) lv
  have p1 : Pst Γ S H fp S' H' σ δ fp := ⟨E1, st.wide fun _ z => z.elim, fun i a ha => .inl ⟨i, ha⟩⟩
  refine q S' H' fp z h (Pst.trans E p p1) ⟨r, nd, fun a ha w => p.env.lv a (p.env.wf w) (nw a ha), fun a ha => .inr (none_of p.stp (nw a ha))⟩
/-- an operand's datum -/
theorem look_ok {a : Ar} {v : V} {f : List Addr} (E : EnvOk Γ S H σ δ fp) (x : RepA Γ S H σ a v f) (h : look δ a = some d) : ∃ g, Rep Γ S H d v g := by
  cases a with
  | val e =>
    cases h
    exact ⟨f, x⟩
  | ref i =>
    have h2 : δ[i]? = some (some d) := by
      simp only [look] at h
      split at h
      · rename_i e; cases h; exact e
      · cases h
    obtain ⟨w, e1, r⟩ := E.slot i d h2
    rw [x.1] at e1
    cases e1
    exact ⟨fp i, r⟩
theorem Va.hold {a : Ar} {v : V} {f : List Addr} {S1 S2 : Addr → Prop} {H1 H2 : Hp} {fp1 fp2 : Fp} {σ1 σ2 : L2.St} {δ1 δ2 : Env} {W0 : Addr → Prop} (x : Va Γ S1 H1 σ a v f fp1 W0 H0) (E : EnvOk Γ S1 H1 σ1 δ1 fp1) (q : Pst Γ S1 H1 fp1 S2 H2 σ2 δ2 fp2) : Va Γ S2 H2 σ a v f fp2 W0 H0 := by
  cases a with
  | val d => exact let y := Vp.hold (d := d) ⟨x.rep, x.nd, x.dj, x.new⟩ E q; ⟨y.rep, y.nd, y.dj, y.new⟩
  | ref i =>
    obtain ⟨h1, h2⟩ := x.rep
    subst h2
    exact ⟨⟨h1, rfl⟩, List.nodup_nil, fun _ z => (nomatch z), fun _ z => (nomatch z)⟩
end
end PyD

/-! The interpreter is right: operands and operations. -/
namespace PyD
open PySem PySem.Spec PyProof.Rows L2
section
variable {Γ : Gd} {G : Gc} {X : Cx} {S S' : Addr → Prop} {H H' H0 : Hp} {σ : L2.St} {δ : Env} {fp fp0 : Fp} {d : D} {Q : VK}

theorem pinj {α β : Type} {a b : α} {c d : β} (h : some (a, c) = some (b, d)) : b = a ∧ d = c := by
  have h1 := Option.some.inj h
  exact ⟨(congrArg Prod.fst h1).symm, (congrArg Prod.snd h1).symm⟩
theorem mapS {α β : Type} {o : Option α} {f : α → β} {b : β} (h : o.map f = some b) : ∃ a, o = some a ∧ b = f a := by
  cases o with
  | none => cases h
  | some a => exact ⟨a, rfl, (Option.some.inj h).symm⟩
/-- what a variable owns is given up -/
theorem freeze {i : Nat} (E : EnvOk Γ S H σ δ fp) (e : δ[i]? = some (some d)) : ∃ v S' fp', σ[i]? = some (some v) ∧ Pst Γ S H fp S' H σ (δ.set i (some (clr d))) fp' ∧ Rep Γ S' H (clr d) v [] := by
  obtain ⟨v, e1, p, x⟩ := (Pst.refl E).take e
  have hi : i < δ.length := (List.getElem?_eq_some_iff.mp e).1
  have p2 : Pst Γ S H fp (subS S (fp i)) H σ (δ.set i none) (put fp i []) := Pst.give E p x.dj (fun a ha => E.su i a ha) fun a ha => .inl ⟨i, ha⟩
  have r : Rep Γ (subS S (fp i)) H (clr d) v [] := Rep.clr (fun a n s => n s.1) d v (fp i) (fun a ha s => s.2 ha) x.rep
  have p3 := p2.back (Vp.flat (W0 := Wf fp) (H0 := H) r) (by rw [List.length_set]; exact hi) e1
  rw [List.set_set] at p3
  exact ⟨v, _, _, e1, p3, r⟩
theorem rdN_ok {i : Nat} : ∀ σ H Q, tE Γ (rdN i) σ H Q → tVar i σ H Q := by
  rintro σ H Q ⟨S, δ, fp, d, δ', E, h, q⟩
  unfold rdN at h
  split at h
  · rename_i d0 e
    split at h
    · rename_i hf
      obtain ⟨rfl, rfl⟩ := pinj h
      obtain ⟨v, e1, r⟩ := E.slot i _ e
      have r' := r.flat hf
      rw [r'] at r
      exact ⟨v, e1, q S H fp v [] (Pst.refl E) (Vp.flat r)⟩
    · obtain ⟨rfl, rfl⟩ := pinj h
      obtain ⟨v, S', fp', e1, p, r⟩ := freeze E e
      exact ⟨v, e1, q S' H fp' v [] p (Vp.flat r)⟩
  · cases h
theorem name_ok {x : Str} {p : Pos} (O : XOk Γ G X) : PE X (.Name x p) (tE Γ (G.name x)) := by
  unfold Gc.name
  split
  · rename_i i h
    obtain ⟨h1, h2, h3, h4, _⟩ := slot_ok O h
    exact PE.mono (pe_var h1 h2 h3 h4) rdN_ok
  · split
    · rename_i hg
      obtain ⟨g1, g2⟩ := gl_ok O hg
      cases hc : G.con x with
      | none => exact PE.mono (PE.no Γ) fun σ H Q h => h
      | some d =>
        obtain ⟨v, u, hm, hr, hd⟩ := O.con x d hc
        refine PE.mono (pe_glob g1 hm hr g2) ?_
        rintro σ H Q ⟨S, δ, fp, d', δ', E, h, q⟩
        cases h
        exact q S H fp v [] (Pst.refl E) (Vp.flat (hd S H))
    · exact PE.no Γ
theorem look_ref {i : Nat} {d : D} (h : look δ (.ref i) = some d) : δ[i]? = some (some d) := by
  simp only [look] at h
  split at h
  · rename_i e; cases h; exact e
  · cases h
theorem opnd_ok {e : Expr} {m : Bool} {v : Ev D} (O : XOk Γ G X) (h : PE X e (tE Γ v)) : PE X e (tR Γ (opnd G e m v)) := by
  have gen : ∀ m', (m' = fun δ => (v δ).map fun p => ((Ar.val p.1, p.2) : Ar × Env)) → PE X e (tR Γ m') := by
    rintro _ rfl
    refine PE.mono h ?_
    rintro σ H Q ⟨S, δ, fp, a, δ', E, h, q⟩
    obtain ⟨r, hv, e⟩ := mapS h
    obtain ⟨rfl, rfl⟩ : a = .val r.1 ∧ δ' = r.2 := ⟨congrArg Prod.fst e, congrArg Prod.snd e⟩
    exact ⟨S, δ, fp, r.1, r.2, E, hv, fun S' H' fp' w f p x => q S' H' fp' w f p ⟨x.rep, x.nd, x.dj, x.new⟩⟩
  unfold opnd
  split
  · rename_i i hi
    split at hi
    · rename_i x p
      obtain ⟨h1, h2, h3, h4, _⟩ := slot_ok O hi
      refine PE.mono (pe_var h1 h2 h3 h4) ?_
      rintro σ H Q ⟨S, δ, fp, a, δ', E, h, q⟩
      obtain ⟨d, hl, e⟩ := mapS h
      obtain ⟨rfl, rfl⟩ : a = .ref i ∧ δ' = δ := ⟨congrArg Prod.fst e, congrArg Prod.snd e⟩
      obtain ⟨w, e1, r⟩ := E.slot i d (look_ref hl)
      exact ⟨w, e1, q S H fp w [] (Pst.refl E) ⟨⟨e1, rfl⟩, List.nodup_nil, fun _ z => (nomatch z), fun _ z => (nomatch z)⟩⟩
    · cases hi
  · exact gen _ rfl

/-! ### operations -/
def OpS (Γ : Gd) (r : R2) (f : D → D → Option D) : Prop := ∀ S H u v x y g h d Q, (∀ a, S a → H a ≠ none) → Rep Γ S H u x g → Rep Γ S H v y h → f u v = some d → Cont Γ S H d Q → r x y H Q
def UnS (Γ : Gd) (r : V → Hp → VK → Prop) (f : D → Option D) : Prop := ∀ S H u x g d Q, (∀ a, S a → H a ≠ none) → Rep Γ S H u x g → f u = some d → Cont Γ S H d Q → r x H Q
theorem op2_ok {ra rb : Ev Ar} {f : D → D → Option D} {r : R2} (hr : OpS Γ r f) : ∀ σ H Q, tE Γ (op2 ra rb f) σ H Q → tOp r (tR Γ ra) (tR Γ rb) σ H Q := by
  rintro σ H Q ⟨S, δ, fp, d, δ', E, h, q⟩
  unfold op2 at h
  split at h
  · rename_i a δ1 h1
    split at h
    · rename_i b δ2 h2
      split at h
      · rename_i u v hu hv
        obtain ⟨d0, hf, e⟩ := mapS h
        obtain ⟨rfl, rfl⟩ : d = d0 ∧ δ' = δ2 := ⟨congrArg Prod.fst e, congrArg Prod.snd e⟩
        refine ⟨S, δ, fp, a, δ1, E, h1, fun S1 H1 fp1 x f1 p1 x1 => ?_⟩
        refine ⟨S1, δ1, fp1, b, _, p1.env, h2, fun S2 H2 fp2 y f2 p2 y2 => ?_⟩
        have x2 := x1.hold p1.env p2
        obtain ⟨g, rx⟩ := look_ok p2.env x2.rep hu
        obtain ⟨g', ry⟩ := look_ok p2.env y2.rep hv
        exact hr S2 H2 u v x y g g' d Q p2.env.lv rx ry hf (Cont.of E (Pst.trans E p1 p2) q)
      · cases h
    · cases h
  · cases h
theorem op1_ok {ra : Ev Ar} {f : D → Option D} {r : V → Hp → VK → Prop} (hr : UnS Γ r f) : ∀ σ H Q, tE Γ (op1 ra f) σ H Q → tUn r (tR Γ ra) σ H Q := by
  rintro σ H Q ⟨S, δ, fp, d, δ', E, h, q⟩
  unfold op1 at h
  split at h
  · rename_i a δ1 h1
    split at h
    · rename_i u hu
      obtain ⟨d0, hf, e⟩ := mapS h
      obtain ⟨rfl, rfl⟩ : d = d0 ∧ δ' = δ1 := ⟨congrArg Prod.fst e, congrArg Prod.snd e⟩
      · refine ⟨S, δ, fp, a, _, E, h1, fun S1 H1 fp1 x f1 p1 x1 => ?_⟩
        obtain ⟨g, rx⟩ := look_ok p1.env x1.rep hu
        exact hr S1 H1 u x g d Q p1.env.lv rx hf (Cont.of E p1 q)
    · cases h
  · cases h
theorem Rep.int_inv {i : Int} {v : V} {f : List Addr} (r : Rep Γ S H (.int i) v f) : v = .int i := by simp only [Rep] at r; exact r.1
theorem Rep.str_inv {i : Str} {v : V} {f : List Addr} (r : Rep Γ S H (.str i) v f) : v = .str i := by simp only [Rep] at r; exact r.1
theorem Rep.bl_inv {i : Bool} {v : V} {f : List Addr} (r : Rep Γ S H (.bl i) v f) : v = .bl i := by simp only [Rep] at r; exact r.1
theorem Rep.tup_inv {l : List D} {v : V} {f : List Addr} (r : Rep Γ S H (.tup l) v f) : ∃ a xs, v = .ref a ∧ ShT Γ S H a xs ∧ Reps Γ S H l xs [] := by
  simp only [Rep] at r
  obtain ⟨a, xs, e, _, s, rr⟩ := r
  exact ⟨a, xs, e, s, rr⟩
/-- a list, to be read -/
theorem Rep.lst_inv {o : Ow} {l : List D} {v : V} {f : List Addr} (r : Rep Γ S H (.lst o l) v f) : ∃ a xs g, v = .ref a ∧ SqL Γ.K H a xs ∧ Reps Γ S H l xs g ∧ (notLk o = true → H a = some (.lst xs)) := by
  cases o with
  | own =>
    simp only [Rep] at r
    obtain ⟨a, xs, g, e, _, h, s, rr⟩ := r
    exact ⟨a, xs, g, e, .inl (.inl h), rr, fun _ => h⟩
  | sh =>
    simp only [Rep] at r
    obtain ⟨a, xs, e, _, h, s, rr⟩ := r
    exact ⟨a, xs, [], e, .inl (.inl h), rr, fun _ => h⟩
  | lk =>
    simp only [Rep] at r
    obtain ⟨a, xs, e, _, h, rr⟩ := r
    exact ⟨a, xs, [], e, h.seq, rr, fun z => nomatch z⟩
theorem Rep.tupS {l : List D} {v : V} {f : List Addr} (r : Rep Γ S H (.tup l) v f) : Rep Γ S H (.tup l) v [] := by
  have := r.flat rfl
  rw [this] at r
  exact r
theorem Rep.int {i : Int} : Rep Γ S H (.int i) (.int i) [] := by simp only [Rep]; exact ⟨trivial, trivial⟩
theorem Rep.str {i : Str} : Rep Γ S H (.str i) (.str i) [] := by simp only [Rep]; exact ⟨trivial, trivial⟩
theorem Rep.bl {i : Bool} : Rep Γ S H (.bl i) (.bl i) [] := by simp only [Rep]; exact ⟨trivial, trivial⟩
theorem Rep.non : Rep Γ S H .non .non [] := by simp only [Rep]; exact ⟨trivial, trivial⟩
theorem line_eq : line = sizeLine := by rw [sizeLine_eq]; rfl
/-- two ints to an int -/
theorem opI_ok {C : Int → Int → Prop} {g : Int → Int → V} {f : D → D → Option D} (h : ∀ u v d, f u v = some d → ∃ i j, u = .int i ∧ v = .int j ∧ C i j ∧ ∀ S H, Rep Γ S H d (g i j) []) : OpS Γ (rI C g) f := by
  intro S H u v x y a b d Q lv rx ry e c
  obtain ⟨i, j, rfl, rfl, hc, rd⟩ := h u v d e
  exact ⟨i, j, rx.int_inv, ry.int_inv, hc, c.same lv (rd S H)⟩
theorem opI0_ok {g : Int → Int → V} {f : D → D → Option D} (h : ∀ u v d, f u v = some d → ∃ i j, u = .int i ∧ v = .int j ∧ ∀ S H, Rep Γ S H d (g i j) []) : OpS Γ (rI0 g) f := by
  intro S H u v x y a b d Q lv rx ry e c
  obtain ⟨i, j, rfl, rfl, rd⟩ := h u v d e
  exact ⟨i, j, rx.int_inv, ry.int_inv, c.same lv (rd S H)⟩
def rNo : R2 := fun _ _ _ _ => False
theorem opNo {f : Value → Value → Sem Value} : OpR X f rNo := fun _ _ _ _ _ _ _ _ _ _ _ _ h => h.elim
theorem opsNo {f : D → D → Option D} (h : ∀ u v, f u v = none) : OpS Γ rNo f := fun _ _ u v _ _ _ _ _ _ _ _ _ e _ => by rw [h] at e; cases e

theorem add_ok (K : X.K = Γ.K) : ∃ r, OpR X (binaryOp .Add) r ∧ OpS Γ r (binD .Add) := by
  refine ⟨_, op_add.or (op_add_str.or (op_catA.or op_cat)), ?_⟩
  intro S H u v x y a b d Q lv rx ry e c
  cases u with
  | int i =>
    cases v with
    | int j =>
      cases e
      exact .inl ⟨i, j, rx.int_inv, ry.int_inv, c.same lv Rep.int⟩
    | _ => cases e
  | str i =>
    cases v with
    | str j =>
      simp only [binD] at e
      split at e
      · rename_i hl
        cases e
        exact .inr (.inl ⟨i, j, rx.str_inv, ry.str_inv, by rw [← line_eq]; exact hl, c.same lv Rep.str⟩)
      · cases e
    | _ => cases e
  | tup l =>
    cases v with
    | tup m =>
      simp only [binD] at e
      split at e
      · rename_i hl
        cases e
        obtain ⟨p, xs, rfl, s1, r1⟩ := rx.tup_inv
        obtain ⟨q, ys, rfl, s2, r2⟩ := ry.tup_inv
        have rr : Reps Γ S H (l ++ m) (xs ++ ys) [] := Reps.append r1 r2
        refine .inr (.inr (.inl ⟨p, q, xs, ys, rfl, rfl, by rw [K]; exact s1.seq, by rw [K]; exact s2.seq, by rw [r1.length, r2.length, ← line_eq]; exact hl, fun e => ?_, fun _ e => ?_, fun _ _ => ?_⟩))
        · have l0 : l = [] := by
            have := r1.length
            rw [e] at this
            exact List.length_eq_zero_iff.mp this.symm
          rw [l0] at c
          exact c.same lv ry.tupS
        · have m0 : m = [] := by
            have := r2.length
            rw [e] at this
            exact List.length_eq_zero_iff.mp this.symm
          rw [m0, List.append_nil] at c
          exact c.same lv rx.tupS
        · exact c.tup lv rr
      · cases e
    | _ => cases e
  | lst o l =>
    cases v with
    | lst o2 m =>
      simp only [binD] at e
      split at e
      · rename_i hl
        cases e
        simp only [Bool.and_eq_true, decide_eq_true_eq] at hl
        obtain ⟨⟨⟨⟨h1, h2⟩, h3⟩, h4⟩, h5⟩ := hl
        obtain ⟨p, xs, g, rfl, s1, r1, t1⟩ := rx.lst_inv
        obtain ⟨q, ys, g', rfl, s2, r2, t2⟩ := ry.lst_inv
        rw [Reps.flats r1 h3] at r1
        rw [Reps.flats r2 h4] at r2
        exact .inr (.inr (.inr ⟨p, q, xs, ys, rfl, rfl, t1 h1, t2 h2, by rw [r1.length, r2.length, ← line_eq]; exact h5, c.lst lv (Reps.append r1 r2)⟩))
      · cases e
    | _ => cases e
  | _ => cases v <;> cases e
end
end PyD

/-! The interpreter is right: the operations one by one. -/
namespace PyD
open PySem PySem.Spec PyProof.Rows L2
section
variable {Γ : Gd} {G : Gc} {X : Cx} {S S' : Addr → Prop} {H H' H0 : Hp} {σ : L2.St} {δ : Env} {fp fp0 : Fp} {d : D} {Q : VK}
theorem ifS {α : Type} {c : Prop} [Decidable c] {x : α} {b : α} (h : (if c then some x else none) = some b) : c ∧ b = x := by
  by_cases hc : c
  · rw [if_pos hc] at h; exact ⟨hc, (Option.some.inj h).symm⟩
  · rw [if_neg hc] at h; cases h
theorem ifB {α : Type} {c : Bool} {x : α} {b : α} (h : (if c = true then some x else none) = some b) : c = true ∧ b = x := ifS h
theorem bin_ok (K : X.K = Γ.K) (op : Operator) : ∃ r, OpR X (binaryOp op) r ∧ OpS Γ r (binD op) := by
  cases op with
  | Add => exact add_ok K
  | Sub =>
    refine ⟨_, op_sub, opI0_ok fun u v d h => ?_⟩
    cases u <;> cases v <;> first | cases h | skip
    exact ⟨_, _, rfl, rfl, fun _ _ => Rep.int⟩
  | Mult =>
    refine ⟨_, op_mul.or op_mulW, fun S H u v x y a b d Q lv rx ry e c => ?_⟩
    cases u <;> cases v <;> first | cases e | skip
    rename_i i j
    obtain ⟨hc, rfl⟩ := ifB e
    unfold mulOk at hc
    rw [Bool.or_eq_true, Bool.or_eq_true, decide_eq_true_eq, decide_eq_true_eq, decide_eq_true_eq] at hc
    rcases hc with hc | hc | hc
    · exact .inl ⟨i, j, rx.int_inv, ry.int_inv, .inl hc, c.same lv Rep.int⟩
    · exact .inl ⟨i, j, rx.int_inv, ry.int_inv, .inr hc, c.same lv Rep.int⟩
    · exact .inr ⟨i, j, rx.int_inv, ry.int_inv, hc, c.same lv Rep.int⟩
  | FloorDiv =>
    refine ⟨_, op_fdivW, opI_ok fun u v d h => ?_⟩
    cases u <;> cases v <;> first | cases h | skip
    rename_i i j
    obtain ⟨hc, rfl⟩ := ifB h
    unfold divOk at hc
    rw [Bool.and_eq_true, decide_eq_true_eq, decide_eq_true_eq] at hc
    exact ⟨i, j, rfl, rfl, hc, fun _ _ => Rep.int⟩
  | Mod =>
    refine ⟨_, op_mod, opI_ok fun u v d h => ?_⟩
    cases u <;> cases v <;> first | cases h | skip
    rename_i i j
    obtain ⟨hc, rfl⟩ := ifB h
    exact ⟨i, j, rfl, rfl, of_decide_eq_true hc, fun _ _ => Rep.int⟩
  | Pow =>
    refine ⟨_, op_pow, opI_ok fun u v d h => ?_⟩
    cases u <;> cases v <;> first | cases h | skip
    rename_i i j
    obtain ⟨hc, rfl⟩ := ifB h
    unfold powOk at hc
    rw [Bool.and_eq_true, Bool.and_eq_true, decide_eq_true_eq, decide_eq_true_eq, decide_eq_true_eq] at hc
    exact ⟨i, j, rfl, rfl, hc, fun _ _ => Rep.int⟩
  | LShift =>
    refine ⟨_, op_shl, opI_ok fun u v d h => ?_⟩
    cases u <;> cases v <;> first | cases h | skip
    rename_i i j
    obtain ⟨hc, rfl⟩ := ifB h
    unfold powOk at hc
    rw [Bool.and_eq_true, Bool.and_eq_true, decide_eq_true_eq, decide_eq_true_eq, decide_eq_true_eq] at hc
    exact ⟨i, j, rfl, rfl, hc, fun _ _ => Rep.int⟩
  | BitAnd =>
    refine ⟨_, op_and, opI0_ok fun u v d h => ?_⟩
    cases u <;> cases v <;> first | cases h | skip
    exact ⟨_, _, rfl, rfl, fun _ _ => Rep.int⟩
  | _ => exact ⟨_, opNo, opsNo fun u v => by cases u <;> cases v <;> rfl⟩

/-! ### comparisons -/
mutual
theorem dp_ok (K : PySem.W.Frag) (hK : Γ.K = K) : ∀ (n : Nat) (d : D) (v : V) (f : List Addr), okD n d = true → Rep Γ S H d v f → Dp K H v (toPy d) ∧ (toPy d).canLay0 = true ∧ (toPy d).depth ≤ n
  | n, .non, v, f, h, r => by
    simp only [Rep] at r
    rw [r.1]
    cases n <;> exact ⟨.non, rfl, Nat.zero_le _⟩
  | n, .bl b, v, f, h, r => by
    simp only [Rep] at r
    rw [r.1]
    cases n <;> exact ⟨.bl b, rfl, Nat.zero_le _⟩
  | n, .int b, v, f, h, r => by
    simp only [Rep] at r
    rw [r.1]
    cases n <;> exact ⟨.int b, rfl, Nat.zero_le _⟩
  | n, .str b, v, f, h, r => by
    simp only [Rep] at r
    rw [r.1]
    have h' : PyData.strOk b = true := by cases n <;> exact h
    exact ⟨.str b, h', Nat.zero_le _⟩
  | 0, .tup l, v, f, h, r => by cases h
  | 0, .lst o l, v, f, h, r => by cases h
  | n + 1, .tup l, v, f, h, r => by
    obtain ⟨a, xs, rfl, s, rr⟩ := r.tup_inv
    obtain ⟨h1, h2, h3⟩ := dps_ok K hK n l xs [] (by simpa only [okD] using h) rr
    refine ⟨?_, ?_, ?_⟩
    · simp only [toPy]; exact .tup (hK ▸ s.seq) h1
    · simpa only [toPy, PyData.canLay0] using h2
    · simp only [toPy, PyData.depth]; omega
  | n + 1, .lst o l, v, f, h, r => by
    obtain ⟨a, xs, g, rfl, s, rr, _⟩ := r.lst_inv
    obtain ⟨h1, h2, h3⟩ := dps_ok K hK n l xs g (by simpa only [okD] using h) rr
    refine ⟨?_, ?_, ?_⟩
    · simp only [toPy]; exact .lst (hK ▸ s) h1
    · simpa only [toPy, PyData.canLay0] using h2
    · simp only [toPy, PyData.depth]; omega
  | 0, .obj _ _ _ _, v, f, h, r => by cases h
  | n + 1, .obj _ _ _ _, v, f, h, r => by cases h
theorem dps_ok (K : PySem.W.Frag) (hK : Γ.K = K) : ∀ (n : Nat) (ds : List D) (xs : List V) (f : List Addr), okDs n ds = true → Reps Γ S H ds xs f → DpAll K H xs (toPys ds) ∧ PyData.canLayAll0 (toPys ds) = true ∧ PyData.depthAll (toPys ds) ≤ n
  | n, [], xs, f, h, r => by
    simp only [Reps] at r
    rw [r.1]
    exact ⟨.nil, rfl, Nat.zero_le _⟩
  | n, d :: ds, xs, f, h, r => by
    simp only [Reps] at r
    obtain ⟨v, vs, g, g', e, _, r1, r2⟩ := r
    subst e
    have h' : (okD n d && okDs n ds) = true := by simpa only [okDs] using h
    rw [Bool.and_eq_true] at h'
    obtain ⟨a1, a2, a3⟩ := dp_ok K hK n d v g h'.1 r1
    obtain ⟨b1, b2, b3⟩ := dps_ok K hK n ds vs g' h'.2 r2
    refine ⟨?_, ?_, ?_⟩
    · simp only [toPys]; exact .cons a1 b1
    · simp only [toPys, PyData.canLayAll0, a2, b2, Bool.and_self]
    · simp only [toPys, PyData.depthAll]; omega
end
theorem eqD_inv {u v : D} {k : Bool} (h : eqD u v = some k) : okD 60 u = true ∧ okD 60 v = true ∧ k = PyData.eqv (toPy u) (toPy v) := by
  unfold eqD at h
  split at h
  · rename_i c
    rw [Bool.and_eq_true] at c
    exact ⟨c.1, c.2, (Option.some.inj h).symm⟩
  · cases h
theorem shaped_ok {d : PyData} (h1 : d.canLay0 = true) (h2 : d.depth ≤ 60) : SeqAt.shaped d = true := by
  unfold SeqAt.shaped
  rw [h1, Bool.true_and]
  exact decide_eq_true (by omega)
theorem sca_ok {d : D} {v w : V} {f : List Addr} (r : Rep Γ S H d v f) (h : scaD d = some w) : v = w ∧ flatV w = true := by
  cases d <;> simp only [scaD] at h <;> first | cases h | skip
  all_goals (simp only [Rep] at r; exact ⟨r.1, rfl⟩)
theorem scas_ok : ∀ {ds : List D} {xs ws : List V} {f : List Addr}, Reps Γ S H ds xs f → scaDs ds = some ws → xs = ws ∧ ws.all flatV = true
  | [], xs, ws, f, r, h => by
    simp only [Reps] at r
    cases h
    exact ⟨r.1, rfl⟩
  | d :: ds, xs, ws, f, r, h => by
    simp only [Reps] at r
    obtain ⟨v, vs, g, g', e, _, r1, r2⟩ := r
    simp only [scaDs] at h
    split at h
    · rename_i w ws' h1 h2
      cases h
      obtain ⟨rfl, q1⟩ := sca_ok r1 h1
      obtain ⟨rfl, q2⟩ := scas_ok r2 h2
      exact ⟨e, by simp [q1, q2]⟩
    · cases h
def rInS : R2 := fun x y H Q => ∃ i j, x = .str i ∧ y = .str j ∧ Q (.bl (!(Builtin.Str.occurrences j i 0 j.length 1).isEmpty)) H
theorem in_ok (K : X.K = Γ.K) : ∃ r, OpR X (compareOp .In) r ∧ OpS Γ r fun u v => (inD u v).map .bl := by
  refine ⟨_, op_in_seq.or op_in_str, fun S H u v x y a b d Q lv rx ry e c => ?_⟩
  obtain ⟨k, hk, rfl⟩ := mapS e
  cases v with
  | lst o l =>
    obtain ⟨p, xs, g, rfl, s, rr, _⟩ := ry.lst_inv
    simp only [inD] at hk
    split at hk
    · rename_i w ws h1 h2
      cases hk
      obtain ⟨rfl, q1⟩ := sca_ok rx h1
      obtain ⟨rfl, q2⟩ := scas_ok rr h2
      exact .inl ⟨p, xs, rfl, .inl (by rw [K]; exact s), q1, q2, c.same lv Rep.bl⟩
    · cases hk
  | tup l =>
    obtain ⟨p, xs, rfl, s, rr⟩ := ry.tup_inv
    simp only [inD] at hk
    split at hk
    · rename_i w ws h1 h2
      cases hk
      obtain ⟨rfl, q1⟩ := sca_ok rx h1
      obtain ⟨rfl, q2⟩ := scas_ok rr h2
      exact .inl ⟨p, xs, rfl, .inr (by rw [K]; exact s.seq), q1, q2, c.same lv Rep.bl⟩
    · cases hk
  | str z =>
    cases u <;> simp only [inD] at hk <;> first | cases hk | skip
    exact .inr ⟨_, z, rx.str_inv, ry.str_inv, c.same lv Rep.bl⟩
  | _ => cases hk
theorem notIn_ok (K : X.K = Γ.K) : ∃ r, OpR X (compareOp .NotIn) r ∧ OpS Γ r fun u v => ((inD u v).map not).map .bl := by
  refine ⟨_, op_notIn_seq.or op_notin_str, fun S H u v x y a b d Q lv rx ry e c => ?_⟩
  obtain ⟨k0, hk0, rfl⟩ := mapS e
  obtain ⟨k, hk, rfl⟩ := mapS hk0
  cases v with
  | lst o l =>
    obtain ⟨p, xs, g, rfl, s, rr, _⟩ := ry.lst_inv
    simp only [inD] at hk
    split at hk
    · rename_i w ws h1 h2
      cases hk
      obtain ⟨rfl, q1⟩ := sca_ok rx h1
      obtain ⟨rfl, q2⟩ := scas_ok rr h2
      exact .inl ⟨p, xs, rfl, .inl (by rw [K]; exact s), q1, q2, c.same lv Rep.bl⟩
    · cases hk
  | tup l =>
    obtain ⟨p, xs, rfl, s, rr⟩ := ry.tup_inv
    simp only [inD] at hk
    split at hk
    · rename_i w ws h1 h2
      cases hk
      obtain ⟨rfl, q1⟩ := sca_ok rx h1
      obtain ⟨rfl, q2⟩ := scas_ok rr h2
      exact .inl ⟨p, xs, rfl, .inr (by rw [K]; exact s.seq), q1, q2, c.same lv Rep.bl⟩
    · cases hk
  | str z =>
    cases u <;> simp only [inD] at hk <;> first | cases hk | skip
    exact .inr ⟨_, z, rx.str_inv, ry.str_inv, c.same lv Rep.bl⟩
  | _ => cases hk
theorem cmpI_ok {op : CmpOp} {p : Int → Int → Bool} (h : ∀ u v k, cmpD op u v = some k → ∃ i j, u = .int i ∧ v = .int j ∧ k = p i j) : OpS Γ (rI0 fun i j => .bl (p i j)) fun u v => (cmpD op u v).map .bl := by
  refine opI0_ok fun u v d e => ?_
  obtain ⟨k, hk, rfl⟩ := mapS e
  obtain ⟨i, j, rfl, rfl, rfl⟩ := h u v k hk
  exact ⟨i, j, rfl, rfl, fun _ _ => Rep.bl⟩
theorem isN_ok {d : D} {v : V} {f : List Addr} (r : Rep Γ S H d v f) : decide (v = .non) = isNon d := by
  cases d with
  | lst o l =>
    obtain ⟨a, xs, g, e, _⟩ := r.lst_inv
    rw [e]; rfl
  | obj o c f l =>
    cases o with
    | true => simp only [Rep] at r; obtain ⟨_, _, _, _, e, _⟩ := r; rw [e]; rfl
    | false => simp only [Rep] at r; obtain ⟨_, _, _, e, _⟩ := r; rw [e]; rfl
  | tup l => simp only [Rep] at r; obtain ⟨_, _, e, _⟩ := r; rw [e]; rfl
  | _ => simp only [Rep] at r; rw [r.1]; rfl
theorem non_inv {v : V} {f : List Addr} (r : Rep Γ S H .non v f) : v = .non := by simp only [Rep] at r; exact r.1
theorem cmp_ok (K : X.K = Γ.K) (hu : X.A.units + 64 < cLine) (op : CmpOp) : ∃ r, OpR X (compareOp op) r ∧ OpS Γ r fun u v => (cmpD op u v).map .bl := by
  cases op with
  | Eq =>
    refine ⟨_, op_eqD hu, fun S H u v x y a b d Q lv rx ry e c => ?_⟩
    obtain ⟨k, hk, rfl⟩ := mapS e
    obtain ⟨h1, h2, rfl⟩ := eqD_inv (show eqD u v = some k from hk)
    obtain ⟨a1, a2, a3⟩ := dp_ok X.K K.symm 60 u x a h1 rx
    obtain ⟨b1, b2, b3⟩ := dp_ok X.K K.symm 60 v y b h2 ry
    exact ⟨_, _, a1, b1, shaped_ok a2 a3, shaped_ok b2 b3, c.same lv Rep.bl⟩
  | NotEq =>
    refine ⟨_, op_neD hu, fun S H u v x y a b d Q lv rx ry e c => ?_⟩
    obtain ⟨k, hk, rfl⟩ := mapS e
    obtain ⟨k2, hk2, rfl⟩ := mapS (show (eqD u v).map not = some k from hk)
    obtain ⟨h1, h2, rfl⟩ := eqD_inv hk2
    obtain ⟨a1, a2, a3⟩ := dp_ok X.K K.symm 60 u x a h1 rx
    obtain ⟨b1, b2, b3⟩ := dp_ok X.K K.symm 60 v y b h2 ry
    exact ⟨_, _, a1, b1, shaped_ok a2 a3, shaped_ok b2 b3, c.same lv Rep.bl⟩
  | Lt =>
    refine ⟨_, op_lt, cmpI_ok fun u v k h => ?_⟩
    cases u <;> cases v <;> first | cases h | skip
    exact ⟨_, _, rfl, rfl, rfl⟩
  | LtE =>
    refine ⟨_, op_le, cmpI_ok fun u v k h => ?_⟩
    cases u <;> cases v <;> first | cases h | skip
    exact ⟨_, _, rfl, rfl, rfl⟩
  | Gt =>
    refine ⟨_, op_gt, cmpI_ok fun u v k h => ?_⟩
    cases u <;> cases v <;> first | cases h | skip
    exact ⟨_, _, rfl, rfl, rfl⟩
  | GtE =>
    refine ⟨_, op_ge, cmpI_ok fun u v k h => ?_⟩
    cases u <;> cases v <;> first | cases h | skip
    exact ⟨_, _, rfl, rfl, rfl⟩
  | In => exact in_ok K
  | NotIn => exact notIn_ok K
  | Is =>
    refine ⟨_, op_isN, fun S H u v x y a b d Q lv rx ry e c => ?_⟩
    obtain ⟨k, hk, rfl⟩ := mapS e
    cases v <;> first | cases hk | skip
    refine ⟨non_inv ry, ?_⟩
    rw [isN_ok rx]
    exact c.same lv Rep.bl
  | IsNot =>
    refine ⟨_, op_notN, fun S H u v x y a b d Q lv rx ry e c => ?_⟩
    obtain ⟨k, hk, rfl⟩ := mapS e
    cases v <;> first | cases hk | skip
    refine ⟨non_inv ry, ?_⟩
    rw [isN_ok rx]
    exact c.same lv Rep.bl
theorem neg_ok : UnS Γ (rU fun i => .int (-i)) negD := fun S H u x g d Q lv rx e c => by
  cases u <;> first | cases e | skip
  rename_i i
  exact ⟨i, rx.int_inv, c.same lv Rep.int⟩

/-! ### items, slices -/
theorem atI_rep {ds : List D} {xs : List V} {f : List Addr} {i : Int} {d : D} (r : Reps Γ S H ds xs f) (h : atI ds i = some d) : ∃ v g, atI xs i = some v ∧ Rep Γ S H d v g ∧ ∀ a ∈ g, a ∈ f := by
  unfold atI at h ⊢
  rw [r.length]
  cases e : ixN ds.length i with
  | none => rw [e] at h; cases h
  | some j =>
    rw [e] at h
    obtain ⟨v, g, h1, h2, h3⟩ := Reps.get r (show ds[j]? = some d from h)
    exact ⟨v, g, h1, h2, h3⟩
theorem nil_of {g : List Addr} (h : ∀ a ∈ g, a ∈ ([] : List Addr)) : g = [] := by
  cases g with
  | nil => rfl
  | cons a _ => exact absurd (h a List.mem_cons_self) (by simp)
theorem ix_ok (K : X.K = Γ.K) : OpS Γ (rIx X.K) ixD := fun S H u v x y a b d Q lv rx ry e c => by
  cases u with
  | lst o l =>
    cases v <;> first | cases e | skip
    rename_i i
    simp only [ixD] at e
    cases hd : atI l i with
    | none => rw [hd] at e; cases e
    | some d0 =>
      rw [hd] at e
      obtain ⟨hf, rfl⟩ := ifB (show (if flat d0 = true then some d0 else none) = some d from e)
      obtain ⟨p, xs, g, rfl, s, rr, _⟩ := rx.lst_inv
      obtain ⟨w, g', h1, h2, _⟩ := atI_rep rr hd
      rw [h2.flat hf] at h2
      exact .inl ⟨p, xs, i, w, rfl, ry.int_inv, by rw [K]; exact s, h1, c.same lv h2⟩
  | tup l =>
    cases v <;> first | cases e | skip
    rename_i i
    obtain ⟨p, xs, rfl, s, rr⟩ := rx.tup_inv
    obtain ⟨w, g', h1, h2, h3⟩ := atI_rep rr (show atI l i = some d from e)
    rw [nil_of h3] at h2
    exact .inr (.inl ⟨p, xs, i, w, rfl, ry.int_inv, by rw [K]; exact s.seq, h1, c.same lv h2⟩)
  | str z =>
    cases v <;> first | cases e | skip
    rename_i i
    simp only [ixD] at e
    split at e
    · rename_i hz
      obtain ⟨cc, hc, rfl⟩ := mapS e
      exact .inr (.inr ⟨z, i, cc, rx.str_inv, ry.int_inv, by rw [← line_eq]; exact hz, hc, c.same lv Rep.str⟩)
    · cases e
  | _ => cases v <;> cases e
end
end PyD

/-! The interpreter is right: arguments, displays, calls. -/
namespace PyD
open PySem PySem.Spec PyProof.Rows L2
section
variable {Γ : Gd} {G : Gc} {X : Cx} {S S' S1 S2 : Addr → Prop} {H H' H0 H1 H2 : Hp} {σ : L2.St} {δ δ1 δ2 : Env} {fp fp0 fp1 fp2 : Fp} {d : D} {Q : VK}
theorem opnd_false {e : Expr} {v : Ev D} : opnd G e false v = fun δ => (v δ).map fun p => (.val p.1, p.2) := by
  funext δ
  cases e <;> rfl
theorem RepA.owned {a : Ar} {v : V} {f : List Addr} (r : RepA Γ S H σ a v f) : ∀ b ∈ f, S b ∧ H b ≠ none := by
  cases a with
  | val d => exact Rep.owned d v f r
  | ref i => rw [r.2]; exact fun _ z => nomatch z
theorem args_ok {v : Expr → Ev D} (O : XOk Γ G X) (h : ∀ e, PE X e (tE Γ (v e))) (hst : ∀ a p, v (.Starred a p) = fun _ => none) : ∀ (es : List Expr) (ms : List Bool), PA X es (tRs Γ (args G v es ms))
  | [], ms => by
    refine PA.mono pa_nil ?_
    rintro σ H Q ⟨S, δ, fp, as, δ', E, h, q⟩
    obtain ⟨rfl, rfl⟩ := pinj (show some (([] : List Ar), δ) = some (as, δ') from h)
    exact q S H fp [] [] (Pst.refl E) ⟨⟨rfl, rfl⟩, List.nodup_nil, fun _ z => (nomatch z), fun _ z => (nomatch z)⟩
  | e :: es, ms => by
    by_cases hs : ∃ a p, e = .Starred a p
    · obtain ⟨a, p, rfl⟩ := hs
      refine ⟨fun pos pins s σ H Q I ⟨S, δ, fp, as, δ', E, h, q⟩ => ?_⟩
      simp only [args] at h
      rw [hst] at h
      cases hm : ms.headD false <;> (rw [hm] at h; cases h)
    · have hse : ∀ env, starEach (e :: es) env = (false, eval e env) :: starEach es env := fun env => by
        cases e <;> first | rfl | exact absurd ⟨_, _, rfl⟩ hs
      refine PA.mono (pa_cons (opnd_ok (m := ms.headD false) O (h e)) (args_ok O h hst es ms.tail) (hse _)) ?_
      rintro σ H Q ⟨S, δ, fp, as, δ', E, h, q⟩
      simp only [args] at h
      split at h
      · rename_i a δ1 h1
        obtain ⟨⟨as', δ2⟩, h2, e2⟩ := mapS h
        obtain ⟨rfl, rfl⟩ : as = a :: as' ∧ δ' = δ2 := ⟨congrArg Prod.fst e2, congrArg Prod.snd e2⟩
        refine ⟨S, δ, fp, a, δ1, E, h1, fun S1 H1 fp1 x f1 p1 x1 => ?_⟩
        refine ⟨S1, δ1, fp1, as', _, p1.env, h2, fun S2 H2 fp2 ys f2 p2 y2 => ?_⟩
        have x2 := x1.hold p1.env p2
        refine q S2 H2 fp2 (x :: ys) (f1 :: f2) (Pst.trans E p1 p2) ⟨⟨x, ys, f1, f2, rfl, rfl, x2.rep, y2.rep⟩, ?_, ?_, ?_⟩
        · rw [List.flatten_cons]
          refine List.nodup_append.mpr ⟨x2.nd, y2.nd, fun b hb c hc e => ?_⟩
          subst e
          exact (y2.new b hc).elim (x1.dj b hb) (RepA.owned x1.rep b hb).2
        · rw [List.flatten_cons]
          exact fun b hb => (List.mem_append.mp hb).elim (x2.dj b) (y2.dj b)
        · rw [List.flatten_cons]
          exact fun b hb => (List.mem_append.mp hb).elim (x2.new b) fun hc => (y2.new b hc).elim (fun z => p1.wf z) fun z => .inr (none_of p1.stp z)
      · cases h
/-- without flags: values alone -/
theorem args_vals {v : Expr → Ev D} : ∀ {es : List Expr} {δ δ' : Env} {as : List Ar}, args G v es [] δ = some (as, δ') → ∃ ds : List D, as = ds.map Ar.val ∧ ds.length = es.length
  | [], δ, δ', as, h => by
    obtain ⟨rfl, rfl⟩ := pinj (show some (([] : List Ar), δ) = some (as, δ') from h)
    exact ⟨[], rfl, rfl⟩
  | e :: es, δ, δ', as, h => by
    simp only [args, List.headD_nil, List.tail_nil] at h
    rw [opnd_false] at h
    split at h
    · rename_i a δ1 h1
      obtain ⟨r, _, e1⟩ := mapS h1
      obtain ⟨⟨as', δ2⟩, h2, e2⟩ := mapS h
      obtain ⟨ds, rfl, l⟩ := args_vals h2
      refine ⟨r.1 :: ds, ?_, congrArg Nat.succ l⟩
      have ea : a = .val r.1 := congrArg Prod.fst e1
      have eb : as = a :: ds.map Ar.val := congrArg Prod.fst e2
      rw [eb, ea]; rfl
    · cases h
theorem looks_vals {ds : List D} : looks δ (ds.map Ar.val) = some ds := by
  induction ds with
  | nil => rfl
  | cons d ds ih => simp only [List.map_cons, looks, look, ih]
theorem repAs_vals : ∀ {ds : List D} {vs : List V} {f : List (List Addr)}, RepAs Γ S H σ (ds.map Ar.val) vs f → Reps Γ S H ds vs f.flatten
  | [], vs, f, r => by
    obtain ⟨rfl, rfl⟩ := r
    exact Reps.nil
  | d :: ds, vs, f, r => by
    obtain ⟨v, vs', f1, f2, rfl, rfl, r1, r2⟩ := r
    rw [List.flatten_cons]
    exact Reps.cons r1 (repAs_vals r2)
/-- operands' data, whoever owns them -/
def RepE (Γ : Gd) (S : Addr → Prop) (H : Hp) : List D → List V → Prop
  | [], xs => xs = []
  | d :: ds, xs => ∃ v vs g, xs = v :: vs ∧ Rep Γ S H d v g ∧ RepE Γ S H ds vs
theorem looks_ok (E : EnvOk Γ S H σ δ fp) : ∀ {as : List Ar} {vs : List V} {f : List (List Addr)} {ds : List D}, RepAs Γ S H σ as vs f → looks δ as = some ds → RepE Γ S H ds vs
  | [], vs, f, ds, r, h => by
    cases h
    exact r.1
  | a :: as, vs, f, ds, r, h => by
    obtain ⟨v, vs', f1, f2, rfl, rfl, r1, r2⟩ := r
    simp only [looks] at h
    split at h
    · rename_i d ds' h1 h2
      cases h
      obtain ⟨g, rd⟩ := look_ok E r1 h1
      exact ⟨v, vs', g, rfl, rd, looks_ok E r2 h2⟩
    · cases h
theorem clrs_length : ∀ ds : List D, (clrs ds).length = ds.length
  | [] => rfl
  | d :: ds => by show (clrs ds).length + 1 = ds.length + 1; rw [clrs_length ds]
/-- a tuple display: what it holds is sealed -/
theorem tup_ok {v : Expr → Ev D} {es : List Expr} {k : Nat} {pos : Pos} (O : XOk Γ G X) (h : ∀ e, PE X e (tE Γ (v e))) (hst : ∀ a p, v (.Starred a p) = fun _ => none) : PE X (.Tuple es k pos) (tE Γ (dispC (args G v es []) fun ds => .tup (clrs ds))) := by
  refine PE.mono (pe_tup (args_ok O h hst es [])) ?_
  rintro σ H Q ⟨S, δ, fp, d, δ', E, h, q⟩
  unfold dispC at h
  split at h
  · rename_i as δ1 h1
    obtain ⟨ds, rfl, _⟩ := args_vals h1
    rw [looks_vals] at h
    obtain ⟨hl, e⟩ := ifS (show (if ds.length ≤ line then some (D.tup (clrs ds), δ1) else none) = some (d, δ') from h)
    obtain ⟨rfl, rfl⟩ : d = .tup (clrs ds) ∧ δ' = δ1 := ⟨congrArg Prod.fst e, congrArg Prod.snd e⟩
    refine ⟨S, δ, fp, _, _, E, h1, fun S1 H1 fp1 xs f p1 x1 => ?_⟩
    have rr := repAs_vals x1.rep
    refine ⟨by rw [rr.length, ← line_eq]; exact hl, ?_⟩
    have p2 : Pst Γ S H fp (subS S1 f.flatten) H1 σ _ fp1 := Pst.give E p1 x1.dj (fun a ha => (Reps.owned ds xs _ rr a ha).1) x1.new
    have r2 : Reps Γ (subS S1 f.flatten) H1 (clrs ds) xs [] := Reps.clr (fun a n s => n s.1) ds xs _ (fun a ha s => s.2 ha) rr
    exact Cont.tup (Cont.of E p2 q) p2.env.lv r2
  · cases h
/-- a list display -/
theorem lst_ok {v : Expr → Ev D} {es : List Expr} {pos : Pos} (O : XOk Γ G X) (h : ∀ e, PE X e (tE Γ (v e))) (hst : ∀ a p, v (.Starred a p) = fun _ => none) : PE X (.List es pos) (tE Γ (dispC (args G v es []) (.lst .own))) := by
  refine PE.mono (pe_lst (args_ok O h hst es [])) ?_
  rintro σ H Q ⟨S, δ, fp, d, δ', E, h, q⟩
  unfold dispC at h
  split at h
  · rename_i as δ1 h1
    obtain ⟨ds, rfl, _⟩ := args_vals h1
    rw [looks_vals] at h
    obtain ⟨hl, e⟩ := ifS (show (if ds.length ≤ line then some (D.lst .own ds, δ1) else none) = some (d, δ') from h)
    obtain ⟨rfl, rfl⟩ : d = .lst .own ds ∧ δ' = δ1 := ⟨congrArg Prod.fst e, congrArg Prod.snd e⟩
    refine ⟨S, δ, fp, _, _, E, h1, fun S1 H1 fp1 xs f p1 x1 => ?_⟩
    have rr := repAs_vals x1.rep
    refine ⟨by rw [rr.length, ← line_eq]; exact hl, fun p hp => ?_⟩
    have pn : Pst Γ S1 H1 fp1 (addS S1 True p) (upd H1 p (.lst xs)) σ _ fp1 := EnvOk.new p1.env hp
    have own := Reps.owned ds xs _ rr
    refine q (addS S1 True p) _ fp1 (.ref p) (p :: f.flatten) (Pst.trans E p1 pn) ⟨?_, ?_, fun a ha => ?_, fun a ha => ?_⟩
    · simp only [Rep]
      exact ⟨p, xs, f.flatten, rfl, rfl, upd_same, .inr ⟨trivial, rfl⟩, rr.frame (W := fun _ => False) (stp_new hp (.inr trivial)) (fun _ z => z.elim) fun _ _ z => z⟩
    · refine List.nodup_cons.mpr ⟨fun hm => (own p hm).2 hp, x1.nd⟩
    · rcases List.mem_cons.mp ha with rfl | ha
      · exact fun w => p1.env.lv _ (p1.env.wf w) hp
      · exact x1.dj a ha
    · rcases List.mem_cons.mp ha with rfl | ha
      · exact .inr (none_of p1.stp hp)
      · exact x1.new a ha
  · cases h

/-! ### calls of defs -/
theorem EnvOk.drop (E : EnvOk Γ S H σ δ fp) (i : Nat) : EnvOk Γ S H σ (δ.set i none) (put fp i []) := by
  refine ⟨by rw [List.length_set]; exact E.len, fun j d' e' => ?_, fun j => ?_, fun j k a ha hb => ?_, fun j a ha => ?_, E.lv⟩
  · by_cases hj : j = i
    · subst hj
      by_cases hl : j < δ.length
      · rw [List.getElem?_set_self hl] at e'
        cases e'
      · rw [List.getElem?_eq_none (by rw [List.length_set]; omega)] at e'
        cases e'
    · rw [List.getElem?_set_ne (Ne.symm hj)] at e'
      obtain ⟨w, e1, r⟩ := E.slot j d' e'
      exact ⟨w, e1, by rw [put_ne hj]; exact r⟩
  · by_cases hj : j = i
    · rw [hj, put_same]; exact List.nodup_nil
    · rw [put_ne hj]; exact E.nd j
  · by_cases hj : j = i
    · rw [hj, put_same] at ha; cases ha
    · by_cases hk : k = i
      · rw [hk, put_same] at hb; cases hb
      · rw [put_ne hj] at ha
        rw [put_ne hk] at hb
        exact E.dj j k a ha hb
  · by_cases hj : j = i
    · rw [hj, put_same] at ha; cases ha
    · rw [put_ne hj] at ha; exact E.su j a ha
def fpTake (as : List Ar) (fp : Fp) : Fp := fun k => if k ∈ refsOf as then [] else fp k
theorem takes_ok : ∀ (as : List Ar) (δ : Env) (fp : Fp), EnvOk Γ S H σ δ fp → EnvOk Γ S H σ (takes as δ) (fpTake as fp)
  | [], δ, fp, E => by
    have e : fpTake [] fp = fp := by
      funext k
      exact if_neg (by simp [refsOf])
    rw [e]
    exact E
  | .val d :: as, δ, fp, E => takes_ok as δ fp E
  | .ref i :: as, δ, fp, E => by
    have := takes_ok as _ _ (E.drop i)
    have e : fpTake as (put fp i []) = fpTake (.ref i :: as) fp := by
      funext k
      unfold fpTake
      by_cases h1 : k ∈ refsOf as
      · rw [if_pos h1, if_pos (by simp only [refsOf, List.mem_cons]; exact .inr h1)]
      · rw [if_neg h1]
        by_cases h2 : k = i
        · subst h2; rw [put_same, if_pos (by simp only [refsOf, List.mem_cons]; exact .inl trivial)]
        · rw [put_ne h2, if_neg (by simp only [refsOf, List.mem_cons]; exact fun z => z.elim h2 h1)]
    rw [e] at this
    exact this
/-- laying back what the callee leaves: its slots are os from place j on -/
theorem backs_ok {fc : Fp} : ∀ (as : List Ar) (os : List (Option D)) (vs : List V) (j : Nat) (δ : Env) (fp : Fp), EnvOk Γ S H σ δ fp → as.length = os.length →
    (∀ (m : Nat) (i : Nat), as[m]? = some (.ref i) → ∃ v, vs[m]? = some v ∧ σ[i]? = some (some v)) →
    (∀ (m : Nat) (d : D) (v : V), os[m]? = some (some d) → vs[m]? = some v → Rep Γ S H d v (fc (j + m))) →
    (∀ m, (fc m).Nodup) → (∀ m n a, a ∈ fc m → a ∈ fc n → m = n) → (∀ m a, a ∈ fc m → S a) → (∀ m a, j ≤ m → a ∈ fc m → ¬ Wf fp a) →
    ∃ fp', EnvOk Γ S H σ (backs as os δ) fp' ∧ ∀ a, Wf fp' a → Wf fp a ∨ ∃ m, a ∈ fc m
  | [], os, vs, j, δ, fp, E, _, _, _, _, _, _, _ => by
    cases os <;> exact ⟨fp, E, fun a w => .inl w⟩
  | .val _ :: as, [], vs, j, δ, fp, E, l, _, _, _, _, _, _ => by cases l
  | .ref _ :: as, [], vs, j, δ, fp, E, l, _, _, _, _, _, _ => by cases l
  | .val e :: as, o :: os, vs, j, δ, fp, E, l, hr, ho, nd, dj, su, out => by
    refine backs_ok as os vs.tail (j + 1) δ fp E (Nat.succ.inj l) (fun m i h => ?_) (fun m d v h hv => ?_) nd dj su fun m a hm ha => out m a (by omega) ha
    · obtain ⟨v, h1, h2⟩ := hr (m + 1) i (by simpa using h)
      exact ⟨v, by rw [List.getElem?_tail]; exact h1, h2⟩
    · have := ho (m + 1) d v (by simpa using h) (by rw [List.getElem?_tail] at hv; exact hv)
      rw [show j + 1 + m = j + (m + 1) by omega]
      exact this
  | .ref i :: as, o :: os, vs, j, δ, fp, E, l, hr, ho, nd, dj, su, out => by
    obtain ⟨v0, hv0, hσ⟩ := hr 0 i rfl
    have hi : i < δ.length := by rw [← E.len]; exact (List.getElem?_eq_some_iff.mp hσ).1
    have step : ∃ fpn, EnvOk Γ S H σ (δ.set i o) fpn ∧ (∀ a, Wf fpn a → Wf fp a ∨ a ∈ fc j) := by
      cases o with
      | none =>
        refine ⟨_, E.drop i, fun a ⟨k, hk⟩ => .inl ?_⟩
        by_cases h : k = i
        · rw [h, put_same] at hk; cases hk
        · rw [put_ne h] at hk; exact ⟨k, hk⟩
      | some d =>
        have r := ho 0 d v0 rfl hv0
        refine ⟨put fp i (fc j), E.back (W0 := fun _ => True) (H0 := H) ⟨r, nd j, fun a ha => out j a (Nat.le_refl _) ha, fun _ _ => .inl trivial⟩ hi hσ, fun a ⟨k, hk⟩ => ?_⟩
        by_cases h : k = i
        · rw [h, put_same] at hk; exact .inr hk
        · rw [put_ne h] at hk; exact .inl ⟨k, hk⟩
    obtain ⟨fpn, En, wn⟩ := step
    obtain ⟨fp', E', w'⟩ := backs_ok as os vs.tail (j + 1) _ fpn En (Nat.succ.inj l) (fun m i h => by
      obtain ⟨v, h1, h2⟩ := hr (m + 1) i (by simpa using h)
      exact ⟨v, by rw [List.getElem?_tail]; exact h1, h2⟩) (fun m d v h hv => by
      have := ho (m + 1) d v (by simpa using h) (by rw [List.getElem?_tail] at hv; exact hv)
      rw [show j + 1 + m = j + (m + 1) by omega]
      exact this) nd dj su (fun m a hm ha w => (wn a w).elim (out m a (by omega) ha) fun h => by
        have := dj m j a ha h
        omega)
    exact ⟨fp', E', fun a w => (w' a w).elim (fun z => (wn a z).elim .inl fun h => .inr ⟨j, h⟩) .inr⟩
end
end PyD

/-! The interpreter is right: a call of a def. -/
namespace PyD
open PySem PySem.Spec PyProof.Rows L2
section
variable {Γ : Gd} {G : Gc} {X : Cx} {S S' S1 S2 : Addr → Prop} {H H' H0 H1 H2 : Hp} {σ : L2.St} {δ δ1 δ2 : Env} {fp fp0 fp1 fp2 : Fp} {d : D} {Q : VK}
def isStar : Expr → Bool
  | .Starred _ _ => true
  | _ => false
theorem args_star {v : Expr → Ev D} (hst : ∀ a p, v (.Starred a p) = fun _ => none) : ∀ (es : List Expr) (ms : List Bool) (δ : Env), es.any isStar = true → args G v es ms δ = none
  | [], _, _, h => by cases h
  | e :: es, ms, δ, h => by
    simp only [args]
    by_cases hs : isStar e = true
    · cases e <;> first | cases hs | skip
      rw [hst]
      cases hm : ms.headD false <;> rfl
    · rw [List.any_cons, (show isStar e = false by simpa using hs), Bool.false_or] at h
      split
      · rw [args_star hst es _ _ h]; rfl
      · rfl
theorem each_plain {e : Expr} (es : List Expr) (env : PySem.Env) (h : isStar e = false) : starEach (e :: es) env = (false, eval e env) :: starEach es env := by
  cases e <;> first | rfl | cases h
theorem any_plain (pos : Pos) (env : PySem.Env) : ∀ es : List Expr, es.any isStar = false → (backTo pos (starEach es env)).any (·.1) = false
  | [], _ => rfl
  | e :: es, h => by
    rw [List.any_cons, Bool.or_eq_false_iff] at h
    rw [each_plain es env h.1]
    show (false || (backTo pos (starEach es env)).any (·.1)) = false
    rw [any_plain pos env es h.2]; rfl

/-- what a callee's params own; what is sealed -/
def calF (fp : Fp) : List Ar → List Bool → List (List Addr) → List (List Addr)
  | .val _ :: as, true :: ms, f :: fs => f :: calF fp as ms fs
  | .val _ :: as, false :: ms, _ :: fs => [] :: calF fp as ms fs
  | .ref i :: as, _ :: ms, _ :: fs => fp i :: calF fp as ms fs
  | _, _, _ => []
def seaF : List Ar → List Bool → List (List Addr) → List Addr
  | .val _ :: as, true :: ms, _ :: fs => seaF as ms fs
  | .val _ :: as, false :: ms, f :: fs => f ++ seaF as ms fs
  | .ref _ :: as, _ :: ms, _ :: fs => seaF as ms fs
  | _, _, _ => []
theorem calF_mem {a : Addr} : ∀ {as : List Ar} {ms : List Bool} {fs : List (List Addr)}, a ∈ (calF fp as ms fs).flatten → (∃ i, i ∈ refsOf as ∧ a ∈ fp i) ∨ a ∈ fs.flatten
  | [], ms, fs, h => by simp [calF] at h
  | .val d :: as, [], fs, h => by simp [calF] at h
  | .ref i :: as, [], fs, h => by simp [calF] at h
  | .val d :: as, m :: ms, [], h => by cases m <;> simp [calF] at h
  | .ref i :: as, m :: ms, [], h => by simp [calF] at h
  | .val d :: as, true :: ms, f :: fs, h => by
    simp only [calF, List.flatten_cons, List.mem_append] at h
    rw [List.flatten_cons, List.mem_append]
    rcases h with h | h
    · exact .inr (.inl h)
    · exact (calF_mem h).imp (fun z => z) .inr
  | .val d :: as, false :: ms, f :: fs, h => by
    simp only [calF, List.flatten_cons, List.nil_append] at h
    rw [List.flatten_cons, List.mem_append]
    exact (calF_mem h).imp (fun z => z) .inr
  | .ref i :: as, m :: ms, f :: fs, h => by
    simp only [calF, List.flatten_cons, List.mem_append] at h
    rw [List.flatten_cons, List.mem_append]
    rcases h with h | h
    · exact .inl ⟨i, by simp [refsOf], h⟩
    · exact (calF_mem h).imp (fun ⟨k, hk, z⟩ => ⟨k, by simp only [refsOf, List.mem_cons]; exact .inr hk, z⟩) .inr
theorem seaF_mem {a : Addr} : ∀ {as : List Ar} {ms : List Bool} {fs : List (List Addr)}, a ∈ seaF as ms fs → a ∈ fs.flatten
  | [], ms, fs, h => by simp [seaF] at h
  | .val d :: as, [], fs, h => by simp [seaF] at h
  | .ref i :: as, [], fs, h => by simp [seaF] at h
  | .val d :: as, m :: ms, [], h => by cases m <;> simp [seaF] at h
  | .ref i :: as, m :: ms, [], h => by simp [seaF] at h
  | .val d :: as, true :: ms, f :: fs, h => by
    rw [List.flatten_cons, List.mem_append]
    exact .inr (seaF_mem (as := as) (ms := ms) h)
  | .val d :: as, false :: ms, f :: fs, h => by
    simp only [seaF, List.mem_append] at h
    rw [List.flatten_cons, List.mem_append]
    exact h.imp (fun z => z) seaF_mem
  | .ref i :: as, m :: ms, f :: fs, h => by
    rw [List.flatten_cons, List.mem_append]
    exact .inr (seaF_mem (as := as) (ms := ms) h)
/-- what is kept is not sealed -/
theorem calF_sea {a : Addr} : ∀ {as : List Ar} {ms : List Bool} {fs : List (List Addr)}, fs.flatten.Nodup → a ∈ (calF fp as ms fs).flatten → a ∈ seaF as ms fs → Wf fp a
  | [], ms, fs, _, h, _ => by simp [calF] at h
  | .val d :: as, [], fs, _, h, _ => by simp [calF] at h
  | .ref i :: as, [], fs, _, h, _ => by simp [calF] at h
  | .val d :: as, m :: ms, [], _, h, _ => by cases m <;> simp [calF] at h
  | .ref i :: as, m :: ms, [], _, h, _ => by simp [calF] at h
  | .val d :: as, true :: ms, f :: fs, nd, h, h2 => by
    simp only [calF, List.flatten_cons, List.mem_append] at h
    rw [List.flatten_cons, List.nodup_append] at nd
    rcases h with h | h
    · exact absurd rfl (nd.2.2 a h a (seaF_mem (as := as) (ms := ms) h2))
    · exact calF_sea nd.2.1 h (show a ∈ seaF as ms fs from h2)
  | .val d :: as, false :: ms, f :: fs, nd, h, h2 => by
    simp only [calF, List.flatten_cons, List.nil_append] at h
    rw [List.flatten_cons, List.nodup_append] at nd
    simp only [seaF, List.mem_append] at h2
    rcases h2 with h2 | h2
    · rcases calF_mem h with ⟨i, _, z⟩ | z
      · exact ⟨i, z⟩
      · exact absurd rfl (nd.2.2 a h2 a z)
    · exact calF_sea nd.2.1 h h2
  | .ref i :: as, m :: ms, f :: fs, nd, h, h2 => by
    simp only [calF, List.flatten_cons, List.mem_append] at h
    rw [List.flatten_cons, List.nodup_append] at nd
    rcases h with h | h
    · exact ⟨i, h⟩
    · exact calF_sea nd.2.1 h (show a ∈ seaF as ms fs from h2)
theorem calF_nd (dj : ∀ i j a, a ∈ fp i → a ∈ fp j → i = j) (nf : ∀ i, (fp i).Nodup) : ∀ {as : List Ar} {ms : List Bool} {fs : List (List Addr)}, (refsOf as).Nodup → fs.flatten.Nodup → (∀ a ∈ fs.flatten, ¬ Wf fp a) → (calF fp as ms fs).flatten.Nodup
  | [], ms, fs, _, _, _ => by simp [calF]
  | .val d :: as, [], fs, _, _, _ => by simp [calF]
  | .ref i :: as, [], fs, _, _, _ => by simp [calF]
  | .val d :: as, m :: ms, [], _, _, _ => by cases m <;> simp [calF]
  | .ref i :: as, m :: ms, [], _, _, _ => by simp [calF]
  | .val d :: as, true :: ms, f :: fs, nr, nd, out => by
    rw [List.flatten_cons, List.nodup_append] at nd
    simp only [calF, List.flatten_cons]
    refine List.nodup_append.mpr ⟨nd.1, calF_nd dj nf nr nd.2.1 fun a ha => out a (by rw [List.flatten_cons]; exact List.mem_append_right _ ha), fun a ha b hb e => ?_⟩
    subst e
    rcases calF_mem hb with ⟨i, _, z⟩ | z
    · exact out a (by rw [List.flatten_cons]; exact List.mem_append_left _ ha) ⟨i, z⟩
    · exact nd.2.2 a ha a z rfl
  | .val d :: as, false :: ms, f :: fs, nr, nd, out => by
    rw [List.flatten_cons, List.nodup_append] at nd
    simp only [calF, List.flatten_cons, List.nil_append]
    exact calF_nd dj nf nr nd.2.1 fun a ha => out a (by rw [List.flatten_cons]; exact List.mem_append_right _ ha)
  | .ref i :: as, m :: ms, f :: fs, nr, nd, out => by
    rw [List.flatten_cons, List.nodup_append] at nd
    simp only [refsOf, List.nodup_cons] at nr
    simp only [calF, List.flatten_cons]
    refine List.nodup_append.mpr ⟨nf i, calF_nd dj nf nr.2 nd.2.1 fun a ha => out a (by rw [List.flatten_cons]; exact List.mem_append_right _ ha), fun a ha b hb e => ?_⟩
    subst e
    rcases calF_mem hb with ⟨j, hj, z⟩ | z
    · have := dj i j a ha z
      subst this
      exact nr.1 hj
    · exact out a (by rw [List.flatten_cons]; exact List.mem_append_right _ z) ⟨i, ha⟩
theorem flat_get {L : List (List Addr)} (h : L.flatten.Nodup) : ∀ m n a, a ∈ L.getD m [] → a ∈ L.getD n [] → m = n := by
  induction L with
  | nil => intro m n a ha; simp at ha
  | cons f L ih =>
    intro m n a ha hb
    rw [List.flatten_cons, List.nodup_append] at h
    have mem : ∀ k, a ∈ L.getD k [] → a ∈ L.flatten := fun k hk => by
      rw [List.getD_eq_getElem?_getD] at hk
      cases e : L[k]? with
      | none => rw [e] at hk; simp at hk
      | some g =>
        rw [e] at hk
        exact List.mem_flatten.mpr ⟨g, List.mem_of_getElem? e, hk⟩
    cases m with
    | zero =>
      cases n with
      | zero => rfl
      | succ n => exact absurd rfl (h.2.2 a (by simpa using ha) a (mem n (by simpa using hb)))
    | succ m =>
      cases n with
      | zero => exact absurd rfl (h.2.2 a (by simpa using hb) a (mem m (by simpa using ha)))
      | succ n => rw [ih h.2.1 m n a (by simpa using ha) (by simpa using hb)]
theorem flat_nd {L : List (List Addr)} (h : L.flatten.Nodup) (m : Nat) : (L.getD m []).Nodup := by
  rw [List.getD_eq_getElem?_getD]
  cases e : L[m]? with
  | none => exact List.nodup_nil
  | some g => exact h.sublist (List.sublist_flatten_of_mem (List.mem_of_getElem? e))
theorem flat_mem {L : List (List Addr)} {m : Nat} {a : Addr} (h : a ∈ L.getD m []) : a ∈ L.flatten := by
  rw [List.getD_eq_getElem?_getD] at h
  cases e : L[m]? with
  | none => rw [e] at h; simp at h
  | some g =>
    rw [e] at h
    exact List.mem_flatten.mpr ⟨g, List.mem_of_getElem? e, h⟩
theorem refs_seal : ∀ (as : List Ar) (ms : List Bool), refsOf (sealA as ms) = refsOf as
  | [], ms => by cases ms <;> rfl
  | .val d :: as, [] => rfl
  | .ref i :: as, [] => rfl
  | .val d :: as, true :: ms => refs_seal as ms
  | .val d :: as, false :: ms => refs_seal as ms
  | .ref i :: as, m :: ms => by simp only [sealA, refsOf, refs_seal as ms]
theorem seal_len : ∀ (as : List Ar) (ms : List Bool), (sealA as ms).length = as.length
  | [], ms => by cases ms <;> rfl
  | .val d :: as, [] => rfl
  | .ref i :: as, [] => rfl
  | .val d :: as, true :: ms => congrArg Nat.succ (seal_len as ms)
  | .val d :: as, false :: ms => congrArg Nat.succ (seal_len as ms)
  | .ref i :: as, m :: ms => congrArg Nat.succ (seal_len as ms)
theorem seal_ref : ∀ (as : List Ar) (ms : List Bool) (m i : Nat), (sealA as ms)[m]? = some (.ref i) → as[m]? = some (.ref i)
  | [], ms, m, i, h => by cases ms <;> simp [sealA] at h
  | .val d :: as, [], m, i, h => h
  | .ref j :: as, [], m, i, h => h
  | .val d :: as, true :: ms, 0, i, h => by simp [sealA] at h
  | .val d :: as, false :: ms, 0, i, h => by simp [sealA] at h
  | .ref j :: as, _ :: ms, 0, i, h => by simpa [sealA] using h
  | .val d :: as, true :: ms, m + 1, i, h => by
    simp only [sealA, List.getElem?_cons_succ] at h ⊢
    exact seal_ref as ms m i h
  | .val d :: as, false :: ms, m + 1, i, h => by
    simp only [sealA, List.getElem?_cons_succ] at h ⊢
    exact seal_ref as ms m i h
  | .ref j :: as, _ :: ms, m + 1, i, h => by
    simp only [sealA, List.getElem?_cons_succ] at h ⊢
    exact seal_ref as ms m i h
theorem repAs_ref : ∀ {as : List Ar} {vs : List V} {fs : List (List Addr)} {m i : Nat}, RepAs Γ S H σ as vs fs → as[m]? = some (.ref i) → ∃ v, vs[m]? = some v ∧ σ[i]? = some (some v)
  | [], vs, fs, m, i, r, h => by simp at h
  | a :: as, vs, fs, 0, i, r, h => by
    obtain ⟨v, vs', f1, f2, rfl, rfl, r1, r2⟩ := r
    simp at h
    subst h
    exact ⟨v, rfl, r1.1⟩
  | a :: as, vs, fs, m + 1, i, r, h => by
    obtain ⟨v, vs', f1, f2, rfl, rfl, r1, r2⟩ := r
    obtain ⟨w, h1, h2⟩ := repAs_ref r2 (by simpa using h)
    exact ⟨w, by simpa using h1, h2⟩
/-- the callee's params -/
theorem callee {T : List Addr} (E : EnvOk Γ S H σ δ fp) (hT : ∀ a ∈ T, ¬ Wf fp a) : ∀ {as : List Ar} {ms : List Bool} {vs : List V} {fs : List (List Addr)} {ds : List D}, as.length = ms.length → RepAs Γ S H σ as vs fs → looks δ (sealA as ms) = some ds →
    (∀ a ∈ seaF as ms fs, a ∈ T) → (∀ a ∈ (calF fp as ms fs).flatten, a ∉ T) → vs.length = ds.length ∧ ∀ j d, ds[j]? = some d → ∃ v, vs[j]? = some v ∧ Rep Γ (subS S T) H d v ((calF fp as ms fs).getD j [])
  | [], ms, vs, fs, ds, l, r, h, _, _ => by
    cases ms with
    | nil =>
      cases h
      rw [r.1]
      exact ⟨rfl, fun j d e => by simp at e⟩
    | cons _ _ => cases l
  | a :: as, [], vs, fs, ds, l, r, h, _, _ => by cases l
  | a :: as, m :: ms, vs, fs, ds, l, r, h, hs, hc => by
    obtain ⟨v, vs', f1, f2, rfl, rfl, r1, r2⟩ := r
    have mv : ∀ {d : D} {f : List Addr}, Rep Γ S H d v f → (∀ b ∈ f, b ∉ T) → Rep Γ (subS S T) H d v f := fun {d f} r nt =>
      Rep.move (fun _ _ e _ => e) (fun _ _ n z => n z.1) d v f (fun b hb => ⟨fun _ e => e, fun z => ⟨z, nt b hb⟩⟩) r
    have key : ∀ (a' : Ar) (g : List Addr), sealA (a :: as) (m :: ms) = a' :: sealA as ms → calF fp (a :: as) (m :: ms) (f1 :: f2) = g :: calF fp as ms f2 → (∀ b ∈ seaF as ms f2, b ∈ T) →
        (∀ d, look δ a' = some d → Rep Γ (subS S T) H d v g) → (v :: vs').length = ds.length ∧ ∀ j d, ds[j]? = some d → ∃ w, (v :: vs')[j]? = some w ∧ Rep Γ (subS S T) H d w ((calF fp (a :: as) (m :: ms) (f1 :: f2)).getD j []) := by
      intro a' g e1 e2 hs' hd
      rw [e1] at h
      simp only [looks] at h
      split at h
      · rename_i d0 ds' h1 h2
        cases h
        rw [e2] at hc ⊢
        obtain ⟨l', q⟩ := callee E hT (Nat.succ.inj l) r2 h2 hs' fun b hb => hc b (by rw [List.flatten_cons]; exact List.mem_append_right _ hb)
        refine ⟨congrArg Nat.succ l', fun j d e => ?_⟩
        cases j with
        | zero =>
          simp at e
          subst e
          exact ⟨v, rfl, hd _ h1⟩
        | succ j =>
          obtain ⟨w, q1, q2⟩ := q j d (by simpa using e)
          exact ⟨w, by simpa using q1, by simpa using q2⟩
      · cases h
    cases a with
    | ref i =>
      refine key (.ref i) (fp i) (by cases m <;> rfl) (by cases m <;> rfl) (fun b hb => hs b (by cases m <;> exact hb)) fun d hd => ?_
      obtain ⟨w, e1, rw'⟩ := E.slot i d (look_ref hd)
      rw [r1.1] at e1
      cases e1
      exact mv rw' fun b hb z => hT b z ⟨i, hb⟩
    | val d0 =>
      cases m with
      | true =>
        refine key (.val d0) f1 rfl rfl (fun b hb => hs b hb) fun d hd => ?_
        cases hd
        exact mv r1 fun b hb => hc b (by simp only [calF, List.flatten_cons]; exact List.mem_append_left _ hb)
      | false =>
        refine key (.val (PyD.clr d0)) [] rfl rfl (fun b hb => hs b (by simp only [seaF]; exact List.mem_append_right _ hb)) fun d hd => ?_
        cases hd
        exact Rep.clr (fun b n z => n z.1) d0 v f1 (fun b hb z => z.2 (hs b (by simp only [seaF]; exact List.mem_append_left _ hb))) r1
/-- THE CALL -/
theorem callA_ok {as : List Ar} {ms : List Bool} {vs : List V} {fs : List (List Addr)} {f : Str} {call : Str → List D → Option (D × List (Option D))} {E0 : XK} (E : EnvOk Γ S H σ δ fp) (p1 : Pst Γ S H fp S1 H1 σ δ1 fp1) (x1 : Vas Γ S1 H1 σ as vs fs fp1 (Wf fp) H) (hl : as.length = ms.length)
    (h : callA call f (sealA as ms) δ1 = some (d, δ2)) (q : ∀ S' H' fp' v f, Pst Γ S H fp S' H' σ δ2 fp' → Vp Γ S' H' d v f fp' (Wf fp) H → Q v H') : spD Γ call f vs H1 Q E0 := by
  unfold callA at h
  split at h
  · rename_i hn
    have hn := of_decide_eq_true hn
    rw [refs_seal] at hn
    split at h
    · rename_i ds hds
      split at h
      · rename_i d0 os hcall
        obtain ⟨hos, e⟩ := ifS h
        obtain ⟨rfl, rfl⟩ : d = d0 ∧ δ2 = backs (sealA as ms) os (takes (sealA as ms) δ1) := ⟨congrArg Prod.fst e, congrArg Prod.snd e⟩
        have E1 := p1.env
        generalize hT : seaF as ms fs = T
        have Tfs : ∀ a ∈ T, a ∈ fs.flatten := fun a ha => seaF_mem (hT ▸ ha)
        have Town : ∀ a ∈ fs.flatten, S1 a := by
          have aux : ∀ {as : List Ar} {vs : List V} {fs : List (List Addr)}, RepAs Γ S1 H1 σ as vs fs → ∀ a ∈ fs.flatten, S1 a := by
            intro as
            induction as with
            | nil => intro vs fs r a ha; rw [r.2] at ha; simp at ha
            | cons b as ih =>
              intro vs fs r a ha
              obtain ⟨v, vs', f1, f2, rfl, rfl, r1, r2⟩ := r
              rw [List.flatten_cons] at ha
              exact (List.mem_append.mp ha).elim (fun z => (RepA.owned r1 a z).1) (ih r2 a)
          exact aux x1.rep
        have TW : ∀ a ∈ T, ¬ Wf fp1 a := fun a ha => x1.dj a (Tfs a ha)
        have p2 : Pst Γ S H fp (subS S1 T) H1 σ δ1 fp1 := Pst.give E p1 TW (fun a ha => Town a (Tfs a ha)) fun a ha => x1.new a (Tfs a ha)
        generalize hC : calF fp1 as ms fs = C
        have Cnd : C.flatten.Nodup := hC ▸ calF_nd E1.dj E1.nd hn x1.nd x1.dj
        have CT : ∀ a ∈ C.flatten, a ∉ T := fun a ha hb => TW a hb (calF_sea x1.nd (hC ▸ ha) (hT ▸ hb))
        have Cmem : ∀ a ∈ C.flatten, (∃ i, i ∈ refsOf as ∧ a ∈ fp1 i) ∨ a ∈ fs.flatten := fun a ha => calF_mem (hC ▸ ha)
        have CS : ∀ a ∈ C.flatten, subS S1 T a := fun a ha => ⟨(Cmem a ha).elim (fun ⟨i, _, z⟩ => E1.su i a z) (Town a), CT a ha⟩
        obtain ⟨len, slots⟩ := callee E1 TW hl x1.rep hds (fun a ha => hT ▸ ha) (fun a ha => CT a (hC ▸ ha))
        rw [hC] at slots
        let fc : Fp := fun j => C.getD j []
        have Ec : EnvOk Γ (subS S1 T) H1 (vs.map some) (ds.map some) fc := by
          refine ⟨by rw [List.length_map, List.length_map, len], fun i d e => ?_, fun i => flat_nd Cnd i, fun i j a ha hb => flat_get Cnd i j a ha hb, fun i a ha => CS a (flat_mem ha), p2.env.lv⟩
          rw [List.getElem?_map] at e
          cases e2 : ds[i]? with
          | none => rw [e2] at e; cases e
          | some d' =>
            rw [e2] at e
            cases e
            obtain ⟨v, e3, r⟩ := slots i d e2
            exact ⟨v, by rw [List.getElem?_map, e3]; rfl, r⟩
        have fcW : ∀ a, Wf fc a → a ∈ C.flatten := fun a ⟨j, hj⟩ => flat_mem hj
        have fcNew : ∀ a, Wf fc a → Wf fp a ∨ H a = none := fun a w => (Cmem a (fcW a w)).elim (fun ⟨i, _, z⟩ => p1.new i a z) (x1.new a)
        have fcOut : ∀ a, Wf fc a → ¬ Wf (fpTake (sealA as ms) fp1) a := fun a w ⟨k, hk⟩ => by
          unfold fpTake at hk
          rw [refs_seal] at hk
          by_cases h1 : k ∈ refsOf as
          · rw [if_pos h1] at hk; cases hk
          · rw [if_neg h1] at hk
            rcases Cmem a (fcW a w) with ⟨i, hi, z⟩ | z
            · have := E1.dj i k a z hk
              subst this
              exact h1 hi
            · exact x1.dj a z ⟨k, hk⟩
        have dlen : ds.length = as.length := by
          have aux : ∀ {l : List Ar} {ds : List D}, looks δ1 l = some ds → ds.length = l.length := by
            intro l
            induction l with
            | nil => intro ds h; cases h; rfl
            | cons b l ih =>
              intro ds h
              simp only [looks] at h
              split at h
              · rename_i h1 h2
                cases h
                exact congrArg Nat.succ (ih h2)
              · cases h
          rw [aux hds, seal_len]
        refine ⟨subS S1 T, ds, fc, _, os, Ec, hcall, by rw [hos, seal_len, dlen], fun S' H' fp' v g p' x' => ?_⟩
        have Et : EnvOk Γ (subS S1 T) H1 σ (takes (sealA as ms) δ1) (fpTake (sealA as ms) fp1) := takes_ok _ _ _ p2.env
        have tS : ∀ a, Wf (fpTake (sealA as ms) fp1) a → H1 a ≠ none := fun a w => Et.lv a (Et.wf w)
        have Et' : EnvOk Γ S' H' σ (takes (sealA as ms) δ1) (fpTake (sealA as ms) fp1) := Et.stp p'.stp (fun a w => .inl (CS a (fcW a w))) fcOut p'.env.lv
        obtain ⟨fp'', E'', w''⟩ := backs_ok (fc := fp') (sealA as ms) os vs 0 _ _ Et' hos.symm (fun m i hm => repAs_ref x1.rep (seal_ref as ms m i hm)) (fun m d' v' hm hv => by
          obtain ⟨u, e1, r⟩ := p'.env.slot m d' hm
          rw [List.getElem?_map, hv] at e1
          cases e1
          rw [Nat.zero_add]
          exact r) p'.env.nd p'.env.dj p'.env.su (fun m a _ ha w => (p'.new m a ha).elim (fun z => fcOut a z w) (tS a w))
        have stp : Stp (Wf fp) S H S' H' := p2.stp.trans p'.stp fcNew E.lv
        have tN : ∀ a, Wf (fpTake (sealA as ms) fp1) a → Wf fp a ∨ H a = none := fun a ⟨k, hk⟩ => by
          unfold fpTake at hk
          split at hk
          · cases hk
          · exact p1.new k a hk
        have since : ∀ a, Wf fc a ∨ H1 a = none → Wf fp a ∨ H a = none := fun a z => z.elim (fcNew a) fun z => .inr (none_of p2.stp z)
        refine q S' H' fp'' v g ⟨E'', stp, fun i a ha => (w'' a ⟨i, ha⟩).elim (tN a) fun ⟨m, hm⟩ => since a (p'.new m a hm)⟩ ⟨x'.rep, x'.nd, fun a ha w => (w'' a w).elim (fun z => (x'.new a ha).elim (fun y => fcOut a y z) (tS a z)) fun ⟨m, hm⟩ => x'.dj a ha ⟨m, hm⟩, fun a ha => since a (x'.new a ha)⟩
      · cases h
    · cases h
  · cases h
theorem call_ok {v : Expr → Ev D} {es : List Expr} {f : Str} {p pos : Pos} {ms : List Bool} (O : XOk Γ G X) (h : ∀ e, PE X e (tE Γ (v e))) (hst : ∀ a p, v (.Starred a p) = fun _ => none) (hg : G.gl f = true) (hm : G.mode f = some ms) (hl : ms.length = es.length) :
    PE X (.Call (.Name f p) es [] pos) (tE Γ (callC (args G v es ms) G.call f ms)) := by
  obtain ⟨g1, g2⟩ := gl_ok O hg
  obtain ⟨k, fa, fd, ps, F⟩ := O.call f ms hm
  by_cases hs : es.any isStar = true
  · refine PE.mono (PE.no Γ) ?_
    rintro σ H Q ⟨S, δ, fp, d, δ', E, h, q⟩
    unfold callC at h
    rw [args_star hst es ms δ hs] at h
    cases h
  · have hs : es.any isStar = false := by simpa using hs
    have alen : ∀ {es : List Expr} {ms : List Bool} {δ δ' : Env} {as : List Ar}, args G v es ms δ = some (as, δ') → as.length = es.length := by
      intro es
      induction es with
      | nil => intro ms δ δ' as h; obtain ⟨rfl, rfl⟩ := pinj (show some (([] : List Ar), δ) = some (as, δ') from h); rfl
      | cons e es ih =>
        intro ms δ δ' as h
        simp only [args] at h
        split at h
        · obtain ⟨r, h2, e2⟩ := mapS h
          have ea : as = _ :: r.1 := congrArg Prod.fst e2
          rw [ea]
          exact congrArg Nat.succ (ih (δ' := r.2) h2)
        · cases h
    have key : ∀ σ H Q, tE Γ (callC (args G v es ms) G.call f ms) σ H Q → (tRs Γ (args G v es ms)) σ H fun vs H1 => spD Γ G.call f (vs ++ []) H1 Q E0 := by
      rintro σ H Q ⟨S, δ, fp, d, δ', E, h, q⟩
      unfold callC at h
      split at h
      · rename_i as δ1 h1
        refine ⟨S, δ, fp, as, δ1, E, h1, fun S1 H1 fp1 vs fs p1 x1 => ?_⟩
        show spD Γ G.call f (vs ++ []) H1 Q E0
        rw [List.append_nil]
        exact callA_ok E p1 x1 (by rw [alen h1, hl]) h q
      · cases h
    cases es with
    | nil =>
      refine PE.mono (pe_call0 F.fn F.room g1 F.mg F.kp F.bd .nil pass0 g2) fun σ H Q h => ?_
      obtain ⟨S, δ, fp, as, δ', E, h1, q⟩ := key σ H Q h
      obtain ⟨rfl, rfl⟩ := pinj (show some (([] : List Ar), δ) = some (as, δ') from h1)
      exact q S H fp [] [] (Pst.refl E) ⟨⟨rfl, rfl⟩, List.nodup_nil, fun _ z => (nomatch z), fun _ z => (nomatch z)⟩
    | cons e es =>
      rw [List.any_cons, Bool.or_eq_false_iff] at hs
      exact PE.mono (pe_call F.fn F.room g1 F.mg F.kp F.bd .nil pass0 (args_ok O h hst (e :: es) ms) g2 (each_plain es _ hs.1) (any_plain pos _ es hs.2)) key
end
end PyD

/-! The interpreter is right: the other expressions. -/
namespace PyD
open PySem PySem.Spec PyProof.Rows L2
section
variable {Γ : Gd} {G : Gc} {X : Cx} {S S' S1 S2 : Addr → Prop} {H H' H0 H1 H2 : Hp} {σ : L2.St} {δ δ1 δ2 : Env} {fp fp0 fp1 fp2 : Fp} {d : D} {Q : VK}
theorem int_val {x : V} {f : List Addr} {i : Int} {W0 : Addr → Prop} (x1 : Vp Γ S H (.int i) x f fp W0 H0) : x = .int i := x1.rep.int_inv
theorem bl_val {x : V} {f : List Addr} {i : Bool} {W0 : Addr → Prop} (x1 : Vp Γ S H (.bl i) x f fp W0 H0) : x = .bl i := x1.rep.bl_inv

theorem and_ok {a b : Expr} {r : List Expr} {p : Pos} {va vb : Ev D} (ha : PE X a (tE Γ va)) (hb : PE X (.BoolOp .And (b :: r) p) (tE Γ vb)) : PE X (.BoolOp .And (a :: b :: r) p) (tE Γ (andC va vb)) := by
  refine PE.mono (pe_and ha hb) ?_
  rintro σ H Q ⟨S, δ, fp, d, δ', E, h, q⟩
  unfold andC at h
  split at h
  · rename_i δ1 h1
    exact ⟨S, δ, fp, _, δ1, E, h1, fun S1 H1 fp1 x f p1 x1 => ⟨true, bl_val x1, by
      rw [if_pos rfl]
      exact ⟨S1, δ1, fp1, d, δ', p1.env, h, fun S2 H2 fp2 y g p2 y2 => q S2 H2 fp2 y g (Pst.trans E p1 p2) (y2.since p1)⟩⟩⟩
  · rename_i δ1 h1
    obtain ⟨rfl, rfl⟩ := pinj h
    exact ⟨S, δ, fp, _, _, E, h1, fun S1 H1 fp1 x f p1 x1 => ⟨false, bl_val x1, by
      rw [if_neg (by decide)]
      exact q S1 H1 fp1 (.bl false) [] p1 (Vp.flat Rep.bl)⟩⟩
  · cases h
theorem or_ok {a b : Expr} {r : List Expr} {p : Pos} {va vb : Ev D} (ha : PE X a (tE Γ va)) (hb : PE X (.BoolOp .Or (b :: r) p) (tE Γ vb)) : PE X (.BoolOp .Or (a :: b :: r) p) (tE Γ (orC va vb)) := by
  refine PE.mono (pe_or ha hb) ?_
  rintro σ H Q ⟨S, δ, fp, d, δ', E, h, q⟩
  unfold orC at h
  split at h
  · rename_i δ1 h1
    exact ⟨S, δ, fp, _, δ1, E, h1, fun S1 H1 fp1 x f p1 x1 => ⟨false, bl_val x1, by
      rw [if_neg (by decide)]
      exact ⟨S1, δ1, fp1, d, δ', p1.env, h, fun S2 H2 fp2 y g p2 y2 => q S2 H2 fp2 y g (Pst.trans E p1 p2) (y2.since p1)⟩⟩⟩
  · rename_i δ1 h1
    obtain ⟨rfl, rfl⟩ := pinj h
    exact ⟨S, δ, fp, _, _, E, h1, fun S1 H1 fp1 x f p1 x1 => ⟨true, bl_val x1, by
      rw [if_pos rfl]
      exact q S1 H1 fp1 (.bl true) [] p1 (Vp.flat Rep.bl)⟩⟩
  · cases h
theorem ifx_ok {c a b : Expr} {p : Pos} {tc : Ev Bool} {va vb : Ev D} (hc : PT X c (tB Γ tc)) (ha : PE X a (tE Γ va)) (hb : PE X b (tE Γ vb)) : PE X (.IfExp c a b p) (tE Γ (iteC tc va vb)) := by
  refine PE.mono (pe_ifExp hc ha hb) ?_
  rintro σ H Q ⟨S, δ, fp, d, δ', E, h, q⟩
  unfold iteC at h
  split at h
  · rename_i δ1 h1
    exact ⟨S, δ, fp, true, δ1, E, h1, fun S1 H1 fp1 p1 => by
      exact (show tE Γ va σ H1 Q from ⟨S1, δ1, fp1, d, δ', p1.env, h, fun S2 H2 fp2 y g p2 y2 => q S2 H2 fp2 y g (Pst.trans E p1 p2) (y2.since p1)⟩)⟩
  · rename_i δ1 h1
    exact ⟨S, δ, fp, false, δ1, E, h1, fun S1 H1 fp1 p1 => by
      exact (show tE Γ vb σ H1 Q from ⟨S1, δ1, fp1, d, δ', p1.env, h, fun S2 H2 fp2 y g p2 y2 => q S2 H2 fp2 y g (Pst.trans E p1 p2) (y2.since p1)⟩)⟩
  · cases h
theorem not_okT {a : Expr} {p : Pos} {tc : Ev Bool} (hc : PT X a (tB Γ tc)) : PT X (.UnaryOp .Not a p) (tB Γ (notC tc)) := by
  refine PT.mono (pt_not hc) ?_
  rintro σ H Q ⟨S, δ, fp, b, δ', E, h, q⟩
  obtain ⟨⟨b0, δ0⟩, h1, e⟩ := mapS h
  have e1 : b = !b0 := congrArg Prod.fst e
  have e2 : δ' = δ0 := congrArg Prod.snd e
  subst e1 e2
  exact ⟨S, δ, fp, b0, _, E, h1, fun S1 H1 fp1 p1 => q S1 H1 fp1 p1⟩
/-- not as a value: a def's own evaluation of its operand as a value, a bool -/
theorem not_okE {a : Expr} {p : Pos} {va : Ev D} (ha : PE X a (tE Γ va)) : PE X (.UnaryOp .Not a p) (tE Γ (blC (notC (asT va)))) := by
  refine PE.mono (pe_not ha) ?_
  rintro σ H Q ⟨S, δ, fp, d, δ', E, h, q⟩
  obtain ⟨⟨b1, δ1⟩, h1, e1⟩ := mapS h
  obtain ⟨⟨b0, δ0⟩, h0, e0⟩ := mapS h1
  have hd : d = .bl (!b0) ∧ δ' = δ0 := ⟨(congrArg Prod.fst e1).trans (congrArg D.bl (congrArg Prod.fst e0)), (congrArg Prod.snd e1).trans (congrArg Prod.snd e0)⟩
  obtain ⟨rfl, rfl⟩ := hd
  unfold asT at h0
  split at h0
  · rename_i c δc hc
    obtain ⟨rfl, rfl⟩ := pinj h0
    exact ⟨S, δ, fp, _, _, E, hc, fun S1 H1 fp1 x f p1 x1 => ⟨_, bl_val x1, q S1 H1 fp1 _ [] p1 (Vp.flat Rep.bl)⟩⟩
  · cases h0
theorem chain_ok2 {op op2 : CmpOp} {va vb vc : Ev D} (K : X.K = Γ.K) (hu : X.A.units + 64 < cLine) : ∃ r r2, OpR X (compareOp op) r ∧ OpR X (compareOp op2) r2 ∧ ∀ σ H Q, tE Γ (chainC va vb vc (cmpD op) (cmpD op2)) σ H Q → tChain r r2 (tE Γ va) (tE Γ vb) (tE Γ vc) σ H Q := by
  obtain ⟨r, hr, sr⟩ := cmp_ok (Γ := Γ) K hu op
  obtain ⟨r2, hr2, sr2⟩ := cmp_ok (Γ := Γ) K hu op2
  refine ⟨r, r2, hr, hr2, ?_⟩
  rintro σ H Q ⟨S, δ, fp, d, δ', E, h, q⟩
  unfold chainC at h
  split at h
  · rename_i i δ1 h1
    split at h
    · rename_i j δ2 h2
      refine ⟨S, δ, fp, _, δ1, E, h1, fun S1 H1 fp1 x f p1 x1 => ⟨S1, δ1, fp1, _, δ2, p1.env, h2, fun S2 H2 fp2 y g p2 y2 => ?_⟩⟩
      have ex := int_val x1
      have ey := int_val y2
      subst ex ey
      have p12 := Pst.trans E p1 p2
      split at h
      · rename_i hk
        refine sr S2 H2 (.int i) (.int j) (.int i) (.int j) [] [] (.bl true) _ p2.env.lv Rep.int Rep.int (by show Option.map D.bl (cmpD op _ _) = _; rw [hk]; rfl) fun S3 H3 z hh st lv rz _ _ => ?_
        have ez := rz.bl_inv
        subst ez
        refine ⟨true, rfl, ?_⟩
        rw [if_pos rfl]
        have E3 : EnvOk Γ S3 H3 σ δ2 fp2 := p2.env.stp st (fun _ z => z.elim) (fun _ z => z.elim) lv
        have p3 : Pst Γ S2 H2 fp2 S3 H3 σ δ2 fp2 := ⟨E3, st.wide fun _ z => z.elim, fun i a ha => .inl ⟨i, ha⟩⟩
        split at h
        · rename_i k δ3 h3
          obtain ⟨kk, hk2, e⟩ := mapS h
          obtain ⟨rfl, rfl⟩ : d = .bl kk ∧ δ' = δ3 := ⟨congrArg Prod.fst e, congrArg Prod.snd e⟩
          refine ⟨S3, δ2, fp2, _, _, E3, h3, fun S4 H4 fp4 w g4 p4 w4 => ?_⟩
          have ew := int_val w4
          subst ew
          exact sr2 S4 H4 (.int j) (.int k) (.int j) (.int k) [] [] (.bl kk) _ p4.env.lv Rep.int Rep.int (by show Option.map D.bl (cmpD op2 _ _) = _; rw [hk2]; rfl) (Cont.of E (Pst.trans E (Pst.trans E p12 p3) p4) q)
        · cases h
      · rename_i hk
        obtain ⟨rfl, rfl⟩ := pinj h
        refine sr S2 H2 (.int i) (.int j) (.int i) (.int j) [] [] (.bl false) _ p2.env.lv Rep.int Rep.int (by show Option.map D.bl (cmpD op _ _) = _; rw [hk]; rfl) fun S3 H3 z hh st lv rz nd nw => ?_
        have ez := rz.bl_inv
        subst ez
        refine ⟨false, rfl, ?_⟩
        rw [if_neg (by decide)]
        exact Cont.of E p12 q S3 H3 (.bl false) [] st lv Rep.bl List.nodup_nil fun _ z => nomatch z
      · cases h
    · cases h
  · cases h

theorem chain_ok {a b c : Expr} {op op2 : CmpOp} {p : Pos} {va vb vc : Ev D} (K : X.K = Γ.K) (hu : X.A.units + 64 < cLine) (ha : PE X a (tE Γ va)) (hb : PE X b (tE Γ vb)) (hc : PE X c (tE Γ vc)) (hm : lastMarks [op, op2] [b, c] = false) :
    PE X (.Compare a [op, op2] [b, c] p) (tE Γ (chainC va vb vc (cmpD op) (cmpD op2))) := by
  obtain ⟨r, r2, hr, hr2, h⟩ := chain_ok2 (va := va) (vb := vb) (vc := vc) (op := op) (op2 := op2) K hu
  exact PE.mono (pe_chain hr hr2 ha hb hc hm) h
theorem chain_okT {a b c : Expr} {op op2 : CmpOp} {p : Pos} {va vb vc : Ev D} (K : X.K = Γ.K) (hu : X.A.units + 64 < cLine) (ha : PE X a (tE Γ va)) (hb : PE X b (tE Γ vb)) (hc : PE X c (tE Γ vc)) (hm : lastMarks [op, op2] [b, c] = false) :
    PT X (.Compare a [op, op2] [b, c] p) (tB Γ (asT (chainC va vb vc (cmpD op) (cmpD op2)))) := by
  obtain ⟨r, r2, hr, hr2, h⟩ := chain_ok2 (va := va) (vb := vb) (vc := vc) (op := op) (op2 := op2) K hu
  refine PT.mono (pt_chain hr hr2 ha hb hc hm) fun σ H Q z => h σ H _ ?_
  obtain ⟨S, δ, fp, b, δ', E, h, q⟩ := z
  unfold asT at h
  split at h
  · rename_i k δ1 h1
    obtain ⟨rfl, rfl⟩ := pinj h
    exact ⟨S, δ, fp, _, _, E, h1, fun S1 H1 fp1 x f p1 x1 => ⟨_, bl_val x1, q S1 H1 fp1 p1⟩⟩
  · cases h

/-! ### slices -/
theorem opt_ok {v : Expr → Ev D} (h : ∀ e, PE X e (tE Γ (v e))) : ∀ o, PO X o (tI Γ (optC v o))
  | none => by
    refine PO.mono po_none ?_
    rintro σ H Q ⟨S, δ, fp, o, δ', E, h, q⟩
    obtain ⟨rfl, rfl⟩ := pinj (show some ((none : Option Int), δ) = some (o, δ') from h)
    exact q S H fp (Pst.refl E)
  | some e => by
    refine PO.mono (po_some (h e)) ?_
    rintro σ H Q ⟨S, δ, fp, o, δ', E, h, q⟩
    simp only [optC] at h
    split at h
    · rename_i i δ1 h1
      obtain ⟨rfl, rfl⟩ := pinj h
      exact ⟨S, δ, fp, _, _, E, h1, fun S1 H1 fp1 x f p1 x1 => ⟨i, int_val x1, q S1 H1 fp1 p1⟩⟩
    · cases h
theorem Reps.drop : ∀ (n : Nat) {ds : List D} {xs : List V}, Reps Γ S H ds xs [] → Reps Γ S H (ds.drop n) (xs.drop n) []
  | 0, ds, xs, r => r
  | n + 1, [], xs, r => by
    simp only [Reps] at r
    rw [r.1]
    exact Reps.nil
  | n + 1, d :: ds, xs, r => by
    simp only [Reps] at r
    obtain ⟨v, vs, f, g, rfl, e, r1, r2⟩ := r
    have : g = [] := (List.append_eq_nil_iff.mp e.symm).2
    rw [this] at r2
    exact Reps.drop n r2
theorem Reps.take : ∀ (n : Nat) {ds : List D} {xs : List V}, Reps Γ S H ds xs [] → Reps Γ S H (ds.take n) (xs.take n) []
  | 0, ds, xs, r => Reps.nil
  | n + 1, [], xs, r => by
    simp only [Reps] at r
    rw [r.1]
    exact Reps.nil
  | n + 1, d :: ds, xs, r => by
    simp only [Reps] at r
    obtain ⟨v, vs, f, g, rfl, e, r1, r2⟩ := r
    obtain ⟨ef, eg⟩ := List.append_eq_nil_iff.mp e.symm
    subst ef eg
    have := Reps.cons r1 (Reps.take n r2)
    exact this
theorem Reps.cut {ds : List D} {xs : List V} (lo hi : Option Int) (r : Reps Γ S H ds xs []) : Reps Γ S H (cutD ds lo hi) (cutV xs lo hi) [] := by
  unfold cutD cutV
  rw [r.length]
  exact Reps.take _ (Reps.drop _ r)
theorem sli_ok {a : Expr} {lo hi : Option Expr} {p2 p : Pos} {ra : Ev Ar} {vl vh : Ev (Option Int)} (K : X.K = Γ.K) (ha : PE X a (tR Γ ra)) (hl : PO X lo (tI Γ vl)) (hh : PO X hi (tI Γ vh)) : PE X (.Subscript a (.Slice lo hi none p2) p) (tE Γ (sliC ra vl vh)) := by
  refine PE.mono (pe_slice (sl_list.or (sl_tupA.or sl_str)) ha hl hh) ?_
  rintro σ H Q ⟨S, δ, fp, d, δ', E, h, q⟩
  unfold sliC at h
  split at h
  · rename_i x δ1 h1
    split at h
    · rename_i l δ2 h2
      split at h
      · rename_i u δ3 h3
        split at h
        · rename_i w hw
          obtain ⟨d0, hd, e⟩ := mapS h
          obtain ⟨rfl, rfl⟩ : d = d0 ∧ δ' = δ3 := ⟨congrArg Prod.fst e, congrArg Prod.snd e⟩
          refine ⟨S, δ, fp, x, δ1, E, h1, fun S1 H1 fp1 y f p1 x1 => ⟨S1, δ1, fp1, l, δ2, p1.env, h2, fun S2 H2 fp2 p2 => ⟨S2, δ2, fp2, u, _, p2.env, h3, fun S3 H3 fp3 p3 => ?_⟩⟩⟩
          have x3 := (x1.hold p1.env p2).hold p2.env p3
          obtain ⟨g, rx⟩ := look_ok p3.env x3.rep hw
          have c := Cont.of (d := d) E (Pst.trans E (Pst.trans E p1 p2) p3) q
          cases w with
          | lst o m =>
            simp only [sliD] at hd
            obtain ⟨hf, rfl⟩ := ifB hd
            obtain ⟨b, xs, g', rfl, s, rr, _⟩ := rx.lst_inv
            rw [Reps.flats rr hf] at rr
            exact .inl ⟨b, xs, rfl, by rw [K]; exact s, c.lst p3.env.lv (rr.cut l u)⟩
          | tup m =>
            simp only [sliD] at hd
            cases hd
            obtain ⟨b, xs, rfl, s, rr⟩ := rx.tup_inv
            refine .inr (.inl ⟨b, xs, rfl, by rw [K]; exact s.seq, fun hw => ?_, fun _ => c.tup p3.env.lv (rr.cut l u)⟩)
            have e : cutD m l u = m := by
              unfold cutD
              rw [← rr.length, hw.1, hw.2, Nat.sub_zero, rr.length]
              simp
            rw [e] at c
            exact c.same p3.env.lv rx.tupS
          | str z =>
            simp only [sliD] at hd
            obtain ⟨hz, rfl⟩ := ifS hd
            exact .inr (.inr ⟨z, rx.str_inv, by rw [← line_eq]; exact hz, c.same p3.env.lv Rep.str⟩)
          | _ => cases hd
        · cases h
      · cases h
    · cases h
  · cases h
theorem Reps.rev : ∀ {ds : List D} {xs : List V}, Reps Γ S H ds xs [] → Reps Γ S H ds.reverse xs.reverse []
  | [], xs, r => by
    simp only [Reps] at r
    rw [r.1]
    exact Reps.nil
  | d :: ds, xs, r => by
    simp only [Reps] at r
    obtain ⟨v, vs, f, g, rfl, e, r1, r2⟩ := r
    obtain ⟨ef, eg⟩ := List.append_eq_nil_iff.mp e.symm
    subst ef eg
    rw [List.reverse_cons, List.reverse_cons]
    exact Reps.append (Reps.rev r2) (Reps.one r1)
theorem rev_ok {a : Expr} {k : Nat} {p1 p2 p3 p : Pos} {ra : Ev Ar} (K : X.K = Γ.K) (ha : PE X a (tR Γ ra)) : PE X (.Subscript a (.Slice none none (some (.UnaryOp .USub (.Constant (.int 1) k p1) p2)) p3) p) (tE Γ (op1 ra revD)) := by
  refine PE.mono (pe_revL ha) ?_
  rintro σ H Q ⟨S, δ, fp, d, δ', E, h, q⟩
  unfold op1 at h
  split at h
  · rename_i x δ1 h1
    split at h
    · rename_i u hu
      obtain ⟨d0, hd, e⟩ := mapS h
      obtain ⟨rfl, rfl⟩ : d = d0 ∧ δ' = δ1 := ⟨congrArg Prod.fst e, congrArg Prod.snd e⟩
      refine ⟨S, δ, fp, x, _, E, h1, fun S1 H1 fp1 y f p1 x1 => ?_⟩
      obtain ⟨g, rx⟩ := look_ok p1.env x1.rep hu
      have c := Cont.of (d := d) E p1 q
      cases u <;> first | cases hd | skip
      rename_i o m
      simp only [revD] at hd
      obtain ⟨hf, rfl⟩ := ifB hd
      obtain ⟨b, xs, g', rfl, s, rr, _⟩ := rx.lst_inv
      rw [Reps.flats rr hf] at rr
      exact ⟨b, xs, rfl, by rw [K]; exact s, c.lst p1.env.lv rr.rev⟩
    · cases h
  · cases h
end
end PyD

/-! The interpreter is right: built-ins, isinstance, list(range(..)). -/
namespace PyD
open PySem PySem.Spec PyProof.Rows L2
section
variable {Γ : Gd} {G : Gc} {X : Cx} {S S' S1 S2 : Addr → Prop} {H H' H0 H1 H2 : Hp} {σ : L2.St} {δ δ1 δ2 : Env} {fp fp0 fp1 fp2 : Fp} {d : D} {Q : VK}
abbrev RC := List V → Hp → VK → Prop
def CalS (Γ : Gd) (r : RC) (f : List D → Option D) : Prop := ∀ S H ds vs d Q, (∀ a, S a → H a ≠ none) → RepE Γ S H ds vs → f ds = some d → Cont Γ S H d Q → r vs H Q
theorem blt_ok {v : Expr → Ev D} {es : List Expr} {ms : List Bool} {x : Str} {p pos : Pos} {c : Value} {r : RC} {f : List D → Option D} (O : XOk Γ G X) (h : ∀ e, PE X e (tE Γ (v e))) (hst : ∀ a p, v (.Starred a p) = fun _ => none) (hne : es ≠ [])
    (hc : CallR X c r) (hr : CalS Γ r f) (hg : Gl X x) (hd : (x == ("__debug__" : Str)) = false) (hm : X.mg x = none) (hv : bootBuiltins x = some c) (hk : (∃ i, c = .builtin i) ∨ ∃ T, c = .type T) (hn : x ≠ "__name__") :
    PE X (.Call (.Name x p) es [] pos) (tE Γ (bltC (args G v es ms) f)) := by
  cases es with
  | nil => exact absurd rfl hne
  | cons e es =>
    by_cases hs : (e :: es).any isStar = true
    · refine PE.mono (PE.no Γ) ?_
      rintro σ H Q ⟨S, δ, fp, d, δ', E, h, q⟩
      unfold bltC at h
      rw [args_star hst _ ms δ hs] at h
      cases h
    · have hs : (e :: es).any isStar = false := by simpa using hs
      rw [List.any_cons, Bool.or_eq_false_iff] at hs
      have a := args_ok O h hst (e :: es) ms
      have key : PE X (.Call (.Name x p) (e :: es) [] pos) (tCB r (tRs Γ (args G v (e :: es) ms))) := by
        rcases hk with ⟨i, rfl⟩ | ⟨T, rfl⟩
        · exact pe_callB hc hg hm hv a hn hd (each_plain es _ hs.1) (any_plain pos _ es hs.2)
        · exact pe_callTy hc hg hm hv a hn hd (each_plain es _ hs.1) (any_plain pos _ es hs.2)
      refine PE.mono key ?_
      rintro σ H Q ⟨S, δ, fp, d, δ', E, h, q⟩
      unfold bltC at h
      split at h
      · rename_i as δ1 h1
        split at h
        · rename_i ds hds
          obtain ⟨d0, hf, e⟩ := mapS h
          obtain ⟨rfl, rfl⟩ : d = d0 ∧ δ' = δ1 := ⟨congrArg Prod.fst e, congrArg Prod.snd e⟩
          exact ⟨S, δ, fp, as, _, E, h1, fun S1 H1 fp1 vs f p1 x1 => hr S1 H1 ds vs d Q p1.env.lv (looks_ok p1.env x1.rep hds) hf (Cont.of E p1 q)⟩
        · cases h
      · cases h
theorem repE1 {d : D} {vs : List V} (r : RepE Γ S H [d] vs) : ∃ v g, vs = [v] ∧ Rep Γ S H d v g := by
  obtain ⟨v, vs', g, rfl, r1, r2⟩ := r
  exact ⟨v, g, by rw [show vs' = [] from r2], r1⟩
theorem repE2 {d e : D} {vs : List V} (r : RepE Γ S H [d, e] vs) : ∃ v w g g', vs = [v, w] ∧ Rep Γ S H d v g ∧ Rep Γ S H e w g' := by
  obtain ⟨v, vs', g, rfl, r1, r2⟩ := r
  obtain ⟨w, g', rfl, r3⟩ := repE1 r2
  exact ⟨v, w, g, g', rfl, r1, r3⟩
theorem ints_ok : ∀ {ds : List D} {xs : List V} {f : List Addr} {ns : List Int}, Reps Γ S H ds xs f → intsD ds = some ns → xs = ns.map .int
  | [], xs, f, ns, r, h => by
    cases h
    simp only [Reps] at r
    exact r.1
  | .int i :: ds, xs, f, ns, r, h => by
    simp only [Reps] at r
    obtain ⟨v, vs, f1, f2, rfl, _, r1, r2⟩ := r
    obtain ⟨ms, hm, rfl⟩ := mapS (show (intsD ds).map (i :: ·) = some ns from h)
    rw [ints_ok r2 hm, r1.int_inv]
    rfl
  | .non :: _, _, _, _, _, h => by cases h
  | .bl _ :: _, _, _, _, _, h => by cases h
  | .str _ :: _, _, _, _, _, h => by cases h
  | .tup _ :: _, _, _, _, _, h => by cases h
  | .lst _ _ :: _, _, _, _, _, h => by cases h
  | .obj _ _ _ _ :: _, _, _, _, _, h => by cases h
theorem minF_le : ∀ (l : List Int) (a : Int), l.foldl (fun a b => if b < a then b else a) a ≤ a ∧ (∀ y ∈ l, l.foldl (fun a b => if b < a then b else a) a ≤ y) ∧ (l.foldl (fun a b => if b < a then b else a) a = a ∨ l.foldl (fun a b => if b < a then b else a) a ∈ l)
  | [], a => ⟨Int.le_refl _, (fun _ z => nomatch z), .inl rfl⟩
  | x :: l, a => by
    obtain ⟨h1, h2, h3⟩ := minF_le l (if x < a then x else a)
    simp only [List.foldl_cons]
    refine ⟨?_, fun y hy => ?_, ?_⟩
    · split at h1 <;> split <;> omega
    · rcases List.mem_cons.mp hy with rfl | hy
      · split at h1 <;> split <;> omega
      · exact h2 y hy
    · rcases h3 with h3 | h3
      · by_cases hx : x < a
        · rw [if_pos hx] at h3 ⊢; exact .inr (by rw [h3]; simp)
        · rw [if_neg hx] at h3 ⊢; exact .inl h3
      · exact .inr (List.mem_cons_of_mem _ h3)
theorem maxF_le : ∀ (l : List Int) (a : Int), a ≤ l.foldl (fun a b => if b > a then b else a) a ∧ (∀ y ∈ l, y ≤ l.foldl (fun a b => if b > a then b else a) a) ∧ (l.foldl (fun a b => if b > a then b else a) a = a ∨ l.foldl (fun a b => if b > a then b else a) a ∈ l)
  | [], a => ⟨Int.le_refl _, (fun _ z => nomatch z), .inl rfl⟩
  | x :: l, a => by
    obtain ⟨h1, h2, h3⟩ := maxF_le l (if x > a then x else a)
    simp only [List.foldl_cons]
    refine ⟨?_, fun y hy => ?_, ?_⟩
    · split at h1 <;> split <;> omega
    · rcases List.mem_cons.mp hy with rfl | hy
      · split at h1 <;> split <;> omega
      · exact h2 y hy
    · rcases h3 with h3 | h3
      · by_cases hx : x > a
        · rw [if_pos hx] at h3 ⊢; exact .inr (by rw [h3]; simp)
        · rw [if_neg hx] at h3 ⊢; exact .inl h3
      · exact .inr (List.mem_cons_of_mem _ h3)
theorem minI_ok {ns : List Int} {k m : Int} (h : minI ns = some k) (hm : m ∈ ns) (le : ∀ y, y ∈ ns → m ≤ y) : m = k := by
  cases ns with
  | nil => cases h
  | cons x xs =>
    cases h
    obtain ⟨h1, h2, h3⟩ := minF_le xs x
    have a := le _ (show List.foldl (fun a b => if b < a then b else a) x xs ∈ x :: xs by
      rcases h3 with h3 | h3
      · rw [h3]; simp
      · exact List.mem_cons_of_mem _ h3)
    have b : List.foldl (fun a b => if b < a then b else a) x xs ≤ m := by
      rcases List.mem_cons.mp hm with rfl | hm
      · exact h1
      · exact h2 m hm
    omega
theorem maxI_ok {ns : List Int} {k m : Int} (h : maxI ns = some k) (hm : m ∈ ns) (le : ∀ y, y ∈ ns → y ≤ m) : m = k := by
  cases ns with
  | nil => cases h
  | cons x xs =>
    cases h
    obtain ⟨h1, h2, h3⟩ := maxF_le xs x
    have a := le _ (show List.foldl (fun a b => if b > a then b else a) x xs ∈ x :: xs by
      rcases h3 with h3 | h3
      · rw [h3]; simp
      · exact List.mem_cons_of_mem _ h3)
    have b : m ≤ List.foldl (fun a b => if b > a then b else a) x xs := by
      rcases List.mem_cons.mp hm with rfl | hm
      · exact h1
      · exact h2 m hm
    omega
theorem Rep.sq {o : Ow} {l : List D} {v : V} {g : List Addr} (K : X.K = Γ.K) (r : Rep Γ S H (.lst o l) v g) : ∃ a xs g', v = .ref a ∧ SqL X.K H a xs ∧ Reps Γ S H l xs g' := by
  obtain ⟨a, xs, g', rfl, s, rr, _⟩ := r.lst_inv
  exact ⟨a, xs, g', rfl, by rw [K]; exact s, rr⟩
theorem Rep.sqf {o : Ow} {l : List D} {v : V} {g : List Addr} (K : X.K = Γ.K) (r : Rep Γ S H (.lst o l) v g) (hf : flats l = true) : ∃ a xs, v = .ref a ∧ SqL X.K H a xs ∧ Reps Γ S H l xs [] := by
  obtain ⟨a, xs, g', rfl, s, rr⟩ := r.sq K
  rw [Reps.flats rr hf] at rr
  exact ⟨a, xs, rfl, s, rr⟩
theorem Rep.sqt {l : List D} {v : V} {g : List Addr} (K : X.K = Γ.K) (r : Rep Γ S H (.tup l) v g) : ∃ a xs, v = .ref a ∧ SqT X.K H a xs ∧ Reps Γ S H l xs [] := by
  obtain ⟨a, xs, rfl, s, rr⟩ := r.tup_inv
  exact ⟨a, xs, rfl, by rw [K]; exact s.seq, rr⟩
theorem bltNm (x : Str) (h : bltNames.contains x = true) : x = "len" ∨ x = "abs" ∨ x = "int" ∨ x = "list" ∨ x = "tuple" ∨ x = "sum" ∨ x = "min" ∨ x = "max" := by
  rw [List.contains_iff_mem] at h
  simpa [bltNames] using h
theorem blt_all (O : XOk Γ G X) (x : Str) (h : bltNames.contains x = true) : ∃ (c : Value) (r : RC), CallR X c r ∧ CalS Γ r (blt x) ∧ bootBuiltins x = some c ∧ ((∃ i, c = .builtin i) ∨ ∃ T, c = .type T) ∧ x ≠ "__name__" := by
  have K := O.K
  rcases bltNm x h with rfl | rfl | rfl | rfl | rfl | rfl | rfl | rfl
  · refine ⟨_, _, call_len, ?_, by decide +kernel, .inl ⟨_, rfl⟩, by decide⟩
    intro S H ds vs d Q lv r e c
    unfold blt at e
    rw [if_pos rfl] at e
    split at e <;> try cases e
    · obtain ⟨v, g, rfl, r1⟩ := repE1 r
      obtain ⟨a, xs, g', rfl, s, rr⟩ := r1.sq K
      refine ⟨_, _, rfl, .inl ⟨xs, s, rfl⟩, ?_⟩
      rw [rr.length]
      exact c.same lv Rep.int
    · obtain ⟨v, g, rfl, r1⟩ := repE1 r
      obtain ⟨a, xs, rfl, s, rr⟩ := r1.sqt K
      refine ⟨_, _, rfl, .inr ⟨xs, s, rfl⟩, ?_⟩
      rw [rr.length]
      exact c.same lv Rep.int
    · obtain ⟨v, g, rfl, r1⟩ := repE1 r
      obtain ⟨hz, rfl⟩ := ifS e
      rw [r1.str_inv]
      exact ⟨_, _, rfl, ⟨by rw [← line_eq]; exact hz, rfl⟩, c.same lv Rep.int⟩
  · refine ⟨_, _, call_abs, ?_, by decide +kernel, .inl ⟨_, rfl⟩, by decide⟩
    intro S H ds vs d Q lv r e c
    unfold blt at e
    rw [if_neg (by decide), if_pos rfl] at e
    split at e <;> try cases e
    obtain ⟨v, g, rfl, r1⟩ := repE1 r
    rw [r1.int_inv]
    exact ⟨_, rfl, c.same lv Rep.int⟩
  · refine ⟨_, _, call_int1, ?_, by decide +kernel, .inr ⟨_, rfl⟩, by decide⟩
    intro S H ds vs d Q lv r e c
    unfold blt at e
    rw [if_neg (by decide), if_neg (by decide), if_pos rfl] at e
    split at e <;> try cases e
    · obtain ⟨v, g, rfl, r1⟩ := repE1 r
      rw [r1.int_inv]
      exact .inl ⟨_, rfl, c.same lv Rep.int⟩
    · obtain ⟨v, g, rfl, r1⟩ := repE1 r
      rw [r1.bl_inv]
      exact .inr ⟨_, rfl, c.same lv Rep.int⟩
  · refine ⟨_, _, call_list_of, ?_, by decide +kernel, .inr ⟨_, rfl⟩, by decide⟩
    intro S H ds vs d Q lv r e c
    unfold blt at e
    rw [if_neg (by decide), if_neg (by decide), if_neg (by decide), if_pos rfl] at e
    split at e <;> try cases e
    · obtain ⟨v, g, rfl, r1⟩ := repE1 r
      obtain ⟨hf, rfl⟩ := ifB e
      obtain ⟨a, xs, rfl, s, rr⟩ := r1.sqf K hf
      exact ⟨_, xs, rfl, .inl s, c.lst lv rr⟩
    · obtain ⟨v, g, rfl, r1⟩ := repE1 r
      obtain ⟨a, xs, rfl, s, rr⟩ := r1.sqt K
      exact ⟨_, xs, rfl, .inr s, c.lst lv rr⟩
  · refine ⟨_, _, call_tuple_of, ?_, by decide +kernel, .inr ⟨_, rfl⟩, by decide⟩
    intro S H ds vs d Q lv r e c
    unfold blt at e
    rw [if_neg (by decide), if_neg (by decide), if_neg (by decide), if_neg (by decide), if_pos rfl] at e
    split at e <;> try cases e
    · obtain ⟨v, g, rfl, r1⟩ := repE1 r
      obtain ⟨hf, rfl⟩ := ifB e
      obtain ⟨a, xs, rfl, s, rr⟩ := r1.sqf K hf
      exact ⟨_, xs, rfl, .inl ⟨s, c.tup lv rr⟩⟩
    · obtain ⟨v, g, rfl, r1⟩ := repE1 r
      obtain ⟨a, xs, rfl, s, rr⟩ := r1.sqt K
      exact ⟨_, xs, rfl, .inr ⟨s, c.same lv r1.tupS⟩⟩
  · refine ⟨_, _, cr_sum O.calm, ?_, by decide +kernel, .inl ⟨_, rfl⟩, by decide⟩
    intro S H ds vs d Q lv r e c
    unfold blt at e
    rw [if_neg (by decide), if_neg (by decide), if_neg (by decide), if_neg (by decide), if_neg (by decide), if_pos rfl] at e
    split at e <;> try cases e
    obtain ⟨v, g, rfl, r1⟩ := repE1 r
    obtain ⟨ns, hn, rfl⟩ := mapS e
    obtain ⟨a, xs, g', rfl, s, rr⟩ := r1.sq K
    rw [ints_ok rr hn] at s
    exact ⟨a, ns, rfl, s, c.same lv Rep.int⟩
  · refine ⟨_, _, (cr_min O.calm).or (call_min2 O.calm), ?_, by decide +kernel, .inl ⟨_, rfl⟩, by decide⟩
    intro S H ds vs d Q lv r e c
    unfold blt at e
    rw [if_neg (by decide), if_neg (by decide), if_neg (by decide), if_neg (by decide), if_neg (by decide), if_neg (by decide), if_pos rfl] at e
    split at e <;> try cases e
    · obtain ⟨v, g, rfl, r1⟩ := repE1 r
      obtain ⟨k, hk, rfl⟩ := mapS e
      obtain ⟨ns, hn, hk⟩ := Option.bind_eq_some_iff.mp hk
      obtain ⟨a, xs, g', rfl, s, rr⟩ := r1.sq K
      rw [ints_ok rr hn] at s
      refine .inl ⟨a, ns, rfl, s, ?_, fun m hm le => ?_⟩
      · cases ns with
        | nil => cases hk
        | cons _ _ => exact Nat.succ_pos _
      · rw [minI_ok hk hm le]
        exact c.same lv Rep.int
    · obtain ⟨v, w, g, g', rfl, r1, r2⟩ := repE2 r
      rw [r1.int_inv, r2.int_inv]
      exact .inr ⟨_, _, rfl, c.same lv Rep.int⟩
  · refine ⟨_, _, (cr_max O.calm).or (call_max2 O.calm), ?_, by decide +kernel, .inl ⟨_, rfl⟩, by decide⟩
    intro S H ds vs d Q lv r e c
    unfold blt at e
    rw [if_neg (by decide), if_neg (by decide), if_neg (by decide), if_neg (by decide), if_neg (by decide), if_neg (by decide), if_neg (by decide), if_pos rfl] at e
    split at e <;> try cases e
    · obtain ⟨v, g, rfl, r1⟩ := repE1 r
      obtain ⟨k, hk, rfl⟩ := mapS e
      obtain ⟨ns, hn, hk⟩ := Option.bind_eq_some_iff.mp hk
      obtain ⟨a, xs, g', rfl, s, rr⟩ := r1.sq K
      rw [ints_ok rr hn] at s
      refine .inl ⟨a, ns, rfl, s, ?_, fun m hm le => ?_⟩
      · cases ns with
        | nil => cases hk
        | cons _ _ => exact Nat.succ_pos _
      · rw [maxI_ok hk hm le]
        exact c.same lv Rep.int
    · obtain ⟨v, w, g, g', rfl, r1, r2⟩ := repE2 r
      rw [r1.int_inv, r2.int_inv]
      exact .inr ⟨_, _, rfl, c.same lv Rep.int⟩
end
end PyD

/-! The interpreter is right: what a loop walks, targets, comprehensions. -/
namespace PyD
open PySem PySem.Spec PyProof.Rows L2
section
variable {Γ : Gd} {G : Gc} {X : Cx} {S S' S1 S2 : Addr → Prop} {H H' H0 H1 H2 : Hp} {σ : L2.St} {δ δ' δ1 δ2 : Env} {fp fp0 fp1 fp2 : Fp} {d : D} {Q : VK}
/-! ### isinstance -/
theorem kitN {K : PySem.W.Frag} {T : String} {d : D} {b : Bool} {v : V} {f : List Addr} (hK : Γ.K = K) (r : Rep Γ S H d v f) (h : isTy T d = some b) : ∃ t, TyX K H v t ∧ PySem.W.kitOne K t (.type T) = some b := by
  have lst : ∀ {a : Addr} {xs : List V}, SqL Γ.K H a xs → TyX K H (.ref a) (.type "list") := fun {a xs} s => by
    rcases s with (s | ⟨o, s⟩) | ⟨o, its, n, s, c, _⟩
    · exact .base (.lst s)
    · exact .base (.frz s)
    · exact .kList (by rw [← hK]; exact s) c
  have tup : ∀ {a : Addr} {xs : List V}, SqT Γ.K H a xs → TyX K H (.ref a) (.type "tuple") := fun {a xs} s => by
    rcases s with (s | ⟨o, s⟩) | ⟨o, its, n, s, c, _⟩
    · exact .base (.tup s)
    · exact .fTuple s
    · exact .kTuple (by rw [← hK]; exact s) c
  unfold isTy at h
  split at h <;> cases h
  all_goals first
    | (rw [r.int_inv]; exact ⟨_, .base (.int _), kit_ty (by decide +kernel)⟩)
    | (rw [r.bl_inv]; exact ⟨_, .base (.bl _), kit_ty (by decide +kernel)⟩)
    | (rw [r.str_inv]; exact ⟨_, .base (.str _), kit_ty (by decide +kernel)⟩)
    | (rw [non_inv r]; exact ⟨_, .base .non, kit_ty (by decide +kernel)⟩)
    | (obtain ⟨a, xs, rfl, s, _⟩ := r.tup_inv; exact ⟨_, tup s.seq, kit_ty (by decide +kernel)⟩)
    | (obtain ⟨a, xs, g, rfl, s, _⟩ := r.lst_inv; exact ⟨_, lst s, kit_ty (by decide +kernel)⟩)
theorem tyName {t : Str} {T : String} (h : tyNames.lookup t = some T) : bootBuiltins t = some (.type T) ∧ t ≠ "__name__" := by
  have hm : (t, T) ∈ tyNames := PySem.mem_of_lookup h
  simp only [tyNames, List.mem_cons, List.not_mem_nil, or_false, Prod.mk.injEq] at hm
  rcases hm with ⟨rfl, rfl⟩ | ⟨rfl, rfl⟩ | ⟨rfl, rfl⟩ | ⟨rfl, rfl⟩ | ⟨rfl, rfl⟩
  all_goals exact ⟨by decide +kernel, by decide⟩
theorem isi_ok {v : Expr → Ev D} {es : List Expr} {p pos : Pos} (O : XOk Γ G X) (h : ∀ e, PE X e (tE Γ (v e))) (hst : ∀ a p, v (.Starred a p) = fun _ => none) : PE X (.Call (.Name "isinstance" p) es [] pos) (tE Γ (isiC G v es)) := by
  unfold isiC
  split
  · rename_i a t np
    split
    · rename_i hf
      rw [Bool.and_eq_true] at hf
      split
      · rename_i T hT
        obtain ⟨g1, g2, g3⟩ := free_ok O hf.1
        obtain ⟨t1, t2, t3⟩ := free_ok O hf.2
        obtain ⟨b1, b2⟩ := tyName hT
        by_cases hs : isStar a = true
        · refine PE.mono (PE.no Γ) ?_
          rintro σ H Q ⟨S, δ, fp, d, δ', E, h, q⟩
          cases a <;> first | cases hs | skip
          unfold op1 opnd at h
          rw [hst] at h
          cases h
        · have hs : isStar a = false := by simpa using hs
          have ty : PE X (.Name t np) (tC (.ty T)) := pe_bltn (v := .ty T) t1 t3 b1 rfl b2 t2
          have s2 : starEach [Expr.Name t np] X.env = (false, eval (.Name t np) X.env) :: starEach [] X.env := each_plain [] _ rfl
          have pa : PA X [a, .Name t np] (tCons (tR Γ (opnd G a true (v a))) (tCons (tC (.ty T)) tNil)) := pa_cons (opnd_ok O (h a)) (pa_cons ty pa_nil s2) (each_plain _ _ hs)
          refine PE.mono (pe_callB call_isi g1 g3 (by decide +kernel) pa (by decide) g2 (each_plain _ _ hs) (any_plain pos _ [Expr.Name t np] rfl)) ?_
          rintro σ H Q ⟨S, δ, fp, d, δ', E, h, q⟩
          unfold op1 at h
          split at h
          · rename_i x δ1 h1
            split at h
            · rename_i u hu
              obtain ⟨d0, hd, e⟩ := mapS h
              obtain ⟨rfl, rfl⟩ : d = d0 ∧ δ' = δ1 := ⟨congrArg Prod.fst e, congrArg Prod.snd e⟩
              obtain ⟨k, hk, rfl⟩ := mapS hd
              refine ⟨S, δ, fp, x, _, E, h1, fun S1 H1 fp1 y f p1 x1 => ?_⟩
              obtain ⟨g, rx⟩ := look_ok p1.env x1.rep hu
              obtain ⟨t', ht, hk'⟩ := kitN O.K.symm rx hk
              exact ⟨y, .ty T, t', .type T, k, rfl, .ty T, ht, hk', q S1 H1 fp1 _ [] p1 (Vp.flat Rep.bl)⟩
            · cases h
          · cases h
      · exact PE.no Γ
    · exact PE.no Γ
  · exact PE.no Γ

/-! ### what a loop walks -/
def JRep (Γ : Gd) (S : Addr → Prop) (H : Hp) : Src → It → Prop
  | .seq l, J => (∃ a xs, J = Itl Γ.K a ∧ LkL Γ S H a xs ∧ Reps Γ S H l xs []) ∨ (∃ a xs, J = Itt Γ.K a ∧ ShT Γ S H a xs ∧ Reps Γ S H l xs [])
  | .rng lo n, J => J = Itr lo n
def tSr (Γ : Gd) (m : Ev Src) : TI := fun σ H R => ∃ S δ fp s δ', EnvOk Γ S H σ δ fp ∧ m δ = some (s, δ') ∧
  ∀ S' H' fp' J, Pst Γ S H fp S' H' σ δ' fp' → JRep Γ S' H' s J → R J H'
theorem JRep.frame {W : Addr → Prop} {s : Src} {J : It} (h : JRep Γ S H s J) (st : Stp W S H S' H') (su : ∀ a, W a → S a ∨ H a = none) : JRep Γ S' H' s J := by
  have k : ∀ a o, H a = .some o → ¬ S a → H' a = .some o := fun a o e ns => st.keep a o e fun w => (su a w).elim ns fun z => by rw [e] at z; cases z
  have n : ∀ a, H a ≠ none → ¬ S a → ¬ S' a := fun a e ns s => ns (st.back a e s)
  cases s with
  | seq l =>
    rcases h with ⟨a, xs, hj, hl, r⟩ | ⟨a, xs, hj, hl, r⟩
    · exact .inl ⟨a, xs, hj, hl.move (fun o e ns => k a o e ns) (n a), r.frame st su fun _ z => nomatch z⟩
    · exact .inr ⟨a, xs, hj, hl.move (fun o e ns => k a o e ns) (n a), r.frame st su fun _ z => nomatch z⟩
  | rng lo n => exact h
theorem JRep.go {s : Src} {J : It} (h : JRep Γ S H s J) {i : Nat} (hi : i < s.items.length) : J.go i H := by
  cases s with
  | seq l =>
    rcases h with ⟨a, xs, rfl, hl, r⟩ | ⟨a, xs, rfl, hl, r⟩
    · exact ⟨xs, _, hl.seq, List.getElem?_eq_getElem (by rw [r.length]; exact hi)⟩
    · exact ⟨xs, _, hl.seq, List.getElem?_eq_getElem (by rw [r.length]; exact hi)⟩
  | rng lo n =>
    obtain rfl : J = Itr lo n := h
    have : i < n := by simpa [Src.items] using hi
    exact this
theorem JRep.stop {s : Src} {J : It} (h : JRep Γ S H s J) {i : Nat} (hi : s.items.length ≤ i) : J.stop i H := by
  cases s with
  | seq l =>
    rcases h with ⟨a, xs, rfl, hl, r⟩ | ⟨a, xs, rfl, hl, r⟩
    · exact ⟨xs, hl.seq, by rw [r.length]; exact hi⟩
    · exact ⟨xs, hl.seq, by rw [r.length]; exact hi⟩
  | rng lo n =>
    obtain rfl : J = Itr lo n := h
    have : n ≤ i := by simpa [Src.items] using hi
    exact this
theorem JRep.yld {s : Src} {J : It} (h : JRep Γ S H s J) {i : Nat} {x : V} {d : D} (hd : s.items[i]? = some d) (y : J.yld i H x H') : H' = H ∧ Rep Γ S H d x [] := by
  cases s with
  | seq l =>
    rcases h with ⟨a, xs, rfl, hl, r⟩ | ⟨a, xs, rfl, hl, r⟩
    all_goals
      obtain ⟨e, y⟩ := y
      have y := y xs hl.seq
      obtain ⟨v, f, e2, rv, hf⟩ := Reps.get r hd
      rw [y] at e2
      cases e2
      rw [nil_of hf] at rv
      exact ⟨e, rv⟩
  | rng lo n =>
    obtain rfl : J = Itr lo n := h
    obtain ⟨e, rfl⟩ := y
    refine ⟨e, ?_⟩
    simp only [Src.items, List.getElem?_map, List.getElem?_range'] at hd
    obtain ⟨j, hj, rfl⟩ := mapS hd
    have : i = j := by
      have := List.getElem?_eq_some_iff.mp hj
      obtain ⟨h1, h2⟩ := this
      simpa using h2
    subst this
    exact Rep.int
theorem iOr {tg e : Expr} {w w' : TI} (h : PI X tg e w) (h' : PI X tg e w') : PI X tg e (fun σ H R => w σ H R ∨ w' σ H R) :=
  ⟨fun pins s σ H R I z => z.elim (h.run pins s σ H R I) (h'.run pins s σ H R I)⟩
/-- a value in hand given up: nobody owns it -/
theorem Vp.sealed {v : V} {f : List Addr} (E : EnvOk Γ S H σ δ fp) (p1 : Pst Γ S H fp S1 H1 σ δ1 fp1) (x1 : Vp Γ S1 H1 d v f fp1 (Wf fp) H) : ∃ S2, Pst Γ S H fp S2 H1 σ δ1 fp1 ∧ Rep Γ S2 H1 (clr d) v [] :=
  ⟨subS S1 f, Pst.give E p1 x1.dj (fun a ha => (Rep.owned d v _ x1.rep a ha).1) x1.new, Rep.clr (fun a n s => n s.1) d v _ (fun a ha s => s.2 ha) x1.rep⟩
theorem rngE_eq {e : Expr} {rs : List Expr} (h : rngE e = some rs) : ∃ p pos, e = .Call (.Name "range" p) rs [] pos := by
  unfold rngE at h
  split at h
  · obtain ⟨rfl, rfl⟩ := ifS h
    exact ⟨_, _, rfl⟩
  · cases h
theorem rngOk_iff {i : Int} : rngOk i = true ↔ (-(2 ^ 62) ≤ i ∧ i < 2 ^ 62) := by
  unfold rngOk
  rw [Bool.and_eq_true, decide_eq_true_eq, decide_eq_true_eq]
theorem PI.no {tg e : Expr} (Γ : Gd) : PI X tg e (tSr Γ fun _ => none) := ⟨fun _ _ _ _ _ _ ⟨_, _, _, _, _, _, e, _⟩ => by cases e⟩
theorem src_ok {tg e : Expr} {v : Expr → Ev D} (O : XOk Γ G X) (h : ∀ e, PE X e (tE Γ (v e))) (hst : ∀ a p, v (.Starred a p) = fun _ => none) : PI X tg e (tSr Γ (srcC G v e)) := by
  unfold srcC
  split
  · rename_i rs hrs
    obtain ⟨p, pos, rfl⟩ := rngE_eq hrs
    split
    · rename_i hf
      obtain ⟨g1, g2, g3⟩ := free_ok O hf
      split
      · rename_i b
        by_cases hs : isStar b = true
        · refine PI.mono (PI.no Γ) ?_
          rintro σ H R ⟨S, δ, fp, s, δ', E, h, q⟩
          cases b <;> first | cases hs | skip
          rw [hst] at h
          cases h
        · have hs : isStar b = false := by simpa using hs
          have s1 : starEach [b] X.env = (false, eval b X.env) :: starEach [] X.env := each_plain [] _ hs
          refine PI.mono (pi_range1 g1 g3 (pa_cons (h b) pa_nil s1) s1) ?_
          rintro σ H R ⟨S, δ, fp, s, δ', E, h, q⟩
          dsimp only at h
          split at h
          · rename_i j δ1 h1
            obtain ⟨hr, e⟩ := ifB h
            obtain ⟨rfl, rfl⟩ : s = .rng 0 j.toNat ∧ δ' = δ1 := ⟨congrArg Prod.fst e, congrArg Prod.snd e⟩
            refine ⟨S, δ, fp, _, _, E, h1, fun S1 H1 fp1 x f p1 x1 => ?_⟩
            rw [int_val x1]
            have b := rngOk_iff.mp hr
            exact ⟨j, rfl, b.1, b.2, q S1 H1 fp1 _ p1 rfl⟩
          · cases h
      · rename_i a b
        by_cases hs : isStar a = true ∨ isStar b = true
        · refine PI.mono (PI.no Γ) ?_
          rintro σ H R ⟨S, δ, fp, s, δ', E, h, q⟩
          rcases hs with hs | hs
          · cases a <;> first | cases hs | skip
            rw [hst] at h
            cases h
          · cases b <;> first | cases hs | skip
            rw [hst] at h
            dsimp only at h
            split at h <;> cases h
        · have ha : isStar a = false := by
            cases q : isStar a with
            | true => exact absurd (.inl q) hs
            | false => rfl
          have hb : isStar b = false := by
            cases q : isStar b with
            | true => exact absurd (.inr q) hs
            | false => rfl
          have s1 : starEach [b] X.env = (false, eval b X.env) :: starEach [] X.env := each_plain [] _ hb
          have s2 : starEach [a, b] X.env = (false, eval a X.env) :: starEach [b] X.env := each_plain _ _ ha
          refine PI.mono (pi_range2 g1 g3 (pa_cons (h a) (pa_cons (h b) pa_nil s1) s2) (by rw [s2, s1]; rfl) s1) ?_
          rintro σ H R ⟨S, δ, fp, s, δ', E, h, q⟩
          dsimp only at h
          split at h
          · rename_i i δ1 h1
            split at h
            · rename_i j δ2 h2
              obtain ⟨hr, e⟩ := ifB h
              obtain ⟨rfl, rfl⟩ : s = .rng i (j - i).toNat ∧ δ' = δ2 := ⟨congrArg Prod.fst e, congrArg Prod.snd e⟩
              rw [Bool.and_eq_true] at hr
              have b1 := rngOk_iff.mp hr.1
              have b2 := rngOk_iff.mp hr.2
              refine ⟨S, δ, fp, _, δ1, E, h1, fun S1 H1 fp1 x f p1 x1 => ⟨S1, δ1, fp1, _, _, p1.env, h2, fun S2 H2 fp2 y g p2 y2 => ?_⟩⟩
              rw [int_val x1, int_val y2]
              exact ⟨i, j, rfl, ⟨b1.1, b1.2, b2.1, b2.2⟩, q S2 H2 fp2 _ (Pst.trans E p1 p2) rfl⟩
            · cases h
          · cases h
      · exact PI.no Γ
    · exact PI.no Γ
  · refine PI.mono (iOr (pi_list (h e)) (pi_tup (h e))) ?_
    rintro σ H R ⟨S, δ, fp, s, δ', E, h, q⟩
    dsimp only at h
    split at h
    · rename_i d δ1 h1
      obtain ⟨s0, hs, e⟩ := mapS h
      obtain ⟨rfl, rfl⟩ : s = s0 ∧ δ' = δ1 := ⟨congrArg Prod.fst e, congrArg Prod.snd e⟩
      cases d <;> first | cases hs | skip
      · rename_i l
        refine .inr ⟨S, δ, fp, _, _, E, h1, fun S1 H1 fp1 x f p1 x1 => ?_⟩
        obtain ⟨a, xs, rfl, st, rr⟩ := x1.rep.tup_inv
        rw [O.K]
        exact ⟨a, rfl, ⟨xs, st.seq⟩, q S1 H1 fp1 _ p1 (.inr ⟨a, xs, rfl, st, rr⟩)⟩
      · rename_i o l
        refine .inl ⟨S, δ, fp, _, _, E, h1, fun S1 H1 fp1 x f p1 x1 => ?_⟩
        obtain ⟨S2, p2, r2⟩ := x1.sealed E p1
        obtain ⟨a, xs, rfl, st, rr⟩ : ∃ a xs, x = .ref a ∧ LkL Γ S2 H1 a xs ∧ Reps Γ S2 H1 (clrs l) xs [] := by
          cases o with
          | own =>
            have r2 : Rep Γ S2 H1 (.lst .sh (clrs l)) x [] := r2
            simp only [Rep] at r2
            obtain ⟨a, xs, rfl, _, e, n, rr⟩ := r2
            exact ⟨a, xs, rfl, .inl ⟨.inl e, n⟩, rr⟩
          | sh =>
            have r2 : Rep Γ S2 H1 (.lst .sh l) x [] := r2
            simp only [Rep] at r2
            obtain ⟨a, xs, rfl, _, e, n, rr⟩ := r2
            exact ⟨a, xs, rfl, .inl ⟨.inl e, n⟩, Reps.clr (fun _ n => n) l xs [] (fun _ z => nomatch z) rr⟩
          | lk =>
            have r2 : Rep Γ S2 H1 (.lst .lk l) x [] := r2
            simp only [Rep] at r2
            obtain ⟨a, xs, rfl, _, e, rr⟩ := r2
            exact ⟨a, xs, rfl, e, Reps.clr (fun _ n => n) l xs [] (fun _ z => nomatch z) rr⟩
        rw [O.K]
        exact ⟨a, rfl, ⟨xs, st.seq⟩, q S2 H1 fp1 _ p2 (.inl ⟨a, xs, rfl, st, rr⟩)⟩
    · cases h
theorem folded {iter : Expr} {x : Value} {env : PySem.Env} {v : Expr → Ev D} (hset : ∀ es k p, v (.Set es k p) = fun _ => none) {r : Src × Env} (h : srcC G v iter δ = some r) : foldedSetIterable iter env x = pure x := by
  cases iter <;> first | rfl | skip
  exfalso
  unfold srcC rngE at h
  simp only at h
  rw [hset] at h
  cases h
end
end PyD

/-! The interpreter is right: targets, comprehensions, list(range(..)). -/
namespace PyD
open PySem PySem.Spec PyProof.Rows L2
section
variable {Γ : Gd} {G : Gc} {X : Cx} {S S' S1 S2 : Addr → Prop} {H H' H0 H1 H2 : Hp} {σ σ' : L2.St} {δ δ' δ1 δ2 : Env} {fp fp0 fp1 fp2 : Fp} {d : D} {Q : VK}
/-! ### targets -/
def OwnS (G : Gc) (j : Nat) : Prop := ∃ x, G.slot x = some j ∧ locK (G.sc.names.lookup x) = true ∧ G.fx.contains j = false
def tF (Γ : Gd) (G : Gc) (m : D → Env → Option Env) : TG := fun v σ H Q => ∃ (S : Addr → Prop) (δ : Env) (fp : Fp) (d : D) (f : List Addr) (δ' : Env) (W0 : Addr → Prop) (H0 : Hp), EnvOk Γ S H σ δ fp ∧ Vp Γ S H d v f fp W0 H0 ∧ m d δ = some δ' ∧
  ∀ σ' fp', EnvOk Γ S H σ' δ' fp' → (∀ a, Wf fp' a → Wf fp a ∨ a ∈ f) → (∀ j, ¬ OwnS G j → σ'[j]? = σ[j]?) → σ'.length = σ.length → Q σ' H
def tFs (Γ : Gd) (G : Gc) (m : List D → Env → Option Env) : TGs := fun vs σ H Q => ∃ (S : Addr → Prop) (δ : Env) (fp : Fp) (ds : List D) (δ' : Env), EnvOk Γ S H σ δ fp ∧ Reps Γ S H ds vs [] ∧ m ds δ = some δ' ∧
  ∀ σ' fp', EnvOk Γ S H σ' δ' fp' → (∀ a, Wf fp' a → Wf fp a) → (∀ j, ¬ OwnS G j → σ'[j]? = σ[j]?) → σ'.length = σ.length → Q σ' H
theorem PG.mono {tg : Expr} {t t' : TG} (h : PG X tg t) (m : ∀ v σ H Q, t' v σ H Q → t v σ H Q) : PG X tg t' := ⟨fun pins s σ H v u Q I r z => h.run pins s σ H v u Q I r (m v σ H Q z)⟩
theorem PGs.mono {tg : List Expr} {t t' : TGs} (h : PGs X tg t) (m : ∀ v σ H Q, t' v σ H Q → t v σ H Q) : PGs X tg t' := ⟨fun pins s σ H v u Q I r z => h.run pins s σ H v u Q I r (m v σ H Q z)⟩
theorem PG.no {tg : Expr} (Γ : Gd) (G : Gc) : PG X tg (tF Γ G fun _ _ => none) := ⟨fun _ _ _ _ _ _ _ _ _ ⟨_, _, _, _, _, _, _, _, _, _, e, _⟩ => by cases e⟩
theorem PGs.no {tg : List Expr} (Γ : Gd) (G : Gc) : PGs X tg (tFs Γ G fun _ _ => none) := ⟨fun _ _ _ _ _ _ _ _ _ ⟨_, _, _, _, _, _, _, e, _⟩ => by cases e⟩
theorem locK_loc {x : Str} (O : XOk Γ G X) (h : locK (G.sc.names.lookup x) = true) : Loc X.env.scope x := by
  unfold locK at h
  split at h
  · rename_i e; exact .inl (O.scl x _ (by decide) e)
  · rename_i e; exact .inr (O.scl x _ (by decide) e)
  · cases h
theorem each_plainT (env : PySem.Env) : ∀ es : List Expr, es.all plainT = true → assignEach es env = es.map fun e => (false, assign e env)
  | [], _ => rfl
  | e :: es, h => by
    rw [List.all_cons, Bool.and_eq_true] at h
    have ih := each_plainT env es h.2
    have : assignEach (e :: es) env = (false, assign e env) :: assignEach es env := by
      cases e <;> first | rfl | exact absurd h.1 (by simp [plainT])
    rw [this, ih]
    rfl
theorem put_wf {i : Nat} {f : List Addr} {a : Addr} (h : Wf (put fp i f) a) : Wf fp a ∨ a ∈ f := by
  obtain ⟨k, hk⟩ := h
  by_cases e : k = i
  · rw [e, put_same] at hk; exact .inr hk
  · rw [put_ne e] at hk; exact .inl ⟨k, hk⟩
theorem flN_rd {x : Str} {i : Nat} (hs : G.slot x = some i) (hk : locK (G.sc.names.lookup x) = true) (hf : G.fx.contains i = false) : ∀ v σ H Q, tF Γ G (flN i) v σ H Q → gName i v σ H Q := by
  intro v σ H Q h
  obtain ⟨S, δ, fp, d, f, δ', W0, H0, E, x1, h, q⟩ := h
  unfold flN at h
  obtain ⟨c, rfl⟩ := ifB h
  rw [decide_eq_true_eq] at c
  refine q _ _ (E.set x1 c) (fun a w => put_wf w) (fun j hj => ?_) (List.length_set ..)
  by_cases e : i = j
  · subst e
    exact absurd ⟨x, hs, hk, hf⟩ hj
  · rw [List.getElem?_set_ne e]
theorem flTs_ok {n : Nat} (h : ∀ e, PG X e (tF Γ G (G.fill n e))) : ∀ es : List Expr, es.all plainT = true → PGs X es (tFs Γ G (flTs (es.map (G.fill n))))
  | [], _ => by
    refine PGs.mono pgs_nil fun v σ H Q h => ?_
    obtain ⟨S, δ, fp, ds, δ', E, r, h, q⟩ := h
    cases ds with
    | nil =>
      simp only [List.map_nil, flTs] at h
      cases h
      simp only [Reps] at r
      exact ⟨r.1, q σ fp E (fun _ z => z) (fun _ _ => rfl) rfl⟩
    | cons _ _ => simp only [List.map_nil, flTs] at h; cases h
  | e :: es, hp => by
    have hp' := hp
    rw [List.all_cons, Bool.and_eq_true] at hp'
    refine PGs.mono (pgs_cons (h e) (flTs_ok h es hp'.2) (by rw [each_plainT X.env _ hp, each_plainT X.env _ hp'.2]; rfl)) fun v σ H Q h => ?_
    obtain ⟨S, δ, fp, ds, δ', E, r, h, q⟩ := h
    cases ds with
    | nil => simp only [List.map_cons, flTs] at h; cases h
    | cons d ds =>
      simp only [Reps] at r
      obtain ⟨v, vs, f, g, rfl, e0, r1, r2⟩ := r
      obtain ⟨ef, eg⟩ := List.append_eq_nil_iff.mp e0.symm
      subst ef eg
      simp only [List.map_cons, flTs] at h
      split at h
      · rename_i δ1 h1
        refine ⟨v, vs, rfl, S, δ, fp, d, [], δ1, fun _ => False, H, E, Vp.flat r1, h1, fun σ1 fp1 E1 w1 k1 l1 => ⟨S, δ1, fp1, ds, δ', E1, r2, h, fun σ2 fp2 E2 w2 k2 l2 => ?_⟩⟩
        refine q σ2 fp2 E2 (fun a z => ?_) (fun j hj => (k2 j hj).trans (k1 j hj)) (l2.trans l1)
        rcases w1 a (w2 a z) with z | z
        · exact z
        · cases z
      · cases h
theorem fill_ok (O : XOk Γ G X) : ∀ (n : Nat) (tg : Expr), PG X tg (tF Γ G (G.fill n tg))
  | 0, tg => PG.no Γ G
  | n + 1, tg => by
    cases tg with
    | Name x p =>
      show PG X _ (tF Γ G (match G.slot x with
        | some i => if (locK (G.sc.names.lookup x) && !G.fx.contains i) = true then flN i else flNo
        | none => flNo))
      split
      · rename_i i hs
        split
        · rename_i c
          rw [Bool.and_eq_true, Bool.not_eq_true'] at c
          obtain ⟨h1, _⟩ := slot_ok O hs
          exact PG.mono (pg_name (by rw [O.N]; exact O.nd) h1 (locK_loc O c.1) (O.fn x c.1)) (flN_rd hs c.1 c.2)
        · exact PG.no Γ G
      · exact PG.no Γ G
    | Tuple es k p =>
      show PG X _ (tF Γ G (if es.all plainT = true then flT (es.map (G.fill n)) else flNo))
      split
      · rename_i hp
        have e1 := each_plainT X.env es hp
        refine PG.mono (pg_tup (n := es.length) O.calm (flTs_ok (fill_ok O n) es hp) (by rw [e1, List.length_map]) (by rw [e1]; clear e1 hp; induction es with
          | nil => rfl
          | cons e es ih => simp [List.findIdx?_map])) fun v σ H Q h => ?_
        obtain ⟨S, δ, fp, d, f, δ', W0, H0, E, x1, h, q⟩ := h
        unfold flT at h
        split at h
        · rename_i l
          obtain ⟨c, h⟩ : l.length = es.length ∧ flTs (es.map (G.fill n)) l δ = some δ' := by
            split at h
            · rename_i c
              rw [List.length_map] at c
              exact ⟨c, h⟩
            · cases h
          obtain ⟨a, xs, rfl, st, rr⟩ := x1.rep.tup_inv
          rw [O.K]
          exact ⟨a, xs, rfl, st.seq, by rw [rr.length]; exact c, S, δ, fp, l, δ', E, rr, h, fun σ' fp' E' w k l => q σ' fp' E' (fun a z => .inl (w a z)) k l⟩
        · cases h
      · exact PG.no Γ G
    | _ => exact PG.no Γ G

/-! ### the slots of a block -/
def fpDrop (vs : List Nat) (fp : Fp) : Fp := fun k => if k ∈ vs then [] else fp k
theorem fpDrop_in {vs : List Nat} {k : Nat} {a : Addr} (h : a ∈ fpDrop vs fp k) : k ∉ vs ∧ a ∈ fp k := by
  unfold fpDrop at h
  split at h
  · cases h
  · rename_i c; exact ⟨c, h⟩
theorem fpDrop_wf {vs : List Nat} {a : Addr} (h : Wf (fpDrop vs fp) a) : Wf fp a := let ⟨k, hk⟩ := h; ⟨k, (fpDrop_in hk).2⟩
theorem wipeD_len : ∀ vs : List Nat, (wipeD δ vs).length = δ.length
  | [] => rfl
  | v :: vs => by unfold wipeD; rw [List.length_set, wipeD_len vs]
theorem wipeD_some {i : Nat} : ∀ {vs : List Nat}, (wipeD δ vs)[i]? = some (some d) → δ[i]? = some (some d) ∧ i ∉ vs
  | [], h => ⟨h, by simp⟩
  | v :: vs, h => by
    unfold wipeD at h
    by_cases hi : v = i
    · subst hi
      by_cases hv : v < (wipeD δ vs).length
      · rw [List.getElem?_set_self hv] at h; cases h
      · rw [List.getElem?_eq_none (by simpa using hv)] at h; cases h
    · rw [List.getElem?_set_ne hi] at h
      obtain ⟨h1, h2⟩ := wipeD_some h
      exact ⟨h1, by simp only [List.mem_cons, not_or]; exact ⟨fun e => hi e.symm, h2⟩⟩
theorem wipe_get {i : Nat} : ∀ {vs : List Nat}, i ∉ vs → (wipe σ vs)[i]? = σ[i]?
  | [], _ => rfl
  | v :: vs, h => by
    unfold wipe
    rw [List.getElem?_set_ne (fun e => h (by simp [e])), wipe_get fun z => h (List.mem_cons_of_mem _ z)]
theorem wipe_in {i : Nat} : ∀ {vs : List Nat}, i ∈ vs → i < σ.length → (wipe σ vs)[i]? = some none
  | [], h, _ => nomatch h
  | v :: vs, h, hi => by
    unfold wipe
    by_cases e : v = i
    · subst e
      rw [List.getElem?_set_self (by rw [wipe_length]; exact hi)]
    · rw [List.getElem?_set_ne e]
      exact wipe_in ((List.mem_cons.mp h).resolve_left fun z => e z.symm) hi
theorem wipe_eq {vs : List Nat} (h : ∀ j, j ∉ vs → σ'[j]? = (wipe σ vs)[j]?) (l : σ'.length = σ.length) : wipe σ' vs = wipe σ vs := by
  apply List.ext_getElem?
  intro j
  by_cases hj : j ∈ vs
  · by_cases hl : j < σ.length
    · rw [wipe_in hj hl, wipe_in hj (by rw [l]; exact hl)]
    · rw [List.getElem?_eq_none (by rw [wipe_length, l]; omega), List.getElem?_eq_none (by rw [wipe_length]; omega)]
  · rw [wipe_get hj, h j hj]
theorem EnvOk.wiped {vs : List Nat} (E : EnvOk Γ S H σ δ fp) : EnvOk Γ S H (wipe σ vs) (wipeD δ vs) (fpDrop vs fp) := by
  refine ⟨by rw [wipe_length, wipeD_len]; exact E.len, fun i d e => ?_, fun i => ?_, fun i j a ha hb => E.dj i j a (fpDrop_in ha).2 (fpDrop_in hb).2, fun i a ha => E.su i a (fpDrop_in ha).2, E.lv⟩
  · obtain ⟨e1, hn⟩ := wipeD_some e
    obtain ⟨v, h1, r⟩ := E.slot i d e1
    refine ⟨v, by rw [wipe_get hn]; exact h1, ?_⟩
    unfold fpDrop
    rw [if_neg hn]
    exact r
  · unfold fpDrop
    split
    · exact List.nodup_nil
    · exact E.nd i
theorem mendD_some {δ0 : Env} {i : Nat} : ∀ {vs : List Nat}, (mendD δ0 δ vs)[i]? = some (some d) → (i ∈ vs ∧ flat d = true ∧ δ0[i]? = some (some d)) ∨ (i ∉ vs ∧ δ[i]? = some (some d))
  | [], h => .inr ⟨by simp, h⟩
  | v :: vs, h => by
    unfold mendD at h
    by_cases hi : v = i
    · subst hi
      left
      by_cases hv : v < (mendD δ0 δ vs).length
      · rw [List.getElem?_set_self hv] at h
        have h := Option.some.inj h
        unfold flatO at h
        split at h
        · rename_i e
          obtain ⟨c, rfl⟩ := ifB h
          exact ⟨by simp, c, e⟩
        · cases h
      · rw [List.getElem?_eq_none (by simpa using hv)] at h; cases h
    · rw [List.getElem?_set_ne hi] at h
      rcases mendD_some h with ⟨h1, h2⟩ | ⟨h1, h2⟩
      · exact .inl ⟨List.mem_cons_of_mem _ h1, h2⟩
      · exact .inr ⟨by simp only [List.mem_cons, not_or]; exact ⟨fun e => hi e.symm, h1⟩, h2⟩
theorem mendD_len {δ0 : Env} : ∀ vs : List Nat, (mendD δ0 δ vs).length = δ.length
  | [] => rfl
  | v :: vs => by unfold mendD; rw [List.length_set, mendD_len vs]
theorem EnvOk.mend {vs : List Nat} {δ0 : Env} (E : EnvOk Γ S H (wipe σ vs) δ fp) (h : ∀ (i : Nat) (d : D), δ0[i]? = some (some d) → flat d = true → ∃ v, σ[i]? = some (some v) ∧ Rep Γ S H d v []) : EnvOk Γ S H σ (mendD δ0 δ vs) (fpDrop vs fp) := by
  refine ⟨by rw [mendD_len, ← E.len, wipe_length], fun i d e => ?_, fun i => ?_, fun i j a ha hb => E.dj i j a (fpDrop_in ha).2 (fpDrop_in hb).2, fun i a ha => E.su i a (fpDrop_in ha).2, E.lv⟩
  · rcases mendD_some e with ⟨hi, hf, e0⟩ | ⟨hi, e0⟩
    · obtain ⟨v, h1, r⟩ := h i d e0 hf
      refine ⟨v, h1, ?_⟩
      unfold fpDrop
      rw [if_pos hi]
      exact r
    · obtain ⟨v, h1, r⟩ := E.slot i d e0
      refine ⟨v, by rw [wipe_get hi] at h1; exact h1, ?_⟩
      unfold fpDrop
      rw [if_neg hi]
      exact r
  · unfold fpDrop
    split
    · exact List.nodup_nil
    · exact E.nd i
theorem ownOf_mem {N : List Str} {x : Str} {i : Nat} : ∀ {l : List (Str × NameKind)}, (x, i) ∈ ownOf N l → ∃ k, (x, k) ∈ l
  | [], h => nomatch h
  | (y, k) :: r, h => by
    unfold ownOf at h
    split at h
    · rcases List.mem_cons.mp h with e | h
      · cases e; exact ⟨k, by simp⟩
      · obtain ⟨k', h'⟩ := ownOf_mem h; exact ⟨k', List.mem_cons_of_mem _ h'⟩
    · obtain ⟨k', h'⟩ := ownOf_mem h; exact ⟨k', List.mem_cons_of_mem _ h'⟩
theorem ownOf_has {N : List Str} {x : Str} {i : Nat} (hi : ixOf x N 0 = some i) : ∀ {l : List (Str × NameKind)}, locK (l.lookup x) = true → i ∈ (ownOf N l).map (·.2)
  | [], h => by cases h
  | (y, k) :: r, h => by
    rw [List.lookup_cons] at h
    unfold ownOf
    split at h
    · rename_i e
      have e := eq_of_beq e
      subst e
      rw [h, hi]
      simp
    · have ih := ownOf_has hi h
      split
      · exact List.mem_cons_of_mem _ ih
      · exact ih
/-! ### the context of a block -/
theorem relS_free {sc : Scope} {x : Str} : ∀ {names : List (Str × NameKind)}, names.lookup x = some .free →
    (names.map fun (n, k) => if (k == NameKind.free && sc.kind == .function && sc.names.lookup n == some .cell) then (n, NameKind.cell) else (n, k)).lookup x = some .free ∨
    (names.map fun (n, k) => if (k == NameKind.free && sc.kind == .function && sc.names.lookup n == some .cell) then (n, NameKind.cell) else (n, k)).lookup x = some .cell
  | [], h => by simp at h
  | (n, k₀) :: r, h => by
    have ih := @relS_free sc x r
    show List.lookup x ((if (k₀ == NameKind.free && sc.kind == .function && sc.names.lookup n == some .cell) = true then (n, NameKind.cell) else (n, k₀)) :: (r.map _)) = _ ∨ List.lookup x ((if (k₀ == NameKind.free && sc.kind == .function && sc.names.lookup n == some .cell) = true then (n, NameKind.cell) else (n, k₀)) :: (r.map _)) = _
    cases hx : x == n with
    | true =>
      simp only [List.lookup_cons, hx] at h
      cases h
      by_cases hc : (NameKind.free == NameKind.free && sc.kind == .function && sc.names.lookup n == some .cell) = true
      · rw [if_pos hc]
        right
        simp only [List.lookup_cons, hx]
      · rw [if_neg hc]
        left
        simp only [List.lookup_cons, hx]
    | false =>
      simp only [List.lookup_cons, hx] at h
      by_cases hc : (k₀ == NameKind.free && sc.kind == .function && sc.names.lookup n == some .cell) = true
      · rw [if_pos hc]; simp only [List.lookup_cons, hx]; exact ih h
      · rw [if_neg hc]; simp only [List.lookup_cons, hx]; exact ih h
theorem blk_ok {scope : Scope} {s : Shared} {C : Addr} {cl : List (Str × Addr)} {fq : List Addr} {Hb : Hp} (O : XOk Γ G X) (hk : scope.kind = .function) : XOk Γ { G with sc := scope } (X.blk s Hb scope (compEnvC scope cl C X.env) fq) where
  K := O.K
  N := O.N
  nd := O.nd
  calm := O.calm
  kind := hk
  scl := fun x k hk h => lookup_relS_keep (sc := X.env.scope) hk h
  scf := fun x h => relS_free (sc := X.env.scope) h
  xe := rfl
  fn := fun x h => by
    unfold locK at h
    split at h
    · rename_i e
      exact .inr (lookup_relS_keep (sc := X.env.scope) (by decide) e)
    · rename_i e
      left
      show (scope.names.lookup x == some .cell) = true
      rw [show scope.names.lookup x = some .cell from e]
      rfl
    · cases h
  con := O.con
  free := O.free
  units := O.units
  call := fun f ms h => by
    obtain ⟨k, fa, fd, ps, F⟩ := O.call f ms h
    exact ⟨k, fa, fd, ps, ⟨F.fn, F.room, F.mg, F.kp, F.bd, F.len⟩⟩
theorem blkC_ok {scope : Scope} (O : XOk Γ G X) (h : blkC G.N G.sc scope (ownOf G.N scope.names) = true) : BlkOk X.N X.env.scope scope (ownOf G.N scope.names) := by
  have b := blkOk_by h
  refine ⟨b.kind, b.uniq, fun p hp => by rw [O.N]; exact b.ix p hp, fun y hy e => ?_, fun y hy e => by rw [O.N]; exact b.own y hy e⟩
  rcases b.free y hy e with z | z
  · exact .inl (O.scl _ _ (by decide) z)
  · rcases O.scf _ z with z | z
    · exact .inr z
    · exact .inl z
end
end PyD

/-! The interpreter is right: comprehensions, list(range(..)), all expressions. -/
namespace PyD
open PySem PySem.Spec PyProof.Rows L2
section
variable {Γ : Gd} {G : Gc} {X : Cx} {S S' S1 S2 : Addr → Prop} {H H' H0 H1 H2 : Hp} {σ σ' : L2.St} {δ δ' δ1 δ2 : Env} {fp fp0 fp1 fp2 : Fp} {d : D} {Q : VK}
/-- the elements sealed -/
def clrE (m : Ev D) : Ev D := fun δ => (m δ).map fun p => (clr p.1, p.2)
theorem drop_cons {α : Type} {l r : List α} {i : Nat} {d : α} (h : l.drop i = d :: r) : l[i]? = some d ∧ l.drop (i + 1) = r ∧ i < l.length := by
  have h1 : i < l.length := by
    rcases Nat.lt_or_ge i l.length with h1 | h1
    · exact h1
    · rw [List.drop_eq_nil_of_le h1] at h; cases h
  rw [List.drop_eq_getElem_cons h1] at h
  cases h
  exact ⟨List.getElem?_eq_getElem h1, rfl, h1⟩
theorem drop_nil {α : Type} {l : List α} {i : Nat} (h : l.drop i = []) : l.length ≤ i := List.drop_eq_nil_iff.mp h
theorem comp_rd {scope : Scope} {src : Ev Src} {fill : D → Env → Option Env} {test : Ev Bool} {ee : Ev D} : ∀ σ H Q, tE Γ (compC src fill test ee ((ownOf G.N scope.names).map (·.2))) σ H Q → tLc (tSr Γ src) (tF Γ { G with sc := scope } fill) (tB Γ test) (tE Γ ee) ((ownOf G.N scope.names).map (·.2)) σ H Q := by
  rintro σ H Q ⟨S, δ, fp, d, δ', E, h, q⟩
  generalize hvs : (ownOf G.N scope.names).map (·.2) = vs at h ⊢
  unfold compC at h
  split at h
  case h_2 => cases h
  rename_i s δ1 h1
  split at h
  case h_2 => cases h
  rename_i l δ2 h2
  obtain ⟨rfl, rfl⟩ := pinj h
  refine ⟨S, δ, fp, s, δ1, E, h1, fun S1 H1 fp1 J p1 jr D hD => ?_⟩
  -- the new list
  have Ew : EnvOk Γ S1 H1 (wipe σ vs) (wipeD δ1 vs) (fpDrop vs fp1) := p1.env.wiped
  have pn : Pst Γ S1 H1 (fpDrop vs fp1) (addS S1 True D) (upd H1 D (.lst [])) (wipe σ vs) (wipeD δ1 vs) (fpDrop vs fp1) := EnvOk.new Ew hD
  have vn : Vp Γ (addS S1 True D) (upd H1 D (.lst [])) (.lst .own []) (.ref D) [D] (fpDrop vs fp1) (fun _ => False) H1 := by
    refine ⟨?_, by simp, fun a ha w => ?_, fun a ha => ?_⟩
    · simp only [Rep]
      exact ⟨D, [], [], rfl, rfl, upd_same, .inr ⟨trivial, rfl⟩, Reps.nil⟩
    · rw [List.mem_singleton] at ha; subst ha
      exact Ew.lv a (Ew.wf w) hD
    · rw [List.mem_singleton] at ha; subst ha
      exact .inr hD
  have jn : JRep Γ (addS S1 True D) (upd H1 D (.lst [])) s J := jr.frame pn.stp fun a w => .inl (Ew.wf w)
  refine ⟨fun i m H3 => ∃ S3 δ3 fp3 acc, Pst Γ S1 H1 (fpDrop vs fp1) S3 H3 (wipe σ vs) δ3 fp3 ∧ Vp Γ S3 H3 (.lst .own acc) (.ref D) [D] fp3 (fun _ => False) H1 ∧ JRep Γ S3 H3 s J ∧ m = s.items.length - i ∧
    compL fill test (clrE ee) vs (s.items.drop i) acc δ3 = some (l, δ2), ⟨s.items.length, _, _, _, [], pn, vn, jn, rfl, h2⟩, ?_⟩
  rintro i m H3 ⟨S3, δ3, fp3, acc, p3, v3, j3, hm, hl⟩
  cases hdr : s.items.drop i with
  | nil =>
    left
    rw [hdr] at hl
    simp only [compL] at hl
    obtain ⟨rfl, rfl⟩ := pinj hl
    refine ⟨j3.stop (drop_nil hdr), ?_⟩
    have Em : EnvOk Γ S3 H3 σ (mendD δ1 δ2 vs) (fpDrop vs fp3) := p3.env.mend fun i d e hf => by
      obtain ⟨v, e1, r⟩ := p1.env.slot i d e
      have e0 := Rep.flat r hf
      rw [e0] at r
      exact ⟨v, e1, r.frame p3.stp (fun a w => .inl (Ew.wf w)) fun _ z => nomatch z⟩
    have pm : Pst Γ S1 H1 fp1 S3 H3 σ (mendD δ1 δ2 vs) (fpDrop vs fp3) := ⟨Em, p3.stp.wide fun a w => fpDrop_wf w, fun i a ha => by
      rcases p3.new i a (fpDrop_in ha).2 with z | z
      · exact .inl (fpDrop_wf z)
      · exact .inr z⟩
    refine q S3 H3 _ (.ref D) [D] (Pst.trans E p1 pm) ⟨v3.rep, v3.nd, fun a ha w => v3.dj a ha (fpDrop_wf w), fun a ha => ?_⟩
    rcases v3.new a ha with z | z
    · exact z.elim
    · exact .inr (none_of p1.stp z)
  | cons d ds =>
    right
    obtain ⟨hd, hdr2, hlt⟩ := drop_cons hdr
    refine ⟨j3.go hlt, ?_⟩
    rw [hdr] at hl
    simp only [compL] at hl
    split at hl
    case h_2 => cases hl
    rename_i δ4 h4
    refine ⟨fun H7 => ∃ S7 δ7 fp7 acc, Pst Γ S1 H1 (fpDrop vs fp1) S7 H7 (wipe σ vs) δ7 fp7 ∧ Vp Γ S7 H7 (.lst .own acc) (.ref D) [D] fp7 (fun _ => False) H1 ∧ JRep Γ S7 H7 s J ∧
      compL fill test (clrE ee) vs ds acc δ7 = some (l, δ2), ?_, fun x H3' y => ?_⟩
    · rintro H7 ⟨S7, δ7, fp7, acc7, a, b, c, e⟩
      exact ⟨s.items.length - (i + 1), by omega, S7, δ7, fp7, acc7, a, b, c, rfl, by rw [hdr2]; exact e⟩
    obtain ⟨rfl, rx⟩ := j3.yld hd y
    refine ⟨S3, δ3, fp3, d, [], δ4, fun _ => False, H3', p3.env, Vp.flat rx, h4, fun σ4 fp4 E4 w4 k4 l4 => ⟨?_, ?_⟩⟩
    · refine wipe_eq (fun j hj => k4 j fun ⟨x, o1, o2, o3⟩ => hj ?_) (by rw [l4, wipe_length])
      rw [← hvs]
      unfold Gc.slot at o1
      split at o1
      · exact ownOf_has o1 o2
      · cases o1
    have hw4 : wipe σ4 vs = wipe σ vs := wipe_eq (fun j hj => k4 j fun ⟨x, o1, o2, o3⟩ => hj (by
      rw [← hvs]
      unfold Gc.slot at o1
      split at o1
      · exact ownOf_has o1 o2
      · cases o1)) (by rw [l4, wipe_length])
    have p4 : Pst Γ S1 H1 (fpDrop vs fp1) S3 H3' σ4 δ4 fp4 := ⟨E4, p3.stp, fun i a ha => by
      rcases w4 a ⟨i, ha⟩ with z | z
      · exact p3.wf z
      · cases z⟩
    have v4 : Vp Γ S3 H3' (.lst .own acc) (.ref D) [D] fp4 (fun _ => False) H1 := ⟨v3.rep, v3.nd, (fun a ha w => by
      rcases w4 a w with z | z
      · exact v3.dj a ha z
      · cases z), v3.new⟩
    split at hl
    case h_3 => cases hl
    · -- true
      rename_i δ5 h5
      refine ⟨S3, δ4, fp4, true, δ5, E4, h5, fun S5 H5 fp5 p5 => iteT ?_⟩
      split at hl
      case h_2 => cases hl
      rename_i x6 δ6 h6
      obtain ⟨⟨y6, δ6'⟩, h6', e6⟩ := mapS (show (ee δ5).map (fun p => (clr p.1, p.2)) = some (x6, δ6) from h6)
      obtain ⟨rfl, rfl⟩ : x6 = clr y6 ∧ δ6 = δ6' := ⟨congrArg Prod.fst e6, congrArg Prod.snd e6⟩
      obtain ⟨hlen, hl⟩ : acc.length < line ∧ compL fill test (clrE ee) vs ds (acc ++ [clr y6]) (wipeD δ6 vs) = some (l, δ2) := by
        split at hl
        · exact ⟨by assumption, hl⟩
        · cases hl
      refine ⟨S5, δ5, fp5, y6, δ6, p5.env, h6', fun S6 H6 fp6 y g p6 y1 => ?_⟩
      -- what y owns is given up
      have p46 : Pst Γ S3 H3' fp4 S6 H6 σ4 δ6 fp6 := Pst.trans E4 p5 p6
      have y2 := y1.since p5
      obtain ⟨S8, p8, ry⟩ := y2.sealed E4 p46
      have v8 := v4.hold E4 p8
      have hr := v8.rep
      simp only [Rep] at hr
      obtain ⟨a, xs, f, ea, ef, hH, hS, rr⟩ := hr
      cases ea
      have ef : f = [] := (List.cons.inj ef).2.symm
      subst ef
      refine ⟨xs, hH, by rw [rr.length, ← line_eq]; exact hlen, ?_⟩
      have st9 : Stp (fun a => a = D) S8 H6 S8 (upd H6 D (.lst (xs ++ [y]))) := ⟨fun a o e n => by rw [upd_ne n]; exact e, fun _ _ z => z, fun _ z _ => z, fun a e => by
        by_cases z : a = D
        · rw [z, upd_same]; simp
        · rw [upd_ne z]; exact e⟩
      have su9 : ∀ a, a = D → S8 a ∨ H6 a = none := fun a e => by rw [e]; exact .inl hS
      have lv9 : ∀ a, S8 a → upd H6 D (.lst (xs ++ [y])) a ≠ none := fun a z => st9.live a (p8.env.lv a z)
      have E9 : EnvOk Γ S8 (upd H6 D (.lst (xs ++ [y]))) σ4 δ6 fp6 := p8.env.stp st9 su9 (fun a e w => v8.dj a (by rw [e]; simp) w) lv9
      have Ew9 : EnvOk Γ S8 (upd H6 D (.lst (xs ++ [y]))) (wipe σ vs) (wipeD δ6 vs) (fpDrop vs fp6) := by
        rw [← hw4]
        exact E9.wiped
      have p18 : Pst Γ S1 H1 (fpDrop vs fp1) S8 H6 σ4 δ6 fp6 := Pst.trans Ew p4 p8
      have hDn : H1 D = none := hD
      refine ⟨S8, _, _, acc ++ [clr y6], ⟨Ew9, ⟨fun a o e n => ?_, fun a e z => p18.stp.back a e z, fun a z n => p18.stp.stay a z n, fun a e => st9.live a (p18.stp.live a e)⟩, fun i a ha => p18.new i a (fpDrop_in ha).2⟩, ⟨?_, by simp, fun a ha w => v8.dj a ha (fpDrop_wf w), v8.new⟩, ?_, hl⟩
      · have hne : a ≠ D := fun z => by rw [z, hDn] at e; cases e
        rw [upd_ne hne]
        exact p18.stp.keep a o e n
      · simp only [Rep]
        refine ⟨D, xs ++ [y], [], rfl, rfl, upd_same, hS, ?_⟩
        have := Reps.append (rr.frame st9 su9 fun _ z => nomatch z) (Reps.one (ry.frame st9 su9 fun _ z => nomatch z))
        exact this
      · exact (j3.frame p8.stp fun a w => .inl (E4.wf w)).frame st9 su9
    · rename_i δ5 h5
      refine ⟨S3, δ4, fp4, false, δ5, E4, h5, fun S5 H5 fp5 p5 => iteF ?_⟩
      have p15 : Pst Γ S1 H1 (fpDrop vs fp1) S5 H5 σ4 δ5 fp5 := Pst.trans Ew p4 p5
      have Ew5 : EnvOk Γ S5 H5 (wipe σ vs) (wipeD δ5 vs) (fpDrop vs fp5) := by
        rw [← hw4]
        exact p5.env.wiped
      have v5 := v4.hold E4 p5
      exact ⟨S5, _, _, acc, ⟨Ew5, p15.stp, fun i a ha => p15.new i a (fpDrop_in ha).2⟩, ⟨v5.rep, v5.nd, fun a ha w => v5.dj a ha (fpDrop_wf w), v5.new⟩, j3.frame p5.stp fun a w => .inl (E4.wf w), hl⟩

theorem comp_ok {elt tg iter : Expr} {ifs : List Expr} {scope : Scope} {pos : Pos} {src : Ev Src} {fill : D → Env → Option Env} {test : Ev Bool} {ee : Ev D} (O : XOk Γ G X) (hb : blkC G.N G.sc scope (ownOf G.N scope.names) = true)
    (hi : PI X tg iter (tSr Γ src)) (hf : ∀ (s : Shared) (H : Hp) (C : Addr) (cl : List (Str × Addr)) (fq : List Addr), PG (X.blk s H scope (compEnvC scope cl C X.env) fq) tg (tF Γ { G with sc := scope } fill))
    (ht : ∀ (s : Shared) (H : Hp) (C : Addr) (cl : List (Str × Addr)) (fq : List Addr), PTs (X.blk s H scope (compEnvC scope cl C X.env) fq) ifs (tB Γ test)) (he : ∀ (s : Shared) (H : Hp) (C : Addr) (cl : List (Str × Addr)) (fq : List Addr), PE (X.blk s H scope (compEnvC scope cl C X.env) fq) elt (tE Γ ee))
    (hs : ∀ δ r, src δ = some r → ∀ x, foldedSetIterable iter X.env x = pure x) : PE X (.ListComp elt [⟨tg, iter, ifs, 0⟩] scope pos) (tE Γ (compC src fill test ee ((ownOf G.N scope.names).map (·.2)))) := by
  by_cases hany : ∃ δ r, src δ = some r
  case neg =>
    refine PE.mono (PE.no Γ) ?_
    rintro σ H Q ⟨S, δ, fp, d, δ', E, h, q⟩
    unfold compC at h
    split at h
    · rename_i s δ1 h1
      exact absurd ⟨δ, _, h1⟩ hany
    · cases h
  obtain ⟨δs, rs, hs1⟩ := hany
  refine PE.mono (pe_lc O.calm (by rw [O.N]; exact O.nd) hi (blkC_ok O hb) hf ht he (hs δs rs hs1)) comp_rd
/-! ### list(range(..)) -/
theorem reps_int {ι : Type} {g : ι → Int} : ∀ l : List ι, Reps Γ S H (l.map fun i => D.int (g i)) (l.map fun i => V.int (g i)) []
  | [] => Reps.nil
  | i :: l => by
    have := Reps.cons (Rep.int (Γ := Γ) (S := S) (H := H) (i := g i)) (reps_int (g := g) l)
    exact this
def tRgD (Γ : Gd) (m : Ev Src) : L2.St → Hp → (Int → Int → Hp → Prop) → Prop := fun σ H Q => ∃ S δ fp lo n δ', EnvOk Γ S H σ δ fp ∧ m δ = some (.rng lo n, δ') ∧
  ∀ S' H' fp' hi, Pst Γ S H fp S' H' σ δ' fp' → n = (hi - lo).toNat → -(2 ^ 62) ≤ lo ∧ lo < 2 ^ 62 ∧ -(2 ^ 62) ≤ hi ∧ hi < 2 ^ 62 → Q lo hi H'
theorem prg_mono {e : Expr} {t t' : L2.St → Hp → (Int → Int → Hp → Prop) → Prop} (h : PRg X e t) (m : ∀ σ H Q, t' σ H Q → t σ H Q) : PRg X e t' := fun pins s σ H Q I z => h pins s σ H Q I (m σ H Q z)
theorem prg_no {e : Expr} {t' : L2.St → Hp → (Int → Int → Hp → Prop) → Prop} (m : ∀ σ H Q, ¬ t' σ H Q) : PRg X e t' := fun pins s σ H Q I z => (m σ H Q z).elim
theorem rgD_ok {e : Expr} {rs : List Expr} {v : Expr → Ev D} (O : XOk Γ G X) (h : ∀ e, PE X e (tE Γ (v e))) (hst : ∀ a p, v (.Starred a p) = fun _ => none) (hr : rngE e = some rs) : PRg X e (tRgD Γ (srcC G v e)) := by
  have none_no : ∀ σ H Q, ¬ tRgD Γ (fun _ => none) σ H Q := by
    rintro σ H Q ⟨_, _, _, _, _, _, _, e, _⟩
    cases e
  unfold srcC
  rw [hr]
  obtain ⟨p, pos, rfl⟩ := rngE_eq hr
  dsimp only
  split
  · rename_i hf
    obtain ⟨g1, g2, g3⟩ := free_ok O hf
    split
    · rename_i b
      by_cases hs : isStar b = true
      · refine prg_no ?_
        rintro σ H Q ⟨S, δ, fp, lo, n, δ', E, h, q⟩
        cases b <;> first | cases hs | skip
        rw [hst] at h
        cases h
      · have hs : isStar b = false := by simpa using hs
        refine prg_mono (prg_1 g1 g3 (h b) (each_plain [] _ hs)) ?_
        rintro σ H Q ⟨S, δ, fp, lo, n, δ', E, h, q⟩
        dsimp only at h
        split at h
        · rename_i j δ1 h1
          obtain ⟨hr, e⟩ := ifB h
          cases e
          refine ⟨S, δ, fp, _, _, E, h1, fun S1 H1 fp1 x f p1 x1 => ⟨j, int_val x1, q S1 H1 fp1 j p1 (by simp) ⟨by decide, by decide, rngOk_iff.mp hr⟩⟩⟩
        · cases h
    · rename_i a b
      by_cases hs : isStar a = true ∨ isStar b = true
      · refine prg_no ?_
        rintro σ H Q ⟨S, δ, fp, lo, n, δ', E, h, q⟩
        rcases hs with hs | hs
        · cases a <;> first | cases hs | skip
          rw [hst] at h
          cases h
        · cases b <;> first | cases hs | skip
          rw [hst] at h
          dsimp only at h
          split at h <;> cases h
      · have ha : isStar a = false := by
          cases q : isStar a with
          | true => exact absurd (.inl q) hs
          | false => rfl
        have hb : isStar b = false := by
          cases q : isStar b with
          | true => exact absurd (.inr q) hs
          | false => rfl
        refine prg_mono (prg_2 g1 g3 (h a) (h b) (each_plain _ _ ha) (each_plain [] _ hb) (any_plain pos _ [b] (by simp [hb]))) ?_
        rintro σ H Q ⟨S, δ, fp, lo, n, δ', E, h, q⟩
        dsimp only at h
        split at h
        · rename_i i δ1 h1
          split at h
          · rename_i j δ2 h2
            obtain ⟨hr, e⟩ := ifB h
            cases e
            rw [Bool.and_eq_true] at hr
            refine ⟨S, δ, fp, _, δ1, E, h1, fun S1 H1 fp1 x f p1 x1 => ⟨S1, δ1, fp1, _, _, p1.env, h2, fun S2 H2 fp2 y g p2 y2 => ?_⟩⟩
            have b1 := rngOk_iff.mp hr.1
            have b2 := rngOk_iff.mp hr.2
            exact ⟨_, j, int_val x1, int_val y2, q S2 H2 fp2 j (Pst.trans E p1 p2) rfl ⟨b1.1, b1.2, b2.1, b2.2⟩⟩
          · cases h
        · cases h
    · exact prg_no none_no
  · exact prg_no none_no
theorem lr_ok {e : Expr} {rs : List Expr} {v : Expr → Ev D} {x : Str} {p pos : Pos} (O : XOk Γ G X) (h : ∀ e, PE X e (tE Γ (v e))) (hst : ∀ a p, v (.Starred a p) = fun _ => none) (hr : rngE e = some rs) (hx : x = "list" ∨ x = "tuple") (hf : G.isFree x = true) :
    PE X (.Call (.Name x p) [e] [] pos) (tE Γ (lrC (srcC G v e) (if x = "list" then .lst .own else .tup))) := by
  obtain ⟨g1, g2, g3⟩ := free_ok O hf
  have pr := rgD_ok O h hst hr
  have hs : isStar e = false := by
    obtain ⟨_, _, rfl⟩ := rngE_eq hr
    rfl
  have key : ∀ (f : List D → D) σ H Q, tE Γ (lrC (srcC G v e) f) σ H Q → tRgD Γ (srcC G v e) σ H fun lo hi H1 => RgOk lo hi ∧ ∃ S1, (∀ a, S1 a → H1 a ≠ none) ∧ Cont Γ S1 H1 (f ((List.range (hi - lo).toNat).map fun i => .int (lo + (i : Nat)))) Q := by
    rintro f σ H Q ⟨S, δ, fp, d, δ', E, h, q⟩
    unfold lrC at h
    split at h
    · rename_i lo k δ1 h1
      obtain ⟨hk, e⟩ := ifS h
      obtain ⟨rfl, rfl⟩ : d = f (Src.rng lo k).items ∧ δ' = δ1 := ⟨congrArg Prod.fst e, congrArg Prod.snd e⟩
      refine ⟨S, δ, fp, lo, k, _, E, h1, fun S1 H1 fp1 hi p1 e1 b => ?_⟩
      refine ⟨⟨b.1, b.2.1, b.2.2.1, b.2.2.2, by rw [← e1]; exact hk⟩, S1, p1.env.lv, ?_⟩
      rw [← e1]
      exact Cont.of E p1 q
    · cases h
  rcases hx with rfl | rfl
  · refine PE.mono (pe_listRg O.calm g1 g3 pr (each_plain [] _ hs)) fun σ H Q z => ?_
    rw [if_pos rfl] at z
    obtain ⟨S, δ, fp, lo, n, δ', E, h1, q⟩ := key _ σ H Q z
    refine ⟨S, δ, fp, lo, n, δ', E, h1, fun S1 H1 fp1 hi p1 e1 b => ?_⟩
    obtain ⟨ok, S2, lv, c⟩ := q S1 H1 fp1 hi p1 e1 b
    exact ⟨ok, c.lst lv (reps_int _)⟩
  · refine PE.mono (pe_tupRg O.calm g1 g3 pr (each_plain [] _ hs)) fun σ H Q z => ?_
    rw [if_neg (by decide)] at z
    obtain ⟨S, δ, fp, lo, n, δ', E, h1, q⟩ := key _ σ H Q z
    refine ⟨S, δ, fp, lo, n, δ', E, h1, fun S1 H1 fp1 hi p1 e1 b => ?_⟩
    obtain ⟨ok, S2, lv, c⟩ := q S1 H1 fp1 hi p1 e1 b
    exact ⟨ok, c.tup lv (reps_int _)⟩
end
end PyD

/-! The interpreter is right: all expressions. -/
namespace PyD
open PySem PySem.Spec PyProof.Rows L2
section
variable {Γ : Gd} {X : Cx} {S S' S1 S2 : Addr → Prop} {H H' H0 H1 H2 : Hp} {σ σ' : L2.St} {δ δ' δ1 δ2 : Env} {fp fp0 fp1 fp2 : Fp} {d : D} {Q : VK}
theorem ev_star : ∀ (n : Nat) (G : Gc) (a : Expr) (p : Pos), ev n G (.Starred a p) = fun _ => none
  | 0, _, _, _ => rfl
  | _ + 1, _, _, _ => rfl
theorem ev_set : ∀ (n : Nat) (G : Gc) (es : List Expr) (k : Nat) (p : Pos), ev n G (.Set es k p) = fun _ => none
  | 0, _, _, _, _ => rfl
  | _ + 1, _, _, _, _ => rfl
theorem con_ok {c : Const} {k : _} {p : Pos} : PE X (.Constant c k p) (tE Γ (Ev.opt (conD c))) := by
  have key : ∀ (v : V) (d : D), conD c = some d → (∀ S H, Rep Γ S H d v []) → ∀ σ H Q, tE Γ (Ev.opt (conD c)) σ H Q → Q v H := by
    rintro v d hd r σ H Q ⟨S, δ, fp, d', δ', E, h, q⟩
    unfold Ev.opt at h
    rw [hd] at h
    obtain ⟨rfl, rfl⟩ := pinj (show some (d, δ) = some (d', δ') from h)
    exact q S H fp v [] (Pst.refl E) (Vp.flat (r S H))
  cases c with
  | int i => exact PE.mono pe_int fun σ H Q z => key (.int i) _ rfl (fun _ _ => Rep.int) σ H Q z
  | str i => exact PE.mono pe_str fun σ H Q z => key (.str i) _ rfl (fun _ _ => Rep.str) σ H Q z
  | bool i => exact PE.mono pe_bl fun σ H Q z => key (.bl i) _ rfl (fun _ _ => Rep.bl) σ H Q z
  | none => exact PE.mono pe_non fun σ H Q z => key .non _ rfl (fun _ _ => Rep.non) σ H Q z
  | _ => exact PE.mono (PE.no Γ) fun σ H Q ⟨S, δ, fp, d', δ', E, h, q⟩ => by cases h
theorem as_ok : ∀ σ H Q, tB Γ (asT m) σ H Q → tTest (tE Γ m) σ H Q := by
  rintro σ H Q ⟨S, δ, fp, b, δ', E, h, q⟩
  unfold asT at h
  split at h
  · rename_i k δ1 h1
    obtain ⟨rfl, rfl⟩ := pinj h
    exact ⟨S, δ, fp, _, _, E, h1, fun S1 H1 fp1 x f p1 x1 => ⟨_, bl_val x1, q S1 H1 fp1 p1⟩⟩
  · cases h
theorem ite_tok {α : Type} {t u w : Ev Bool} : ∀ σ H Q, tB Γ (iteC t u w) σ H Q → tB Γ t σ H fun c H1 => if c = true then tB Γ u σ H1 Q else tB Γ w σ H1 Q := by
  rintro σ H Q ⟨S, δ, fp, b, δ', E, h, q⟩
  unfold iteC at h
  split at h
  · rename_i δ1 h1
    exact ⟨S, δ, fp, true, δ1, E, h1, fun S1 H1 fp1 p1 => iteT ⟨S1, δ1, fp1, b, δ', p1.env, h, fun S2 H2 fp2 p2 => q S2 H2 fp2 (Pst.trans E p1 p2)⟩⟩
  · rename_i δ1 h1
    exact ⟨S, δ, fp, false, δ1, E, h1, fun S1 H1 fp1 p1 => iteF ⟨S1, δ1, fp1, b, δ', p1.env, h, fun S2 H2 fp2 p2 => q S2 H2 fp2 (Pst.trans E p1 p2)⟩⟩
  · cases h
theorem ret_tok {b : Bool} : ∀ σ H Q, tB Γ (Ev.ret b) σ H Q → Q b H := by
  rintro σ H Q ⟨S, δ, fp, b', δ', E, h, q⟩
  obtain ⟨rfl, rfl⟩ := pinj (show some (b, δ) = some (b', δ') from h)
  exact q S H fp (Pst.refl E)
theorem PW.mono {e : Expr} {t t' : TT} (h : PW X e t) (m : ∀ σ H Q, t' σ H Q → t σ H Q) : PW X e t' := ⟨fun wh pins s σ H Q I z => h.run wh pins s σ H Q I (m σ H Q z)⟩
theorem PW.no {e : Expr} (Γ : Gd) : PW X e (tB Γ fun _ => none) := ⟨fun _ _ _ _ _ _ _ ⟨_, _, _, _, _, _, e, _⟩ => by cases e⟩
theorem plain_ix {i : Expr} (h : plainIx i = true) : PlainIx i := by
  cases i with
  | Slice _ _ _ _ => cases h
  | _ => exact fun _ _ => rfl
/-- what is claimed at n -/
structure OkN (Γ : Gd) (n : Nat) : Prop where
  e : ∀ {G : Gc} {X : Cx}, XOk Γ G X → ∀ a, PE X a (tE Γ (ev n G a))
  t : ∀ {G : Gc} {X : Cx}, XOk Γ G X → ∀ a, PT X a (tB Γ (tst n G a))
  w : ∀ {G : Gc} {X : Cx}, XOk Γ G X → ∀ op es p, PW X (.BoolOp op es p) (tB Γ (tst n G (.BoolOp op es p)))
theorem ev_succ {n : Nat} (I : OkN Γ n) {G : Gc} (O : XOk Γ G X) (a : Expr) : PE X a (tE Γ (ev (n + 1) G a)) := by
  have he := I.e O
  have ht := I.t O
  have hst := ev_star n G
  cases a with
  | Constant c k p => exact con_ok
  | Name x p => exact name_ok O
  | BinOp a op b p =>
    obtain ⟨r, hr, sr⟩ := bin_ok (Γ := Γ) O.K op
    exact PE.mono (pe_op hr (opnd_ok O (he a)) (opnd_ok O (he b))) (op2_ok sr)
  | UnaryOp op a p =>
    cases op with
    | USub => exact PE.mono (pe_un un_neg (opnd_ok O (he a))) (op1_ok neg_ok)
    | Not => exact not_okE (he a)
    | _ => exact PE.no Γ
  | Compare a ops bs p =>
    rcases ops with _ | ⟨op, _ | ⟨op2, _ | ⟨_, _⟩⟩⟩ <;> rcases bs with _ | ⟨b, _ | ⟨c, _ | ⟨_, _⟩⟩⟩ <;> first | exact PE.no Γ | skip
    · show PE X _ (tE Γ (cmpC G (ev n G) a op b))
      unfold cmpC
      split
      · exact PE.no Γ
      · rename_i hb
        obtain ⟨r, hr, sr⟩ := cmp_ok (Γ := Γ) O.K O.units op
        exact PE.mono (pe_cmpR hr (opnd_ok O (he a)) (opnd_ok O (he b)) (by simpa using hb)) (op2_ok sr)
    · show PE X _ (tE Γ (chnC (ev n G) a op op2 b c))
      unfold chnC
      split
      · exact PE.no Γ
      · rename_i hb
        exact chain_ok O.K O.units (he a) (he b) (he c) (by simpa using hb)
  | BoolOp op es p =>
    rcases es with _ | ⟨a, _ | ⟨b, r⟩⟩
    · cases op <;> exact PE.no Γ
    · cases op <;> exact pe_one (he a)
    · cases op with
      | And => exact and_ok (he a) (he _)
      | Or => exact or_ok (he a) (he _)
  | IfExp c a b p => exact ifx_ok (ht c) (he a) (he b)
  | Tuple es k p => exact tup_ok O he hst
  | List es p => exact lst_ok O he hst
  | Subscript a i p =>
    by_cases hsl : ∃ lo hi p2, i = .Slice lo hi none p2
    · obtain ⟨lo, hi, p2, rfl⟩ := hsl
      exact sli_ok O.K (opnd_ok O (he a)) (opt_ok he lo) (opt_ok he hi)
    · have e : ev (n + 1) G (.Subscript a i p) = (if isRev i then op1 (opnd G a true (ev n G a)) revD
          else if plainIx i then op2 (opnd G a true (ev n G a)) (opnd G i true (ev n G i)) ixD
          else fun _ => none) := by
        cases i <;> first | rfl | skip
        rename_i lo hi st p2
        cases st with
        | none => exact absurd ⟨lo, hi, p2, rfl⟩ hsl
        | some st => rfl
      rw [e]
      split
      · rename_i hr
        unfold isRev at hr
        split at hr
        · exact rev_ok O.K (opnd_ok O (he a))
        · cases hr
      · split
        · rename_i hp
          exact PE.mono (pe_ix ix_seq (opnd_ok O (he a)) (opnd_ok O (he i)) (plain_ix hp)) (op2_ok (ix_ok O.K))
        · exact PE.no Γ
  | Call f es ks p =>
    cases f <;> first | exact PE.no Γ | skip
    rename_i f np
    cases ks with
    | cons _ _ => exact PE.no Γ
    | nil =>
      show PE X _ (tE Γ (if f = "isinstance" then _ else _))
      split
      · rename_i e
        subst e
        exact isi_ok O he hst
      · split
        · rename_i hg
          split
          · rename_i ms hm
            unfold userE
            split
            · rename_i hl
              exact call_ok O he hst hg hm hl
            · exact PE.no Γ
          · split
            · rename_i hf
              unfold bltE
              split
              · rename_i hc
                rw [Bool.and_eq_true, Bool.or_eq_true, decide_eq_true_eq, decide_eq_true_eq] at hc
                split
                · rename_i e
                  obtain ⟨rs, hr⟩ := Option.isSome_iff_exists.mp (show (rngE e).isSome = true from hc.2)
                  exact lr_ok O he hst hr hc.1 hf
                · exact PE.no Γ
              · split
                · rename_i hc
                  rw [Bool.and_eq_true, Bool.not_eq_true'] at hc
                  obtain ⟨c, r, h1, h2, h3, h4, h5⟩ := blt_all (Γ := Γ) O f hc.1
                  obtain ⟨g1, g2, g3⟩ := free_ok O hf
                  exact blt_ok O he hst (by intro z; rw [z] at hc; exact absurd hc.2 (by simp)) h1 h2 g1 g2 g3 h3 h4 h5
                · exact PE.no Γ
            · exact PE.no Γ
        · exact PE.no Γ
  | ListComp elt gs scope p =>
    rcases gs with _ | ⟨⟨tg, iter, ifs, (_ | k) | k⟩, _ | ⟨_, _⟩⟩ <;> first | exact PE.no Γ | skip
    · show PE X _ (tE Γ (if blkC G.N G.sc scope (ownOf G.N scope.names) = true then _ else _))
      split
      · rename_i hb
        have hk := (blkOk_by hb).kind
        refine comp_ok O hb (src_ok O he hst) (fun s H C cl fq => fill_ok (blk_ok O hk) n tg) (fun s H C cl fq => ?_) (fun s H C cl fq => I.e (blk_ok O hk) elt) fun δ r h x => folded (ev_set n G) h
        rcases ifs with _ | ⟨c, _ | ⟨_, _⟩⟩
        · exact ⟨fun pins s σ H Q I z => pts_nil.run pins s σ H Q I (ret_tok σ H Q z)⟩
        · exact pts_one (I.t (blk_ok O hk) c)
        · exact ⟨fun _ _ _ _ _ _ ⟨_, _, _, _, _, _, e, _⟩ => by cases e⟩
      · exact PE.no Γ
  | _ => exact PE.no Γ
theorem tst_bool {n : Nat} (I : OkN Γ n) {G : Gc} (O : XOk Γ G X) (op : BoolOp) (es : List Expr) (p : Pos) : PW X (.BoolOp op es p) (tB Γ (tst (n + 1) G (.BoolOp op es p))) := by
  have ht := I.t O
  rcases es with _ | ⟨a, _ | ⟨b, r⟩⟩
  · cases op <;> exact PW.no Γ
  · cases op
    · exact pw_and1 (ht a)
    · exact pw_or1 (ht a)
  · cases op with
    | And => refine PW.mono (pw_and (ht a) (I.w O _ _ _)) (fun σ H Q z => by
        obtain ⟨S, δ, fp, b, δ', E, h, q⟩ := ite_tok (α := Unit) σ H Q z
        refine ⟨S, δ, fp, b, δ', E, h, fun S1 H1 fp1 p1 => ?_⟩
        have := q S1 H1 fp1 p1
        cases b with
        | true => exact iteT (by rw [if_pos rfl] at this; exact this)
        | false => exact iteF (by rw [if_neg (by decide)] at this; exact ret_tok _ _ _ this))
    | Or => refine PW.mono (pw_or (ht a) (I.w O _ _ _)) (fun σ H Q z => by
        obtain ⟨S, δ, fp, b, δ', E, h, q⟩ := ite_tok (α := Unit) σ H Q z
        refine ⟨S, δ, fp, b, δ', E, h, fun S1 H1 fp1 p1 => ?_⟩
        have := q S1 H1 fp1 p1
        cases b with
        | true => exact iteT (by rw [if_pos rfl] at this; exact ret_tok _ _ _ this)
        | false => exact iteF (by rw [if_neg (by decide)] at this; exact this))
theorem tst_succ {n : Nat} (I : OkN Γ n) {G : Gc} (O : XOk Γ G X) (a : Expr) : PT X a (tB Γ (tst (n + 1) G a)) := by
  have he := I.e O
  have ht := I.t O
  have pv : ∀ {a : Expr}, PE X a (tE Γ (ev n G a)) → (∀ whole, isTrue a X.env whole = (do let v ← whole; standAt a.pos; holding [v] (truthy v))) → PT X a (tB Γ (asT (ev n G a))) := fun h e => PT.mono (pt_val h e) as_ok
  cases a with
  | BoolOp op es p => exact ⟨fun pins s σ H Q I' h => (tst_bool I O op es p).run _ pins s σ H Q I' h⟩
  | UnaryOp op a p =>
    cases op with
    | Not => exact not_okT (ht a)
    | _ => exact PT.no Γ
  | Compare a ops bs p =>
    rcases ops with _ | ⟨op, _ | ⟨op2, _ | ⟨_, _⟩⟩⟩ <;> rcases bs with _ | ⟨b, _ | ⟨c, _ | ⟨_, _⟩⟩⟩ <;> first | exact PT.no Γ | skip
    · show PT X _ (tB Γ (asT (cmpC G (ev n G) a op b)))
      unfold cmpC
      split
      · exact PT.mono (PT.no Γ) fun σ H Q ⟨S, δ, fp, b, δ', E, h, q⟩ => by cases h
      · rename_i hb
        obtain ⟨r, hr, sr⟩ := cmp_ok (Γ := Γ) O.K O.units op
        exact PT.mono (pt_cmpR hr (opnd_ok O (he a)) (opnd_ok O (he b)) (by simpa using hb)) fun σ H Q z => op2_ok sr σ H _ (as_ok σ H Q z)
    · show PT X _ (tB Γ (asT (chnC (ev n G) a op op2 b c)))
      unfold chnC
      split
      · exact PT.mono (PT.no Γ) fun σ H Q ⟨S, δ, fp, b, δ', E, h, q⟩ => by cases h
      · rename_i hb
        exact chain_okT O.K O.units (he a) (he b) (he c) (by simpa using hb)
  | Call f es ks p => exact pv (he _) fun _ => rfl
  | Name x p => exact pv (he _) fun _ => rfl
  | Subscript a i p => exact pv (he _) fun _ => rfl
  | Constant c k p => exact pv (he _) fun _ => rfl
  | Attribute a m p => exact pv (he _) fun _ => rfl
  | _ => exact PT.no Γ
theorem ok_all (Γ : Gd) : ∀ n, OkN Γ n
  | 0 => ⟨fun _ _ => PE.no Γ, fun _ _ => PT.no Γ, fun _ _ _ _ => PW.no Γ⟩
  | n + 1 => ⟨fun O => ev_succ (ok_all Γ n) O, fun O => tst_succ (ok_all Γ n) O, fun O => tst_bool (ok_all Γ n) O⟩
end
end PyD

/-! The interpreter is right: statements. -/
namespace PyD
open PySem PySem.Spec PyProof.Rows L2
section
variable {Γ : Gd} {G : Gc} {X : Cx} {S S' S1 S2 : Addr → Prop} {H H' H0 H1 H2 : Hp} {σ σ' σ1 σ2 : L2.St} {δ δ' δ1 δ2 : Env} {fp fp0 fp1 fp2 : Fp} {d : D} {Q : VK}
/-- behind a statement -/
structure Pq (Γ : Gd) (G : Gc) (S : Addr → Prop) (H : Hp) (fp : Fp) (σ : L2.St) (S' : Addr → Prop) (H' : Hp) (fp' : Fp) (σ' : L2.St) (δ' : Env) : Prop where
  p : Pst Γ S H fp S' H' σ' δ' fp'
  k : ∀ j, ¬ OwnS G j → σ'[j]? = σ[j]?
theorem Pq.refl (E : EnvOk Γ S H σ δ fp) : Pq Γ G S H fp σ S H fp σ δ := ⟨Pst.refl E, fun _ _ => rfl⟩
theorem Pq.trans (E : EnvOk Γ S H σ δ fp) (a : Pq Γ G S H fp σ S1 H1 fp1 σ1 δ1) (b : Pq Γ G S1 H1 fp1 σ1 S2 H2 fp2 σ2 δ2) : Pq Γ G S H fp σ S2 H2 fp2 σ2 δ2 := ⟨Pst.trans E a.p b.p, fun j h => (b.k j h).trans (a.k j h)⟩
theorem Pq.of (p : Pst Γ S H fp S' H' σ δ' fp1) : Pq Γ G S H fp σ S' H' fp1 σ δ' := ⟨p, fun _ _ => rfl⟩
def endS (Γ : Gd) (G : Gc) (S : Addr → Prop) (H : Hp) (fp : Fp) (σ : L2.St) (E : Ends) (δ' : Env) : Fl → Prop
  | .nx => ∀ S' H' σ' fp', Pq Γ G S H fp σ S' H' fp' σ' δ' → E.nx σ' H'
  | .bk => ∀ S' H' σ' fp', Pq Γ G S H fp σ S' H' fp' σ' δ' → E.bk σ' H'
  | .ct => ∀ S' H' σ' fp', Pq Γ G S H fp σ S' H' fp' σ' δ' → E.ct σ' H'
  | .rt d => ∀ S' H' σ' fp' v g, Pq Γ G S H fp σ S' H' fp' σ' δ' → Vp Γ S' H' d v g fp' (Wf fp) H → E.rt v H'
def tS (Γ : Gd) (G : Gc) (m : Ex) : TS := fun E σ H => ∃ (S : Addr → Prop) (δ : Env) (fp : Fp) (f : Fl) (δ' : Env), EnvOk Γ S H σ δ fp ∧ m δ = some (f, δ') ∧ endS Γ G S H fp σ E δ' f
theorem endS.back {D : Ends} {f : Fl} (E : EnvOk Γ S H σ δ fp) (a : Pq Γ G S H fp σ S1 H1 fp1 σ1 δ1) (h : endS Γ G S H fp σ D δ' f) : endS Γ G S1 H1 fp1 σ1 D δ' f := by
  cases f with
  | nx => exact fun S' H' σ' fp' q => h S' H' σ' fp' (a.trans E q)
  | bk => exact fun S' H' σ' fp' q => h S' H' σ' fp' (a.trans E q)
  | ct => exact fun S' H' σ' fp' q => h S' H' σ' fp' (a.trans E q)
  | rt d => exact fun S' H' σ' fp' v g q x => h S' H' σ' fp' v g (a.trans E q) (x.since a.p)
theorem PS.no {st : Stmt} (Γ : Gd) (G : Gc) : PS X st (tS Γ G fun _ => none) := ⟨fun _ _ _ _ _ _ ⟨_, _, _, _, _, _, e, _⟩ => by cases e⟩
theorem PSs.no {st : List Stmt} (Γ : Gd) (G : Gc) : PSs X st (tS Γ G fun _ => none) := ⟨fun _ _ _ _ _ _ ⟨_, _, _, _, _, _, e, _⟩ => by cases e⟩

/-! ### loops -/
theorem for_rd {src : Ev Src} {fill : D → Env → Option Env} {body : Ex} : ∀ D σ H, tS Γ G (fun δ => match src δ with
    | some (s, δ1) => forL fill body s.items δ1
    | none => none) D σ H → tFor (tSr Γ src) (tF Γ G fill) (tS Γ G body) D σ H := by
  rintro D σ H ⟨S, δ, fp, f, δ', E, h, e⟩
  dsimp only at h
  split at h
  case h_2 => cases h
  rename_i s δ1 h1
  refine ⟨S, δ, fp, s, δ1, E, h1, fun S1 H1 fp1 J p1 jr => ?_⟩
  have q1 : Pq Γ G S H fp σ S1 H1 fp1 σ δ1 := Pq.of p1
  refine ⟨fun i m σ3 H3 => ∃ S3 δ3 fp3, Pq Γ G S H fp σ S3 H3 fp3 σ3 δ3 ∧ JRep Γ S3 H3 s J ∧ m = s.items.length - i ∧ forL fill body (s.items.drop i) δ3 = some (f, δ'), ⟨s.items.length, S1, δ1, fp1, q1, jr, rfl, h⟩, ?_⟩
  rintro i m σ3 H3 ⟨S3, δ3, fp3, q3, j3, hm, hl⟩
  cases hdr : s.items.drop i with
  | nil =>
    left
    rw [hdr] at hl
    simp only [forL] at hl
    obtain ⟨rfl, rfl⟩ := pinj hl
    exact ⟨j3.stop (drop_nil hdr), e S3 H3 σ3 fp3 q3⟩
  | cons d ds =>
    right
    obtain ⟨hd, hdr2, hlt⟩ := drop_cons hdr
    refine ⟨j3.go hlt, fun σ7 H7 => ∃ S7 δ7 fp7, Pq Γ G S H fp σ S7 H7 fp7 σ7 δ7 ∧ JRep Γ S7 H7 s J ∧ forL fill body ds δ7 = some (f, δ'), ?_, fun x H3' y => ?_⟩
    · rintro σ7 H7 ⟨S7, δ7, fp7, a, b, c⟩
      exact ⟨s.items.length - (i + 1), by omega, S7, δ7, fp7, a, b, rfl, by rw [hdr2]; exact c⟩
    obtain ⟨rfl, rx⟩ := j3.yld hd y
    rw [hdr] at hl
    simp only [forL] at hl
    split at hl
    case h_2 => cases hl
    rename_i δ4 h4
    refine ⟨S3, δ3, fp3, d, [], δ4, fun _ => False, H3', q3.p.env, Vp.flat rx, h4, fun σ4 fp4 E4 w4 k4 l4 => ?_⟩
    have q4 : Pq Γ G S H fp σ S3 H3' fp4 σ4 δ4 := ⟨⟨E4, q3.p.stp, fun i a ha => by
      rcases w4 a ⟨i, ha⟩ with z | z
      · exact q3.p.wf z
      · cases z⟩, fun j hj => (k4 j hj).trans (q3.k j hj)⟩
    have nx : ∀ {δ5 : Env}, forL fill body ds δ5 = some (f, δ') → ∀ S7 H7 σ7 fp7, Pq Γ G S3 H3' fp4 σ4 S7 H7 fp7 σ7 δ5 → ∃ S7 δ7 fp7, Pq Γ G S H fp σ S7 H7 fp7 σ7 δ7 ∧ JRep Γ S7 H7 s J ∧ forL fill body ds δ7 = some (f, δ') :=
      fun {δ5} h5 S7 H7 σ7 fp7 q7 => ⟨S7, δ5, fp7, q4.trans E q7, j3.frame q7.p.stp fun a w => .inl (E4.wf w), h5⟩
    split at hl
    · rename_i δ5 h5
      exact ⟨S3, δ4, fp4, .nx, δ5, E4, h5, nx hl⟩
    · rename_i δ5 h5
      exact ⟨S3, δ4, fp4, .ct, δ5, E4, h5, nx hl⟩
    · rename_i δ5 h5
      obtain ⟨rfl, rfl⟩ := pinj hl
      exact ⟨S3, δ4, fp4, .bk, _, E4, h5, fun S7 H7 σ7 fp7 q7 => e S7 H7 σ7 fp7 (q4.trans E q7)⟩
    · rename_i r δ5 h5
      obtain ⟨rfl, rfl⟩ := pinj hl
      exact ⟨S3, δ4, fp4, .rt r, _, E4, h5, fun S7 H7 σ7 fp7 v g q7 x7 => e S7 H7 σ7 fp7 v g (q4.trans E q7) (x7.since q4.p)⟩
    · cases hl
theorem whi_rd {test : Ev Bool} {body : Ex} {k : Nat} : ∀ D σ H, tS Γ G (whiL test body k) D σ H → tWhile (tB Γ test) (tS Γ G body) D σ H := by
  rintro D σ H ⟨S, δ, fp, f, δ', E, h, e⟩
  refine ⟨fun m σ3 H3 => ∃ S3 δ3 fp3, Pq Γ G S H fp σ S3 H3 fp3 σ3 δ3 ∧ whiL test body m δ3 = some (f, δ'), ⟨k, S, δ, fp, Pq.refl E, h⟩, ?_⟩
  rintro m σ3 H3 ⟨S3, δ3, fp3, q3, hl⟩
  cases m with
  | zero => cases hl
  | succ m =>
    simp only [whiL] at hl
    split at hl
    · rename_i δ4 h4
      obtain ⟨rfl, rfl⟩ := pinj hl
      exact ⟨S3, δ3, fp3, false, _, q3.p.env, h4, fun S4 H4 fp4 p4 => iteF (e S4 H4 σ3 fp4 (q3.trans E (Pq.of p4)))⟩
    · rename_i δ4 h4
      refine ⟨S3, δ3, fp3, true, δ4, q3.p.env, h4, fun S4 H4 fp4 p4 => iteT ⟨fun σ7 H7 => ∃ S7 δ7 fp7, Pq Γ G S H fp σ S7 H7 fp7 σ7 δ7 ∧ whiL test body m δ7 = some (f, δ'), fun σ7 H7 z => ⟨m, Nat.lt_succ_self m, z⟩, ?_⟩⟩
      have q4 := q3.trans E (Pq.of (G := G) p4)
      split at hl
      · rename_i δ5 h5
        exact ⟨S4, δ4, fp4, .nx, δ5, p4.env, h5, fun S7 H7 σ7 fp7 q7 => ⟨S7, δ5, fp7, q4.trans E q7, hl⟩⟩
      · rename_i δ5 h5
        exact ⟨S4, δ4, fp4, .ct, δ5, p4.env, h5, fun S7 H7 σ7 fp7 q7 => ⟨S7, δ5, fp7, q4.trans E q7, hl⟩⟩
      · rename_i δ5 h5
        obtain ⟨rfl, rfl⟩ := pinj hl
        exact ⟨S4, δ4, fp4, .bk, _, p4.env, h5, fun S7 H7 σ7 fp7 q7 => e S7 H7 σ7 fp7 (q4.trans E q7)⟩
      · rename_i r δ5 h5
        obtain ⟨rfl, rfl⟩ := pinj hl
        exact ⟨S4, δ4, fp4, .rt r, _, p4.env, h5, fun S7 H7 σ7 fp7 v g q7 x7 => e S7 H7 σ7 fp7 v g (q4.trans E q7) (x7.since q4.p)⟩
      · cases hl
    · cases hl

/-! ### stores -/
/-- name = e -/
theorem asg_rd {ee : Ev D} {fill : D → Env → Option Env} : ∀ D σ H, tS Γ G (fun δ => match ee δ with
    | some (d, δ') => (fill d δ').map fun δ2 => (Fl.nx, δ2)
    | none => none) D σ H → tAsg (tE Γ ee) (tF Γ G fill) D σ H := by
  rintro D σ H ⟨S, δ, fp, f, δ', E, h, e⟩
  dsimp only at h
  split at h
  case h_2 => cases h
  rename_i d δ1 h1
  obtain ⟨δ2, h2, e2⟩ := mapS h
  obtain ⟨rfl, rfl⟩ : f = .nx ∧ δ' = δ2 := ⟨congrArg Prod.fst e2, congrArg Prod.snd e2⟩
  refine ⟨S, δ, fp, d, δ1, E, h1, fun S1 H1 fp1 x g p1 x1 => ⟨S1, δ1, fp1, d, g, _, Wf fp, H, p1.env, x1, h2, fun σ4 fp4 E4 w4 k4 l4 => ?_⟩⟩
  exact e S1 H1 σ4 fp4 ⟨⟨E4, p1.stp, fun i a ha => by
    rcases w4 a ⟨i, ha⟩ with z | z
    · exact p1.wf z
    · exact x1.new a z⟩, k4⟩
/-- an owned list is written -/
theorem Pst.write {i : Nat} {p : Addr} {l l' : List D} {xs xs' : List V} {g' : List Addr} (q : Pst Γ S H fp S1 H1 σ1 δ1 fp1) (he : δ1[i]? = some (some (.lst .own l))) (hv : σ1[i]? = some (some (.ref p)))
    (rr : ∀ g, Reps Γ S1 H1 l xs g → p :: g = fp1 i → H1 p = some (.lst xs) → Reps Γ S1 H1 l' xs' g' ∧ g'.Nodup ∧ (∀ a ∈ g', a ∈ g ∨ (¬ Wf fp1 a ∧ (Wf fp a ∨ H a = none)))) (hp : H1 p = some (.lst xs)) :
    ∃ fp2, Pst Γ S H fp S1 (upd H1 p (.lst xs')) σ1 (δ1.set i (some (.lst .own l'))) fp2 := by
  obtain ⟨v, hv', q2, x2⟩ := q.take he
  rw [hv] at hv'
  cases hv'
  have hr := x2.rep
  simp only [Rep] at hr
  obtain ⟨a, ys, g, ea, ef, hH, hS, r0⟩ := hr
  cases ea
  rw [hp] at hH
  cases hH
  obtain ⟨r1, n1, m1⟩ := rr g r0 ef.symm hp
  have nd := x2.nd
  rw [ef] at nd
  have pg : p ∉ g := (List.nodup_cons.mp nd).1
  have pw : Wf fp1 p := ⟨i, by rw [ef]; simp⟩
  have pg' : p ∉ g' := fun z => by
    rcases m1 p z with z | z
    · exact pg z
    · exact z.1 pw
  have pn : ¬ Wf (put fp1 i []) p := x2.dj p (by rw [ef]; simp)
  have st : Stp (fun a => a = p) S1 H1 S1 (upd H1 p (.lst xs')) := ⟨fun a o e n => by rw [upd_ne n]; exact e, fun _ _ z => z, fun _ z _ => z, fun a e => by
    by_cases z : a = p
    · rw [z, upd_same]; simp
    · rw [upd_ne z]; exact e⟩
  have su : ∀ a, a = p → S1 a ∨ H1 a = none := fun a e => by rw [e]; exact .inl hS
  have E2 : EnvOk Γ S1 (upd H1 p (.lst xs')) σ1 (δ1.set i none) (put fp1 i []) := q2.env.stp st su (fun a e w => pn (by rw [← e]; exact w)) fun a z => st.live a (q2.env.lv a z)
  have xv : Vp Γ S1 (upd H1 p (.lst xs')) (.lst .own l') (.ref p) (p :: g') (put fp1 i []) (Wf fp) H := by
    refine ⟨?_, List.nodup_cons.mpr ⟨pg', n1⟩, fun a ha w => ?_, fun a ha => ?_⟩
    · simp only [Rep]
      exact ⟨p, xs', g', rfl, rfl, upd_same, hS, r1.frame st su fun a ha e => pg' (by rw [← e]; exact ha)⟩
    · rcases List.mem_cons.mp ha with rfl | ha
      · exact pn w
      · rcases m1 a ha with z | z
        · exact x2.dj a (by rw [ef]; exact List.mem_cons_of_mem _ z) w
        · rcases put_wf w with w | w
          · exact z.1 w
          · cases w
    · rcases List.mem_cons.mp ha with rfl | ha
      · exact q.wf pw
      · rcases m1 a ha with z | z
        · exact q.wf ⟨i, by rw [ef]; exact List.mem_cons_of_mem _ z⟩
        · exact z.2
  have hi : i < (δ1.set i none).length := by
    rw [List.length_set]
    exact (List.getElem?_eq_some_iff.mp he).1
  have E3 := E2.back xv hi hv
  rw [List.set_set] at E3
  refine ⟨_, E3, ⟨fun a o e n => ?_, fun a e z => q.stp.back a e z, fun a z n => q.stp.stay a z n, fun a e => st.live a (q.stp.live a e)⟩, fun j a ha => ?_⟩
  · have hne : a ≠ p := fun z => by
      rcases q.wf pw with w | w
      · exact n (by rw [z]; exact w)
      · rw [z, w] at e; cases e
    rw [upd_ne hne]
    exact q.stp.keep a o e n
  · rcases put_wf ⟨j, ha⟩ with w | w
    · exact q2.wf w
    · exact xv.new a w
theorem Reps.set {v : V} {f : List Addr} (rv : Rep Γ S H d v f) : ∀ {ds : List D} {xs : List V} {g : List Addr} (j : Nat), Reps Γ S H ds xs g → g.Nodup → f.Nodup → (∀ a ∈ f, a ∉ g) →
    ∃ g', Reps Γ S H (ds.set j d) (xs.set j v) g' ∧ g'.Nodup ∧ ∀ a ∈ g', a ∈ g ∨ a ∈ f
  | [], xs, g, j, r, n, nf, ap => by
    simp only [Reps] at r
    obtain ⟨rfl, rfl⟩ := r
    exact ⟨[], Reps.nil, List.nodup_nil, fun _ z => nomatch z⟩
  | e :: ds, xs, g, 0, r, n, nf, ap => by
    simp only [Reps] at r
    obtain ⟨w, vs, f1, f2, rfl, rfl, r1, r2⟩ := r
    have n2 := List.nodup_append.mp n
    refine ⟨f ++ f2, Reps.cons rv r2, List.nodup_append.mpr ⟨nf, n2.2.1, fun a ha b hb e => ap a ha (by rw [e]; exact List.mem_append_right _ hb)⟩, fun a ha => ?_⟩
    rcases List.mem_append.mp ha with z | z
    · exact .inr z
    · exact .inl (List.mem_append_right _ z)
  | e :: ds, xs, g, j + 1, r, n, nf, ap => by
    simp only [Reps] at r
    obtain ⟨w, vs, f1, f2, rfl, rfl, r1, r2⟩ := r
    have n2 := List.nodup_append.mp n
    obtain ⟨g', a1, a2, a3⟩ := Reps.set rv j r2 n2.2.1 nf fun a ha hb => ap a ha (List.mem_append_right _ hb)
    refine ⟨f1 ++ g', Reps.cons r1 a1, List.nodup_append.mpr ⟨n2.1, a2, fun a ha b hb e => ?_⟩, fun a ha => ?_⟩
    · subst e
      rcases a3 a hb with z | z
      · exact n2.2.2 a ha a z rfl
      · exact ap a z (List.mem_append_left _ ha)
    · rcases List.mem_append.mp ha with z | z
      · exact .inl (List.mem_append_left _ z)
      · rcases a3 a z with z | z
        · exact .inl (List.mem_append_right _ z)
        · exact .inr z
end
end PyD

/-! The interpreter is right: all statements. -/
namespace PyD
open PySem PySem.Spec PyProof.Rows L2
section
variable {Γ : Gd} {G : Gc} {X : Cx} {S S' S1 S2 : Addr → Prop} {H H' H0 H1 H2 : Hp} {σ σ' σ1 σ2 : L2.St} {δ δ' δ1 δ2 : Env} {fp fp0 fp1 fp2 : Fp} {d : D} {Q : VK}
theorem nx_ok : ∀ D σ H, tS Γ G (fun δ => some (.nx, δ)) D σ H → tNext D σ H := by
  rintro D σ H ⟨S, δ, fp, f, δ', E, h, e⟩
  obtain ⟨rfl, rfl⟩ := pinj h
  exact e S H σ fp (Pq.refl E)
theorem bk_ok : ∀ D σ H, tS Γ G (fun δ => some (.bk, δ)) D σ H → tBreak D σ H := by
  rintro D σ H ⟨S, δ, fp, f, δ', E, h, e⟩
  obtain ⟨rfl, rfl⟩ := pinj h
  exact e S H σ fp (Pq.refl E)
theorem ct_ok : ∀ D σ H, tS Γ G (fun δ => some (.ct, δ)) D σ H → tCont D σ H := by
  rintro D σ H ⟨S, δ, fp, f, δ', E, h, e⟩
  obtain ⟨rfl, rfl⟩ := pinj h
  exact e S H σ fp (Pq.refl E)
theorem rtN_ok : ∀ D σ H, tS Γ G (fun δ => some (.rt .non, δ)) D σ H → tRetN D σ H := by
  rintro D σ H ⟨S, δ, fp, f, δ', E, h, e⟩
  obtain ⟨rfl, rfl⟩ := pinj h
  exact e S H σ fp .non [] (Pq.refl E) (Vp.flat Rep.non)
theorem rt_ok {m : Ev D} : ∀ D σ H, tS Γ G (fun δ => match m δ with
    | some (d, δ') => some (.rt d, δ')
    | none => none) D σ H → tRet (tE Γ m) D σ H := by
  rintro D σ H ⟨S, δ, fp, f, δ', E, h, e⟩
  dsimp only at h
  split at h
  case h_2 => cases h
  rename_i d δ1 h1
  obtain ⟨rfl, rfl⟩ := pinj h
  exact ⟨S, δ, fp, d, _, E, h1, fun S1 H1 fp1 v g p1 x1 => e S1 H1 σ fp1 v g (Pq.of p1) x1⟩
theorem ret_ok {n : Nat} {a : Expr} {p : Pos} (O : XOk Γ G X) : PS X (.Return (some a) p) (tS Γ G fun δ => match G.retE n a δ with
    | some (d, δ') => some (.rt d, δ')
    | none => none) := by
  have gen : G.retE n a = ev n G a → PS X (.Return (some a) p) (tS Γ G fun δ => match G.retE n a δ with
    | some (d, δ') => some (.rt d, δ')
    | none => none) := fun h => by
    rw [h]
    exact PS.mono (ps_ret ((ok_all Γ n).e O a)) rt_ok
  by_cases hn : ∃ x q i, a = .Name x q ∧ G.slot x = some i ∧ G.fx.contains i = false
  · obtain ⟨x, q, i, rfl, hs, hf⟩ := hn
    obtain ⟨h1, h2, h3, h4, _⟩ := slot_ok O hs
    refine PS.mono (ps_ret (pe_var h1 h2 h3 h4)) ?_
    rintro D σ H ⟨S, δ, fp, f, δ', E, h, e⟩
    have hr : G.retE n (.Name x q) δ = (match δ[i]? with
      | some (some d) => some (d, δ.set i none)
      | _ => none) := by
      unfold Gc.retE
      simp only [hs, hf]
      rfl
    dsimp only at h
    rw [hr] at h
    split at h
    case h_2 => cases h
    rename_i d δ1 h1
    obtain ⟨rfl, rfl⟩ := pinj h
    split at h1
    case h_2 => cases h1
    rename_i d0 hd
    obtain ⟨rfl, rfl⟩ := pinj h1
    obtain ⟨v, hv, E1, x1⟩ := E.take hd
    refine ⟨v, hv, e S H σ _ v _ ⟨⟨E1, .refl, fun j a ha => .inl ?_⟩, fun _ _ => rfl⟩ x1⟩
    rcases put_wf ⟨j, ha⟩ with z | z
    · exact z
    · cases z
  · refine gen ?_
    unfold Gc.retE
    funext δ
    cases a <;> try rfl
    rename_i x q
    dsimp only
    cases hs : G.slot x with
    | none => rfl
    | some i =>
      have hf : G.fx.contains i = true := by
        cases hc : G.fx.contains i with
        | true => rfl
        | false => exact absurd ⟨x, q, i, rfl, hs, hc⟩ hn
      simp only [hf]
      rfl
theorem if_ok {t : Ev Bool} {a b : Ex} : ∀ D σ H, tS Γ G (fun δ => match t δ with
    | some (true, δ') => a δ'
    | some (false, δ') => b δ'
    | none => none) D σ H → tIfS (tB Γ t) (tS Γ G a) (tS Γ G b) D σ H := by
  rintro D σ H ⟨S, δ, fp, f, δ', E, h, e⟩
  dsimp only at h
  split at h
  · rename_i δ1 h1
    exact ⟨S, δ, fp, true, δ1, E, h1, fun S1 H1 fp1 p1 => iteT ⟨S1, δ1, fp1, f, δ', p1.env, h, e.back E (Pq.of p1)⟩⟩
  · rename_i δ1 h1
    exact ⟨S, δ, fp, false, δ1, E, h1, fun S1 H1 fp1 p1 => iteF ⟨S1, δ1, fp1, f, δ', p1.env, h, e.back E (Pq.of p1)⟩⟩
  · cases h
theorem seq_ok {a b : Ex} : ∀ D σ H, tS Γ G (fun δ => match a δ with
    | some (.nx, δ') => b δ'
    | r => r) D σ H → tSeq (tS Γ G a) (tS Γ G b) D σ H := by
  rintro D σ H ⟨S, δ, fp, f, δ', E, h, e⟩
  dsimp only at h
  split at h
  · rename_i δ1 h1
    exact ⟨S, δ, fp, .nx, δ1, E, h1, fun S1 H1 σ1 fp1 q1 => ⟨S1, δ1, fp1, f, δ', q1.p.env, h, e.back E q1⟩⟩
  · rename_i hn
    refine ⟨S, δ, fp, f, δ', E, h, ?_⟩
    cases f with
    | nx => exact absurd h (hn δ')
    | bk => exact e
    | ct => exact e
    | rt d => exact e
theorem noswap {e : Expr} {o : Option Expr} {l : Nat} {env : PySem.Env} (h : noComp e = true) : swapsWith e o l env = pure false := by
  cases e <;> first | cases h; done | rfl
theorem noTup_comp {e : Expr} (h : noTup e = true) : noComp e = true := by
  cases e <;> first | cases h; done | rfl
theorem loc_ok {x : Str} {i : Nat} (h : G.loc x = some i) : G.slot x = some i ∧ locK (G.sc.names.lookup x) = true ∧ G.fx.contains i = false := by
  unfold Gc.loc at h
  split at h
  · rename_i j hs
    obtain ⟨c, rfl⟩ := ifB h
    rw [Bool.and_eq_true, Bool.not_eq_true'] at c
    exact ⟨hs, c.1, c.2⟩
  · cases h
theorem own_of {x : Str} {i : Nat} (h : G.loc x = some i) : OwnS G i := ⟨x, loc_ok h⟩
theorem set_keep {i : Nat} {v : V} (h : OwnS G i) (k : ∀ j, ¬ OwnS G j → σ'[j]? = σ[j]?) : ∀ j, ¬ OwnS G j → (σ'.set i (some v))[j]? = σ[j]? := fun j hj => by
  rw [List.getElem?_set_ne (fun e => hj (by rw [← e]; exact h)), k j hj]
/-- name op= e -/
theorem aug_ok {n : Nat} {x : Str} {np pos : Pos} {op : Operator} {a : Expr} {i : Nat} (O : XOk Γ G X) (hl : G.loc x = some i) : PS X (.AugAssign (.Name x np) op a pos) (tS Γ G (augS op i (ev n G a))) := by
  obtain ⟨hs, hk, hf⟩ := loc_ok hl
  obtain ⟨h1, _⟩ := slot_ok O hs
  have key : ∀ (F : Int → Int → Int) D σ H, (∃ S δ fp u b δ', EnvOk Γ S H σ δ fp ∧ look δ (.ref i) = some (.int u) ∧ ev n G a δ = some (.int b, δ') ∧ endS Γ G S H fp σ D (δ'.set i (some (.int (F u b)))) .nx) → tAug i (tE Γ (ev n G a)) (ipI F) D σ H := by
    rintro F D σ H ⟨S, δ, fp, u, b, δ', E, hu, hb, e⟩
    obtain ⟨v, hv, r⟩ := E.slot i _ (look_ref hu)
    refine ⟨v, hv, S, δ, fp, _, δ', E, hb, fun S1 H1 fp1 y g p1 y1 => ⟨u, b, r.int_inv, int_val y1, ?_⟩⟩
    have hi : i < δ'.length := by
      rw [← p1.env.len, E.len]
      exact (List.getElem?_eq_some_iff.mp (look_ref hu)).1
    exact e S1 H1 _ _ ⟨Pst.set p1 (d := .int (F u b)) (v := .int (F u b)) (f := []) (Vp.flat Rep.int) hi, set_keep (own_of hl) fun _ _ => rfl⟩
  cases op with
  | Add =>
    refine PS.mono (ps_aug (by rw [O.N]; exact O.nd) h1 (locK_loc O hk) ((ok_all Γ n).e O a) ip_add (O.fn x hk)) ?_
    rintro D σ H ⟨S, δ, fp, f, δ', E, h, e⟩
    unfold augS at h
    split at h
    case h_2 => cases h
    rename_i u hu
    split at h
    case h_2 => cases h
    rename_i b δ1 hb
    obtain ⟨rfl, rfl⟩ := pinj h
    exact key (fun i j => i + j) D σ H ⟨S, δ, fp, u, b, δ1, E, hu, hb, e⟩
  | Sub =>
    refine PS.mono (ps_aug (by rw [O.N]; exact O.nd) h1 (locK_loc O hk) ((ok_all Γ n).e O a) ip_sub (O.fn x hk)) ?_
    rintro D σ H ⟨S, δ, fp, f, δ', E, h, e⟩
    unfold augS at h
    split at h
    case h_2 => cases h
    rename_i u hu
    split at h
    case h_2 => cases h
    rename_i b δ1 hb
    obtain ⟨rfl, rfl⟩ := pinj h
    exact key (fun i j => i - j) D σ H ⟨S, δ, fp, u, b, δ1, E, hu, hb, e⟩
  | _ =>
    refine PS.mono (PS.no Γ G) ?_
    rintro D σ H ⟨S, δ, fp, f, δ', E, h, e⟩
    unfold augS at h
    split at h
    · split at h <;> cases h
    · cases h
theorem assign_sub {o i : Expr} {pos : Pos} {env : PySem.Env} (h : plainIx i = true) : ∀ v, assign (.Subscript o i pos) env v = (do
      let ov ← holding [v] (eval o env)
      let iv ← holding [v, ov] (eval i env)
      standAt pos
      holding [v, ov, iv] (setItem ov iv v)
      release [v, ov, iv] []) := fun v => by
  cases i <;> first | cases h; done | rfl
theorem sub_ok {n : Nat} {x : Str} {np sp pos : Pos} {i a : Expr} {j : Nat} (O : XOk Γ G X) (hp : plainIx i = true) (hn : noComp a = true) (hs : G.slot x = some j) : PS X (.Assign [.Subscript (.Name x np) i sp] a pos) (tS Γ G (subC (ev n G a) (ev n G i) j)) := by
  obtain ⟨h1, h2, h3, h4, _⟩ := slot_ok O hs
  refine PS.mono (ps_asg ((ok_all Γ n).e O a) (pg_sub (pe_var h1 h2 h3 h4) ((ok_all Γ n).e O i) set_list (assign_sub hp)) (by unfold swapsWithSole; exact noswap hn) (by cases a <;> rfl)) ?_
  rintro D σ H ⟨S, δ, fp, f, δ', E, h, e⟩
  unfold subC at h
  split at h
  case h_2 => cases h
  rename_i v δ1 hv
  split at h
  case h_2 => cases h
  rename_i d1 hd1
  split at h
  case h_2 => cases h
  rename_i k δ2 hk
  split at h
  case h_2 => cases h
  rename_i d hd
  split at h
  case h_2 => cases h
  rename_i d' hd'
  obtain ⟨rfl, rfl⟩ := pinj h
  unfold setIx at hd'
  split at hd'
  case h_2 => cases hd'
  rename_i l k
  obtain ⟨jj, hj, rfl⟩ := mapS hd'
  refine ⟨S, δ, fp, v, δ1, E, hv, fun S1 H1 fp1 y g p1 y1 => ?_⟩
  obtain ⟨o, ho, _⟩ := p1.env.slot j _ (look_ref hd1)
  refine ⟨o, ho, S1, δ1, fp1, _, δ2, p1.env, hk, fun S2 H2 fp2 z g2 p2 z2 => ?_⟩
  have y2 := y1.hold p1.env p2
  have he := look_ref hd
  obtain ⟨o', ho', ro⟩ := p2.env.slot j _ he
  rw [ho] at ho'
  cases ho'
  simp only [Rep] at ro
  obtain ⟨p, xs, gl, rfl, ef, hH, hS, rr⟩ := ro
  have nd := p2.env.nd j
  rw [ef] at nd
  have gw : ∀ a ∈ gl, Wf fp2 a := fun a ha => ⟨j, by rw [ef]; exact List.mem_cons_of_mem _ ha⟩
  obtain ⟨g', r', n', m'⟩ := Reps.set y2.rep jj rr (List.nodup_cons.mp nd).2 y2.nd fun a ha hb => y2.dj a ha (gw a hb)
  obtain ⟨fp3, p3⟩ := Pst.write (Pst.trans E p1 p2) he ho (fun g r0 e0 h0 => by
    rw [ef] at e0
    have : g = gl := (List.cons.inj e0).2
    subst this
    refine ⟨r', n', fun a ha => ?_⟩
    rcases m' a ha with z | z
    · exact .inl z
    · exact .inr ⟨y2.dj a z, y2.new a z⟩) hH
  exact ⟨p, xs, k, jj, rfl, int_val z2, hH, by rw [rr.length]; exact hj, e S2 _ σ fp3 (Pq.of p3)⟩
theorem appD {x : Str} {np ap cp pos : Pos} {a : Expr} {j n : Nat} (O : XOk Γ G X) (hs : G.slot x = some j) (hl : (ap.endLine == cp.line) = true) (hp : plainT a = true) : PS X (.Expr (.Call (.Attribute (.Name x np) "append" ap) [a] [] cp) pos) (tS Γ G (appC (ev n G a) j)) := by
  obtain ⟨h1, h2, h3, h4, _⟩ := slot_ok O hs
  have hst : isStar a = false := by cases a <;> first | rfl | cases hp
  have s1 : starEach [a] X.env = (false, eval a X.env) :: starEach [] X.env := each_plain [] _ hst
  refine PS.mono (ps_expr (pe_bm PySem.F.plainAttrs_list PySem.F.slot_list_append PySem.F.type_list_append mt_append (pe_var h1 h2 h3 h4) (pa_cons ((ok_all Γ n).e O a) pa_nil s1) rfl (by rw [s1]; rfl) hl s1 rfl)) ?_
  rintro D σ H ⟨S, δ, fp, f, δ', E, h, e⟩
  unfold appC at h
  split at h
  case h_2 => cases h
  rename_i l0 hd0
  split at h
  case h_2 => cases h
  rename_i v δ1 hv
  split at h
  case h_2 => cases h
  rename_i l hd
  obtain ⟨hlen, e0⟩ := ifS h
  obtain ⟨rfl, rfl⟩ : f = .nx ∧ δ' = δ1.set j (some (.lst .own (l ++ [v]))) := ⟨congrArg Prod.fst e0, congrArg Prod.snd e0⟩
  obtain ⟨o, ho, r0⟩ := E.slot j _ (look_ref hd0)
  have r0' := r0
  simp only [Rep] at r0'
  obtain ⟨p, xs0, gl0, rfl, ef0, hH0, hS0, rr0⟩ := r0'
  refine ⟨_, ho, .inl ⟨rfl, xs0, .inl (.inl hH0)⟩, S, δ, fp, v, δ1, E, hv, fun S1 H1 fp1 y g p1 y1 => ?_⟩
  have he := look_ref hd
  obtain ⟨o', ho', ro⟩ := p1.env.slot j _ he
  rw [ho] at ho'
  cases ho'
  simp only [Rep] at ro
  obtain ⟨p', xs, gl, e1, ef, hH, hS, rr⟩ := ro
  cases e1
  have nd := p1.env.nd j
  rw [ef] at nd
  have gw : ∀ a ∈ gl, Wf fp1 a := fun a ha => ⟨j, by rw [ef]; exact List.mem_cons_of_mem _ ha⟩
  obtain ⟨fp3, p3⟩ := Pst.write (l' := l ++ [v]) (xs' := xs ++ [y]) (g' := gl ++ g) p1 he ho (fun g0 r0 e0 h0 => by
    rw [ef] at e0
    have : g0 = gl := (List.cons.inj e0).2
    subst this
    refine ⟨Reps.append rr (Reps.one y1.rep), List.nodup_append.mpr ⟨(List.nodup_cons.mp nd).2, y1.nd, fun a ha b hb e => y1.dj b hb (gw b (by rw [← e]; exact ha))⟩, fun a ha => ?_⟩
    rcases List.mem_append.mp ha with z | z
    · exact .inl z
    · exact .inr ⟨y1.dj a z, y1.new a z⟩) hH
  exact ⟨p, xs, y, rfl, rfl, hH, by rw [rr.length, ← line_eq]; exact hlen, e S1 _ σ fp3 (Pq.of p3)⟩
end
end PyD

/-! The interpreter is right: all statements, by induction. -/
namespace PyD
open PySem PySem.Spec PyProof.Rows L2
section
variable {Γ : Gd} {G : Gc} {X : Cx} {S S' S1 S2 : Addr → Prop} {H H' H0 H1 H2 : Hp} {σ σ' σ1 σ2 : L2.St} {δ δ' δ1 δ2 : Env} {fp fp0 fp1 fp2 : Fp} {d : D} {Q : VK}
theorem fillN_eq {n : Nat} {x : Str} {p : Pos} : G.fill (n + 1) (.Name x p) = (match G.slot x with
        | some i => if (locK (G.sc.names.lookup x) && !G.fx.contains i) = true then flN i else flNo
        | none => flNo) := rfl
theorem fillN_rd {n : Nat} {x : Str} {p : Pos} {i : Nat} (hs : G.slot x = some i) : ∀ v σ H Q, tF Γ G (G.fill (n + 1) (.Name x p)) v σ H Q → gName i v σ H Q := by
  intro v σ H Q h
  rw [fillN_eq, hs] at h
  dsimp only at h
  split at h
  · rename_i c
    rw [Bool.and_eq_true, Bool.not_eq_true'] at c
    exact flN_rd hs c.1 c.2 v σ H Q h
  · obtain ⟨S, δ, fp, d, f, δ', W0, H0, E, x1, h, q⟩ := h
    cases h
theorem fillN_no {n : Nat} {x : Str} {p : Pos} (h : G.fill (n + 1) (.Name x p) d δ = some δ') : ∃ i, G.slot x = some i ∧ locK (G.sc.names.lookup x) = true := by
  rw [fillN_eq] at h
  cases hs : G.slot x with
  | none => rw [hs] at h; cases h
  | some i =>
    rw [hs] at h
    dsimp only at h
    split at h
    · rename_i c
      rw [Bool.and_eq_true] at c
      exact ⟨i, rfl, c.1⟩
    · cases h
theorem asg_ok {n m : Nat} {x : Str} {np pos : Pos} {a : Expr} (O : XOk Γ G X) (hn : noComp a = true) : PS X (.Assign [.Name x np] a pos) (tS Γ G (asgC (ev n G a) (G.fill (m + 1) (.Name x np)))) := by
  by_cases hx : ∃ i, G.slot x = some i ∧ locK (G.sc.names.lookup x) = true
  · obtain ⟨i, hs, hk⟩ := hx
    obtain ⟨h1, _⟩ := slot_ok O hs
    refine PS.mono (ps_set (by rw [O.N]; exact O.nd) h1 (locK_loc O hk) ((ok_all Γ n).e O a) (noswap hn) (O.fn x hk)) fun D σ H z => ?_
    obtain ⟨S, δ, fp, d, δ', E, h, q⟩ := asg_rd D σ H z
    exact ⟨S, δ, fp, d, δ', E, h, fun S1 H1 fp1 v f p1 x1 => fillN_rd hs v σ H1 _ (q S1 H1 fp1 v f p1 x1)⟩
  · refine PS.mono (PS.no Γ G) ?_
    rintro D σ H ⟨S, δ, fp, f, δ', E, h, e⟩
    unfold asgC at h
    split at h
    case h_2 => cases h
    obtain ⟨δ2, h2, _⟩ := mapS h
    exact absurd (fillN_no h2) hx
theorem ev_lc {n : Nat} {elt tg iter : Expr} {ifs : List Expr} {scope : Scope} {p : Pos} : ev (n + 1) G (.ListComp elt [⟨tg, iter, ifs, Int.ofNat 0⟩] scope p) = (if blkC G.N G.sc scope (ownOf G.N scope.names) then
        compC (srcC G (ev n G) iter) (Gc.fill { G with sc := scope } n tg) (testsC (tst n { G with sc := scope }) ifs) (ev n { G with sc := scope } elt) ((ownOf G.N scope.names).map (·.2))
      else fun _ => none) := rfl
theorem asgLc_ok {n m : Nat} {x : Str} {np pos : Pos} {a : Expr} (O : XOk Γ G X) (hl : lcOk G x np a = true) : PS X (.Assign [.Name x np] a pos) (tS Γ G (asgC (ev n G a) (G.fill (m + 1) (.Name x np)))) := by
  have no : (∀ δ, ev n G a δ = none) → PS X (.Assign [.Name x np] a pos) (tS Γ G (asgC (ev n G a) (G.fill (m + 1) (.Name x np)))) := fun z => by
    refine PS.mono (PS.no Γ G) ?_
    rintro D σ H ⟨S, δ, fp, f, δ', E, h, e⟩
    unfold asgC at h
    rw [z] at h
    cases h
  cases a <;> first | cases hl; done | skip
  rename_i elt gs scope p
  simp only [lcOk, Bool.and_eq_true, Bool.not_eq_true'] at hl
  obtain ⟨⟨l1, l2⟩, l3⟩ := hl
  have hloc : G.sc.names.lookup x = some .local := by
    split at l1
    · assumption
    · cases l1
  have hX : X.env.scope.names.lookup x = some .local := O.scl x _ (by decide) hloc
  cases n with
  | zero => exact no fun _ => rfl
  | succ n =>
    rcases gs with _ | ⟨⟨tg, iter, ifs, (_ | k) | k⟩, _ | ⟨_, _⟩⟩ <;> first | exact no fun _ => rfl | skip
    by_cases hb : blkC G.N G.sc scope (ownOf G.N scope.names) = true
    case neg =>
      refine no fun δ => ?_
      rw [ev_lc, if_neg hb]
    have I := ok_all Γ n
    have he := I.e O
    have hst := ev_star n G
    have hk := (blkOk_by hb).kind
    by_cases hx : ∃ i, G.slot x = some i
    case neg =>
      refine PS.mono (PS.no Γ G) ?_
      rintro D σ H ⟨S, δ, fp, f, δ', E, h, e⟩
      unfold asgC at h
      split at h
      case h_2 => cases h
      obtain ⟨δ2, h2, _⟩ := mapS h
      obtain ⟨i, hi, _⟩ := fillN_no h2
      exact absurd ⟨i, hi⟩ hx
    obtain ⟨i, hs⟩ := hx
    obtain ⟨h1, _⟩ := slot_ok O hs
    by_cases hany : ∃ δ r, srcC G (ev n G) iter δ = some r
    case neg =>
      refine no fun δ => ?_
      rw [ev_lc, if_pos hb]
      unfold compC
      split
      · rename_i s δ1 h1
        exact absurd ⟨δ, _, h1⟩ hany
      · rfl
    obtain ⟨δs, rs, hs1⟩ := hany
    have pts : ∀ (s : Shared) (H : Hp) (C : Addr) (cl : List (Str × Addr)) (fq : List Addr), PTs (X.blk s H scope (compEnvC scope cl C X.env) fq) ifs (tB Γ (testsC (tst n { G with sc := scope }) ifs)) := fun s H C cl fq => by
      rcases ifs with _ | ⟨c, _ | ⟨_, _⟩⟩
      · exact ⟨fun pins s σ H Q I z => pts_nil.run pins s σ H Q I (ret_tok σ H Q z)⟩
      · exact pts_one (I.t (blk_ok O hk) c)
      · exact ⟨fun _ _ _ _ _ _ ⟨_, _, _, _, _, _, e, _⟩ => by cases e⟩
    refine PS.mono (ps_setLc O.calm (by rw [O.N]; exact O.nd) h1 hX (sw_true O.kind hX l2 l3) (src_ok O he hst) (blkC_ok O hb) (fun s H C cl fq => fill_ok (blk_ok O hk) n tg) pts (fun s H C cl fq => I.e (blk_ok O hk) elt) (fun _ => folded (ev_set n G) hs1)) fun D σ H z => ?_
    obtain ⟨S, δ, fp, d, δ', E, h, q⟩ := asg_rd D σ H z
    refine comp_rd (Γ := Γ) (G := G) σ H _ ⟨S, δ, fp, d, δ', E, ?_, fun S1 H1 fp1 v f p1 x1 => fillN_rd hs v σ H1 _ (q S1 H1 fp1 v f p1 x1)⟩
    rw [ev_lc, if_pos hb] at h
    exact h
/-! ### two names at once -/
theorem swapped {x y : Str} {px py pt p2 : Pos} {kt k2 : Nat} {a b : Expr} {env : PySem.Env} (hk : env.scope.kind = .function) (hx : env.scope.names.lookup x = some .local) (hy : env.scope.names.lookup y = some .local) (hl : (px.line == py.line) = true) (hn : (x == y) = false)
    (ha : plainT a = true) (hb : plainT b = true) (hf : (foldedForSure 8 a && foldedForSure 8 b) = false) (hc : (constantsAlone 8 a && constantsAlone 8 b) = false) :
    swappedStores [.Tuple [.Name x px, .Name y py] kt pt] (.Tuple [a, b] k2 p2) env = pure (some [x, y]) := by
  have kx : env.kindOf x = some .local := hx
  have ky : env.kindOf y = some .local := hy
  have bk : env.blockKind = .function := by unfold PySem.Env.blockKind; rw [hk]; rfl
  have hyx : (y == x) = false := by
    rw [beq_eq_false_iff_ne] at hn ⊢
    exact fun e => hn e.symm
  have hl' : py.line = px.line := (beq_iff_eq.mp hl).symm
  have nm : ([Expr.Name x px, Expr.Name y py].filterMap fun
    | .Name id pos => if env.kindOf id == some .local && pos.line == px.line then some id else none
    | _ => none) = [x, y] := by
    simp [kx, ky, hl', List.filterMap_cons]
  have sv : ([a, b].any fun | .Starred .. => true | _ => false) = false := by
    cases a <;> first | cases ha; done | skip
    all_goals cases b <;> first | rfl | cases hb
  have ed : ([x, y].eraseDups).length = 2 := by
    simp [List.eraseDups, List.eraseDupsBy, List.eraseDupsBy.loop, hyx]
  have c3 : ¬ (([x, y].length != 2 || [x, y].eraseDups.length != [x, y].length) = true) := by
    rw [ed]
    simp
  have c4 : ¬ ([a, b].all (foldedForSure 8) = true) := by
    simp only [List.all_cons, List.all_nil, Bool.and_true]
    rw [hf]
    simp
  have c5 : ¬ ([a, b].all (constantsAlone 8) = true) := by
    simp only [List.all_cons, List.all_nil, Bool.and_true]
    rw [hc]
    simp
  unfold swappedStores
  simp only [List.length_cons, List.length_nil, bk]
  refine (if_neg (by decide)).trans ?_
  refine (if_neg fun z => Bool.noConfusion (sv.symm.trans z)).trans ?_
  refine (if_neg fun z => c3 ?_).trans ?_
  · rw [← nm]
    exact z
  · refine (if_neg c4).trans ?_
    refine (if_neg c5).trans ?_
    exact congrArg (fun l => (pure (some l) : Sem (Option (List Str)))) nm
theorem par_ok {n : Nat} {x y : Str} {px py pt p2 pos : Pos} {kt k2 : Nat} {a b : Expr} {i j : Nat} (O : XOk Γ G X) (hb : swpB G x y px py a b = true) (hi : G.loc x = some i) (hj : G.loc y = some j) (hij : i ≠ j) :
    PS X (.Assign [.Tuple [.Name x px, .Name y py] kt pt] (.Tuple [a, b] k2 p2) pos) (tS Γ G (parC (args G (ev n G) [a, b] []) i j)) := by
  simp only [swpB, Bool.and_eq_true, Bool.not_eq_true'] at hb
  obtain ⟨⟨⟨⟨⟨⟨⟨b1, b2⟩, b3⟩, b4⟩, b5⟩, b6⟩, b7⟩, b8⟩ := hb
  have lo : ∀ {x : Str}, loK (G.sc.names.lookup x) = true → X.env.scope.names.lookup x = some .local := fun {x} h => by
    unfold loK at h
    split at h
    · rename_i e; exact O.scl x _ (by decide) e
    · cases h
  obtain ⟨s1, _, _⟩ := loc_ok hi
  obtain ⟨s2, _, _⟩ := loc_ok hj
  obtain ⟨n1, _⟩ := slot_ok O s1
  obtain ⟨n2, _⟩ := slot_ok O s2
  refine PS.mono (ps_par O.calm (by rw [O.N]; exact O.nd) n1 n2 hij (lo b1) (lo b2) (args_ok O ((ok_all Γ n).e O) (ev_star n G) [a, b] []) (swapped O.kind (lo b1) (lo b2) b3 b4 b5 b6 b7 b8) rfl) ?_
  rintro D σ H ⟨S, δ, fp, f, δ', E, h, e⟩
  unfold parC at h
  split at h
  case h_2 => cases h
  rename_i u v δ2 h1
  obtain ⟨hl, e0⟩ := ifS h
  obtain ⟨rfl, rfl⟩ : f = .nx ∧ δ' = (δ2.set i (some u)).set j (some v) := ⟨congrArg Prod.fst e0, congrArg Prod.snd e0⟩
  refine ⟨S, δ, fp, _, δ2, E, h1, fun S1 H1 fp1 xs fs p1 x1 => ?_⟩
  obtain ⟨r, nd, dj, nw⟩ := x1
  obtain ⟨w1, vs1, f1, g1, rfl, rfl, r1, r2⟩ := r
  obtain ⟨w2, vs2, f2, g2, rfl, rfl, r2, r3⟩ := r2
  obtain ⟨rfl, rfl⟩ := r3
  simp only [List.flatten_cons, List.flatten_nil, List.append_nil] at nd dj nw
  obtain ⟨d1, d2, d3⟩ := List.nodup_append.mp nd
  refine ⟨w1, w2, rfl, ?_⟩
  have p2 : Pst Γ S H fp S1 H1 (σ.set i (some w1)) (δ2.set i (some u)) (put fp1 i f1) := Pst.set p1 ⟨r1, d1, fun a ha => dj a (List.mem_append_left _ ha), fun a ha => nw a (List.mem_append_left _ ha)⟩ hl.1
  have p3 : Pst Γ S H fp S1 H1 ((σ.set i (some w1)).set j (some w2)) ((δ2.set i (some u)).set j (some v)) (put (put fp1 i f1) j f2) := Pst.set p2 ⟨r2, d2, fun a ha w => by
    rcases put_wf w with z | z
    · exact dj a (List.mem_append_right _ ha) z
    · exact d3 a z a ha rfl, fun a ha => nw a (List.mem_append_right _ ha)⟩ (by rw [List.length_set]; exact hl.2)
  exact e S1 H1 _ _ ⟨p3, set_keep (own_of hj) (set_keep (own_of hi) fun _ _ => rfl)⟩
theorem cst_none {x y : Str} {px py pt p2 : Pos} {kt k2 : Nat} {a b : Expr} {env : PySem.Env} (h : cstB a b = true) : swappedStores [.Tuple [.Name x px, .Name y py] kt pt] (.Tuple [a, b] k2 p2) env = pure none := by
  simp only [cstB, Bool.and_eq_true] at h
  have c4 : [a, b].all (foldedForSure 8) = true := by
    simp only [List.all_cons, List.all_nil, Bool.and_true]
    rw [h.1.2, h.2]
    rfl
  unfold swappedStores
  dsimp only
  split
  · rfl
  · split
    · rfl
    · split
      · rfl
      · rfl
theorem unpack_none {es : List Expr} {kt : Nat} {pt : Pos} {a : Expr} {env : PySem.Env} (h : noTup a = true) : swappedStores [.Tuple es kt pt] a env = pure none := by
  cases a <;> first | cases h; done | rfl
theorem tup_asg {n m : Nat} {es : List Expr} {kt : Nat} {pt pos : Pos} {a : Expr} (O : XOk Γ G X) (hn : noComp a = true) (hw : swappedStores [.Tuple es kt pt] a X.env = pure none) :
    PS X (.Assign [.Tuple es kt pt] a pos) (tS Γ G (asgC (ev n G a) (G.fill m (.Tuple es kt pt)))) :=
  PS.mono (ps_asg ((ok_all Γ n).e O a) (fill_ok O m _) (by unfold swapsWithSole; exact noswap hn) hw) asg_rd
/-! ### all -/
structure OkS (Γ : Gd) (n : Nat) : Prop where
  s : ∀ {G : Gc} {X : Cx}, XOk Γ G X → ∀ st, PS X st (tS Γ G (ex n G st))
  b : ∀ {G : Gc} {X : Cx}, XOk Γ G X → ∀ st, PSs X st (tS Γ G (exs n G st))
theorem ex_succ {n : Nat} (I : OkS Γ n) (O : XOk Γ G X) (st : Stmt) : PS X st (tS Γ G (ex (n + 1) G st)) := by
  have hp : PassesOwn (model X.prog X.w) X.A X.env X.xe := by
    rw [O.xe]
    exact PassesOwn.never
  have J := ok_all Γ n
  cases st with
  | Pass p => exact PS.mono ps_pass nx_ok
  | Break p => exact PS.mono ps_break bk_ok
  | Continue p => exact PS.mono ps_continue ct_ok
  | Return e p =>
    cases e with
    | none => exact PS.mono ps_retN rtN_ok
    | some a => exact ret_ok O
  | If c a b p => exact PS.mono (ps_if (J.t O c) (I.b O a) (I.b O b)) if_ok
  | For tg iter body orelse p =>
    cases orelse with
    | cons _ _ => exact PS.no Γ G
    | nil =>
      by_cases hany : ∃ δ r, srcC G (ev n G) iter δ = some r
      · obtain ⟨δs, rs, hs1⟩ := hany
        exact PS.mono (ps_for hp O.calm (src_ok O (J.e O) (ev_star n G)) (fill_ok O n tg) (I.b O body) (fun _ => folded (ev_set n G) hs1)) for_rd
      · refine PS.mono (PS.no Γ G) ?_
        rintro D σ H ⟨S, δ, fp, f, δ', E, h, e⟩
        simp only [ex] at h
        unfold forS at h
        split at h
        · rename_i s δ1 h1
          exact absurd ⟨δ, _, h1⟩ hany
        · cases h
  | While c body orelse p =>
    cases orelse with
    | cons _ _ => exact PS.no Γ G
    | nil => exact PS.mono (ps_while hp (J.t O c) (I.b O body)) whi_rd
  | Assign tgs a p =>
    rcases tgs with _ | ⟨tg, _ | ⟨_, _⟩⟩
    · exact PS.no Γ G
    · cases tg with
      | Name x np =>
        show PS X _ (tS Γ G (if (noComp a || lcOk G x np a) = true then asgC (ev n G a) (G.fill 1 (.Name x np)) else fun _ => none))
        split
        · rename_i hc
          by_cases hn : noComp a = true
          · exact asg_ok O hn
          · rw [Bool.or_eq_true] at hc
            exact asgLc_ok O (hc.resolve_left hn)
        · exact PS.no Γ G
      | Subscript o i sp =>
        cases o <;> first | exact PS.no Γ G | skip
        rename_i x np
        show PS X _ (tS Γ G (if (plainIx i && noComp a) = true then (match G.slot x with
            | some j => subC (ev n G a) (ev n G i) j
            | none => fun _ => none) else fun _ => none))
        split
        · rename_i hc
          rw [Bool.and_eq_true] at hc
          split
          · rename_i j hs
            exact sub_ok O hc.1 hc.2 hs
          · exact PS.no Γ G
        · exact PS.no Γ G
      | Tuple es k q =>
        show PS X _ (tS Γ G (tupC G (ev n G) (G.fill n) es k q a))
        unfold tupC
        split
        · split
          · rename_i hb
            split
            · rename_i i j hi hj
              split
              · rename_i hij
                exact par_ok O hb hi hj hij
              · exact PS.no Γ G
            · exact PS.no Γ G
          · split
            · rename_i hc
              exact tup_asg O rfl (cst_none hc)
            · exact PS.no Γ G
        · split
          · rename_i hn
            exact tup_asg O (noTup_comp hn) (unpack_none hn)
          · exact PS.no Γ G
      | _ => exact PS.no Γ G
    · cases tg <;> first | exact PS.no Γ G | (rename_i o _ _; cases o <;> exact PS.no Γ G)
  | AugAssign tg op a p =>
    cases tg <;> first | exact PS.no Γ G | skip
    rename_i x np
    show PS X _ (tS Γ G (match G.loc x with
      | some i => augS op i (ev n G a)
      | none => noS))
    split
    · rename_i i hl
      exact aug_ok O hl
    · exact PS.no Γ G
  | Expr e p =>
    cases e <;> first | exact PS.no Γ G | skip
    rename_i f es ks cp
    cases f <;> first | exact PS.no Γ G | skip
    rename_i o m ap
    cases o <;> first | exact PS.no Γ G | skip
    rename_i x np
    rcases es with _ | ⟨a, _ | ⟨_, _⟩⟩ <;> rcases ks with _ | ⟨_, _⟩ <;> first | exact PS.no Γ G | skip
    show PS X _ (tS Γ G (if m = "append" ∧ (ap.endLine == cp.line) = true ∧ plainT a = true then (match G.slot x with
      | some j => appC (ev n G a) j
      | none => fun _ => none) else fun _ => none))
    split
    · rename_i hc
      obtain ⟨rfl, c2, c3⟩ := hc
      split
      · rename_i j hs
        exact appD O hs c2 c3
      · exact PS.no Γ G
    · exact PS.no Γ G
  | _ => exact PS.no Γ G
theorem exs_succ {n : Nat} (I : OkS Γ n) (O : XOk Γ G X) (st : List Stmt) : PSs X st (tS Γ G (exs (n + 1) G st)) := by
  cases st with
  | nil => exact PSs.mono pss_nil nx_ok
  | cons s ss => exact PSs.mono (pss_cons (I.s O s) (I.b O ss)) seq_ok
theorem oks_all (Γ : Gd) : ∀ n, OkS Γ n
  | 0 => ⟨fun _ _ => PS.no Γ _, fun _ _ => PSs.no Γ _⟩
  | n + 1 => ⟨fun O => ex_succ (oks_all Γ n) O, fun O => exs_succ (oks_all Γ n) O⟩
end
end PyD

/-! The interpreter is right: defs. -/
namespace PyD
open PySem PySem.Spec PyProof.Rows L2
section
variable {Γ : Gd} {G : Gc} {X : Cx} {S S' S1 S2 : Addr → Prop} {H H' H0 H1 H2 : Hp} {σ σ' σ1 σ2 : L2.St} {δ δ' δ1 δ2 : Env} {fp fp0 fp1 fp2 : Fp} {d : D} {Q : VK}
variable {P : Program} {w : World} {K : PySem.W.Frag} {mg : Str → Option Value} {base : Heap}
theorem EnvOk.pad (E : EnvOk Γ S H σ δ fp) (n : Nat) : EnvOk Γ S H (σ ++ List.replicate n none) (δ ++ List.replicate n none) fp := by
  refine ⟨by simp [E.len], fun i d e => ?_, E.nd, E.dj, E.su, E.lv⟩
  by_cases hi : i < δ.length
  · rw [List.getElem?_append_left hi] at e
    rw [List.getElem?_append_left (by rw [E.len]; exact hi)]
    exact E.slot i d e
  · rw [List.getElem?_append_right (by omega), List.getElem?_replicate] at e
    split at e <;> cases e
theorem outs_get {df : Df} {j : Nat} (h : (outsOf df δ)[j]? = some (some d)) : j < df.ps ∧ df.fx.contains j = true ∧ δ[j]? = some (some d) := by
  unfold outsOf at h
  rw [List.getElem?_map] at h
  obtain ⟨i, hi, e⟩ := mapS h
  obtain ⟨h1, h2⟩ := List.getElem?_eq_some_iff.mp hi
  rw [List.length_range] at h1
  rw [List.getElem_range] at h2
  subst h2
  split at e
  · rename_i hc
    refine ⟨h1, hc, ?_⟩
    cases q : δ[j]? with
    | none => rw [q] at e; cases e
    | some o => rw [q] at e; cases e; rfl
  · cases e
/-- what a module tells of a def -/
structure DefOk (K : PySem.W.Frag) (mg : Str → Option Value) (f : Str) (df : Df) (fa : Addr) (fd : FuncData) (ps : List Str) : Prop where
  fn : ∃ qual params, FunD K f qual params df.body df.sc [] [] fa fd
  sc : FnScope df.N ps df.sc
  len : ps.length = df.ps
  bd : Binds K fd ps []
  mg : mg f = some (.ref fa)
  kp : PySem.W.keepIn K (.ref fa) = true
structure ModOk (Γ : Gd) (T : Tb) (K : PySem.W.Frag) (mg : Str → Option Value) : Prop where
  kk : K = Γ.K
  con : ∀ x d, T.con x = some d → ∃ v u, mg x = some u ∧ RelV v u ∧ ∀ S H, Rep Γ S H d v []
  free : ∀ x, T.free.contains x = true → mg x = none
  defs : ∀ f df, T.defs.lookup f = some df → ∃ fa fd ps, DefOk K mg f df fa fd ps
theorem fn_all {T : Tb} (M : ModOk Γ T K mg) : ∀ (k : Nat) (f : Str) (df : Df) (fa : Addr) (fd : FuncData) (ps : List Str), T.defs.lookup f = some df → DefOk K mg f df fa fd ps →
    FnOk P w K mg base CX0 (k + 1) fa fd ps (spD Γ (callD T k) f)
  | 0, f, df, fa, fd, ps, hf, Do => by
    obtain ⟨qual, params, F⟩ := Do.fn
    refine F.ok Do.sc (fun vs H Q E h => ?_) (fun cdv A outer s H vs Q E hr h => ?_)
    · obtain ⟨_, _, _, _, _, _, e, _⟩ := h
      cases e
    · obtain ⟨_, _, _, _, _, _, e, _⟩ := h
      cases e
  | k + 1, f, df, fa, fd, ps, hf, Do => by
    have ih := fn_all M k
    obtain ⟨qual, params, F⟩ := Do.fn
    have run : ∀ {as : List D} {d : D} {os : List (Option D)}, callD T (k + 1) f as = some (d, os) → runD T df (callD T k) as = some (d, os) := fun {as d os} h => by
      simp only [callD, hf] at h
      exact h
    refine F.ok Do.sc (fun vs H Q E h => ?_) (fun cdv A outer s H vs Q E hr h => ?_)
    · obtain ⟨S, as, fp, d, os, E, e, _, _⟩ := h
      have e := run e
      unfold runD at e
      split at e
      · rename_i hl
        have := E.len
        rw [List.length_map, List.length_map] at this
        rw [this, hl, Do.len]
      · cases e
    · obtain ⟨S, as, fp, d, os, EE, e, hlen, q⟩ := h
      have e := run e
      have hvl : vs.length = as.length := by
        have := EE.len
        rwa [List.length_map, List.length_map] at this
      have O : XOk Γ (T.gc df (callD T k)) (cxOf CX0 P w K mg base df.N qual df.sc fa cdv A outer s H E).nox :=
        { K := M.kk, N := rfl, nd := Do.sc.nd, calm := rfl, kind := Do.sc.kind, scl := fun x k _ h => h, scf := fun x h => .inl h, xe := rfl, fn := fun _ _ => .inl rfl, con := M.con, free := M.free,
          units := by have := hr.un; show A.units + 3 + 64 < cLine; have : A.units + 3 + 16 * (k + 1) + 200 < cLine := this; omega,
          call := fun g ms hg => by
            obtain ⟨dg, hdg, rfl⟩ := mapS (show (T.defs.lookup g).map modeOf = some ms from hg)
            obtain ⟨fb, fe, qs, D2⟩ := M.defs g dg hdg
            refine ⟨k + 1, fb, fe, qs, ⟨ih g dg fb fe qs hdg D2, hr, D2.mg, D2.kp, D2.bd, ?_⟩⟩
            unfold modeOf
            rw [List.length_map, List.length_range, D2.len] }
      refine ⟨_, PSs.nox ((oks_all Γ T.deep).b O df.body), ?_⟩
      unfold runD at e
      split at e
      case isFalse => cases e
      rename_i hl
      have E0 : EnvOk Γ S H (start df.N vs) (as.map some ++ List.replicate (df.N.length - as.length) none) fp := by
        unfold L2.start
        rw [hvl]
        exact EE.pad _
      have fin : ∀ {δ' : Env} {S' : Addr → Prop} {H' : Hp} {σ' : L2.St} {fp' : Fp} {d : D} {v : V} {g : List Addr}, Pq Γ (T.gc df (callD T k)) S H fp (start df.N vs) S' H' fp' σ' δ' → Vp Γ S' H' d v g fp' (Wf fp) H →
          Pst Γ S H fp S' H' (vs.map some) (outsOf df δ') (fun j => if j < df.ps ∧ df.fx.contains j = true then fp' j else []) ∧ Vp Γ S' H' d v g (fun j => if j < df.ps ∧ df.fx.contains j = true then fp' j else []) (Wf fp) H := by
        intro δ' S' H' σ' fp' d v g a x
        have sub : ∀ {j : Nat} {b : Addr}, b ∈ (if j < df.ps ∧ df.fx.contains j = true then fp' j else []) → b ∈ fp' j := fun {j b} h => by
          split at h
          · exact h
          · cases h
        refine ⟨⟨⟨?_, fun j d e => ?_, fun j => ?_, fun i j b h1 h2 => a.p.env.dj i j b (sub h1) (sub h2), fun j b h => a.p.env.su j b (sub h), a.p.env.lv⟩, a.p.stp, fun j b h => a.p.new j b (sub h)⟩, ⟨x.rep, x.nd, fun b hb ⟨j, hj⟩ => x.dj b hb ⟨j, sub hj⟩, x.new⟩⟩
        · unfold outsOf
          rw [List.length_map, List.length_map, List.length_range, hvl, hl]
        · obtain ⟨h1, h2, h3⟩ := outs_get e
          obtain ⟨u, h4, r⟩ := a.p.env.slot j d h3
          have h5 : σ'[j]? = (start df.N vs)[j]? := a.k j fun ⟨x, _, _, o3⟩ => by
            have : df.fx.contains j = false := o3
            rw [h2] at this
            cases this
          rw [h4] at h5
          unfold L2.start at h5
          rw [List.getElem?_append_left (by rw [List.length_map, hvl, hl]; exact h1)] at h5
          refine ⟨u, h5.symm, ?_⟩
          rw [if_pos ⟨h1, h2⟩]
          exact r
        · split
          · exact a.p.env.nd j
          · exact List.nodup_nil
      split at e
      · rename_i d0 δ' he
        cases e
        refine ⟨S, _, fp, .rt d, δ', E0, he, fun S' H' σ' fp' v g a x => ?_⟩
        obtain ⟨p1, x1⟩ := fin a x
        exact q S' H' _ v g p1 x1
      · rename_i δ' he
        cases e
        refine ⟨S, _, fp, .nx, δ', E0, he, fun S' H' σ' fp' a => ?_⟩
        obtain ⟨p1, x1⟩ := fin (d := .non) (v := .non) (g := []) a (Vp.flat Rep.non)
        exact q S' H' _ .non [] p1 x1
      · cases e
end
end PyD

/-! The interpreter is right: a module's defs and constants, the law's call. -/
namespace PyD
open PySem PySem.Spec PyProof.Rows L2
/-- a def of the text: its name, where it stands, its names by slot, its parameters, the parameters that it writes -/
structure LD where
  nm : Str
  st : Stmt
  N : List Str
  ps : List Str
  fx : List Nat
def LD.df (l : LD) : Df := ⟨l.ps.length, l.N, defScope l.st, defBody l.st, l.fx⟩
def LD.dd (l : LD) : He.DefD := ⟨(l.nm, none), l.nm, l.nm, defArgs l.st, defBody l.st, defScope l.st, [], []⟩
def LD.Bd (l : LD) : Prop := ∀ (kV doc pm : Value) (an : Option Addr) (cdv ct : Value) (us : List Value), us.length = l.ps.length → bindArgs (PySem.W.fnOf l.nm l.nm (defArgs l.st) (defBody l.st) (defScope l.st) .none kV doc pm an cdv ct) ⟨us, []⟩ = pure (l.ps.zip us)
def AllBd : List LD → Prop
  | [] => True
  | l :: r => l.Bd ∧ AllBd r
theorem AllBd.get : ∀ {ls : List LD}, AllBd ls → ∀ l ∈ ls, l.Bd
  | [], _, _, h => nomatch h
  | a :: r, h, l, hl => by
    rcases List.mem_cons.mp hl with rfl | hl
    · exact h.1
    · exact AllBd.get h.2 l hl
def allSc (ls : List LD) : Bool := ls.all fun l => C8.scC l.N l.ps (defScope l.st)
/-! ### constants -/
mutual
def datB (K : PySem.W.Frag) : D → Value → Bool
  | .non, .none => true
  | .bl b, .bool c => decide (b = c)
  | .int i, .int j _ => decide (i = j)
  | .str a, .str b _ => decide (a = b)
  | .tup l, .ref a => (match K.lookup a with
    | some ⟨.type c, _, .seq its _, _⟩ => decide (c = "tuple") && (decide (its.size ≤ sizeLine) && datBs K l its.toList)
    | _ => false)
  | _, _ => false
def datBs (K : PySem.W.Frag) : List D → List Value → Bool
  | [], [] => true
  | d :: ds, v :: vs => datB K d v && datBs K ds vs
  | _, _ => false
end
mutual
theorem datB_ok {Γ : Gd} {S : Addr → Prop} {H : Hp} : ∀ (d : D) (v : Value), datB Γ.K d v = true → ∃ u, RelV u v ∧ ∀ S H, Rep Γ S H d u []
  | .non, v, h => by
    cases v <;> first | (simp only [datB] at h; cases h; done) | skip
    exact ⟨.non, rfl, fun _ _ => Rep.non⟩
  | .bl b, v, h => by
    cases v <;> first | (simp only [datB] at h; cases h; done) | skip
    simp only [datB] at h
    rw [← of_decide_eq_true h]
    exact ⟨.bl b, rfl, fun _ _ => Rep.bl⟩
  | .int i, v, h => by
    cases v <;> first | (simp only [datB] at h; cases h; done) | skip
    simp only [datB] at h
    rw [← of_decide_eq_true h]
    exact ⟨.int i, ⟨_, rfl⟩, fun _ _ => Rep.int⟩
  | .str i, v, h => by
    cases v <;> first | (simp only [datB] at h; cases h; done) | skip
    simp only [datB] at h
    rw [← of_decide_eq_true h]
    exact ⟨.str i, ⟨_, rfl⟩, fun _ _ => Rep.str⟩
  | .tup l, v, h => by
    cases v <;> first | (simp only [datB] at h; cases h; done) | skip
    rename_i a
    simp only [datB] at h
    split at h
    · rename_i c od its n sl e
      rw [Bool.and_eq_true, Bool.and_eq_true] at h
      obtain ⟨h1, h2, h3⟩ := h
      obtain ⟨us, r, rr⟩ := datBs_ok (Γ := Γ) (S := S) (H := H) l its.toList h3
      refine ⟨.ref a, rfl, fun S H => ?_⟩
      simp only [Rep]
      exact ⟨a, us, rfl, trivial, .inr ⟨_, its, n, e, congrArg Value.type (of_decide_eq_true h1), rfl, of_decide_eq_true h2, r⟩, rr S H⟩
    · cases h
  | .lst _ _, v, h => by simp only [datB] at h; cases h
  | .obj _ _ _ _, v, h => by simp only [datB] at h; cases h
theorem datBs_ok {Γ : Gd} {S : Addr → Prop} {H : Hp} : ∀ (ds : List D) (vs : List Value), datBs Γ.K ds vs = true → ∃ us, Vals us vs ∧ ∀ S H, Reps Γ S H ds us []
  | [], vs, h => by
    cases vs with
    | nil => exact ⟨[], .nil, fun _ _ => Reps.nil⟩
    | cons _ _ => simp only [datBs] at h; cases h
  | d :: ds, vs, h => by
    cases vs with
    | nil => simp only [datBs] at h; cases h
    | cons v vs =>
      simp only [datBs] at h
      rw [Bool.and_eq_true] at h
      obtain ⟨u, r, rr⟩ := datB_ok (Γ := Γ) (S := S) (H := H) d v h.1
      obtain ⟨us, rs, rrs⟩ := datBs_ok (Γ := Γ) (S := S) (H := H) ds vs h.2
      exact ⟨u :: us, .cons r rs, fun S H => Reps.cons (rr S H) (rrs S H)⟩
end
def conB (K : PySem.W.Frag) (cs : List (Str × D)) : Bool := cs.all fun c => match PySem.W.nsIn K mainGlobals c.1 with
  | some (some v) => datB K c.2 v
  | _ => false
/-! ### the Hook -/
abbrev AlC : Type := He.AlD × Bool
def obsC (n : Nat) (fa : List He.Fa) (fn : List He.DefD) (cs : List (Str × D)) (g : Addr → Option Obj) : AlC := (He.obsD fa fn (He.frG g (He.asD g n)), conB (He.frG g (He.asD g n)) cs)
def hookC (n : Nat) (fa : List He.Fa) (fn : List He.DefD) (cs : List (Str × D)) : PySem.W.Hook where
  α := AlC
  obs := fun s => obsC n fa fn cs s.heap.get?
  val := fun _ => (He.valD fn, true)
  says := fun _ h => ∃ K : PySem.W.Frag, K.In h ∧ He.SaysD fa fn K ∧ conB K cs = true
  of := fun _ _ e => ⟨_, He.frG_in, congrArg (fun z : AlC => z.1) e, congrArg (fun z : AlC => z.2) e⟩
  keeps := fun _ _ _ ⟨K, hK, c⟩ k => ⟨K, PySem.W.Frag.In.keeps hK k, c⟩
theorem obsC_eq {n : Nat} {fa : List He.Fa} {fn : List He.DefD} {cs : List (Str × D)} {g : Addr → Option Obj} {s : Shared} (h : ∀ a, g a = s.heap.get? a) : obsC n fa fn cs g = (hookC n fa fn cs).obs s := by
  have e : g = s.heap.get? := funext h
  rw [e] <;> rfl
def faOf (ls : List LD) (free : List Str) : List He.Fa := ls.map (fun l => .glo l.nm) ++ free.map .free
def tbl (ls : List LD) (cs : List (Str × D)) (free : List Str) (fuel deep : Nat) : Tb := ⟨ls.map fun l => (l.nm, l.df), fun x => cs.lookup x, free, fuel, deep⟩
section
variable {P : Program} {w : World} {K : PySem.W.Frag} {mg : Str → Option Value} {base h : Heap}
theorem lookup_ld {ls : List LD} {f : Str} {df : Df} (e : (ls.map fun l => (l.nm, l.df)).lookup f = some df) : ∃ l ∈ ls, l.nm = f ∧ l.df = df := by
  have := PySem.mem_of_lookup e
  obtain ⟨l, hl, e⟩ := List.mem_map.mp this
  exact ⟨l, hl, congrArg Prod.fst e, congrArg Prod.snd e⟩
theorem def_ok {ls : List LD} {free : List Str} {l : LD} (X : K.In h) (Gn : h.Ns mainGlobals mg) (c : He.SaysD (faOf ls free) (ls.map LD.dd) K) (sc : allSc ls = true) (bd : AllBd ls) (hl : l ∈ ls) : ∃ fa fd, DefOk K mg l.nm l.df fa fd l.ps := by
  obtain ⟨fd, F⟩ := c.defs (List.mem_map_of_mem hl : l.dd ∈ ls.map LD.dd)
  have g : mg l.nm = some (.ref (He.ga K l.nm)) := He.glo_ok X Gn (c.facts (f := .glo l.nm) (List.mem_append_left _ (List.mem_map_of_mem hl)))
  have e : He.fAd K l.dd.at_ = He.ga K l.nm := rfl
  exact ⟨He.ga K l.nm, fd, ⟨⟨l.nm, defArgs l.st, F⟩, C8.fnScope_by (List.all_eq_true.mp sc l hl), rfl, FunD.bindsN F (bd.get l hl), g, F.kp⟩⟩
theorem mod_ok {ls : List LD} {cs : List (Str × D)} {free : List Str} {fuel deep : Nat} {cl : _} (X : K.In h) (Gn : h.Ns mainGlobals mg) (c : He.SaysD (faOf ls free) (ls.map LD.dd) K) (cb : conB K cs = true) (sc : allSc ls = true) (bd : AllBd ls) :
    ModOk ⟨K, cl⟩ (tbl ls cs free fuel deep) K mg where
  kk := rfl
  con := fun x d e => by
    have hm := PySem.mem_of_lookup (show cs.lookup x = some d from e)
    have b := List.all_eq_true.mp cb _ hm
    dsimp only at b
    split at b
    · rename_i v hv
      obtain ⟨u, r, rr⟩ := datB_ok (Γ := ⟨K, cl⟩) (S := fun _ => False) (H := fun _ => none) d v b
      exact ⟨u, v, PySem.W.mg_of X Gn hv, r, rr⟩
    · cases b
  free := fun x hx => He.free_ok X Gn (c.facts (f := .free x) (List.mem_append_right _ (List.mem_map_of_mem (List.contains_iff_mem.mp hx))))
  defs := fun f df e => by
    obtain ⟨l, hl, rfl, rfl⟩ := lookup_ld e
    obtain ⟨fa, fd, D⟩ := def_ok X Gn c sc bd hl
    exact ⟨fa, fd, l.ps, D⟩
theorem runD_len {T : Tb} {df : Df} {call : _} {as : List D} {d : D} {os : List (Option D)} (h : runD T df call as = some (d, os)) : os.length = as.length := by
  unfold runD at h
  split at h
  · rename_i hl
    split at h <;> first | cases h; done | skip
    all_goals
      cases h
      unfold outsOf
      rw [List.length_map, List.length_range, hl]
  · cases h
theorem callD_len {T : Tb} {k : Nat} {f : Str} {as : List D} {d : D} {os : List (Option D)} (h : callD T k f as = some (d, os)) : os.length = as.length := by
  cases k with
  | zero => cases h
  | succ k =>
    simp only [callD] at h
    split at h
    · exact runD_len h
    · cases h
theorem reps_ints {Γ : Gd} {S : Addr → Prop} {H : Hp} : ∀ ns : List Int, Reps Γ S H (ns.map D.int) (ns.map V.int) []
  | [] => Reps.nil
  | n :: ns => Reps.cons (f := []) Rep.int (reps_ints ns)
/-- the law's promise -/
def spL (n : Nat) (K : PySem.W.Frag) : Sp := fun vs H Q _ => ∃ (a : Addr) (ns : List Int), vs = [.ref a] ∧ ns.length ≤ n ∧ SqL K H a (ns.map V.int) ∧ ∀ H', Q (.bl true) H'
theorem law_fn {Γ : Gd} {T : Tb} {df : Df} {fa : Addr} {fd : FuncData} {ps : List Str} {n k : Nat} (M : ModOk Γ T K mg) (hl : T.defs.lookup ("law" : Str) = some df) (Do : DefOk K mg "law" df fa fd ps)
    (hv : ∀ ns : List Int, ns.length ≤ n → ∃ os, callD T k "law" [.lst .lk (ns.map .int)] = some (.bl true, os)) : FnOk P w K mg base CX0 (k + 1) fa fd ps (spL n K) := by
  refine (fn_all M k "law" df fa fd ps hl Do).imp ?_
  rintro vs H Q E ⟨a, ns, rfl, hn, hS, q⟩
  obtain ⟨os, e⟩ := hv ns hn
  refine ⟨fun _ => False, [.lst .lk (ns.map .int)], fun _ => [], .bl true, os, ⟨rfl, fun i d e => ?_, fun _ => List.nodup_nil, fun _ _ _ z => (nomatch z), fun _ _ z => (nomatch z), fun _ z => z.elim⟩, e, callD_len e, fun S' H' fp' v g p x => ?_⟩
  · cases i with
    | zero =>
      cases e
      refine ⟨_, rfl, ?_⟩
      simp only [Rep]
      refine ⟨a, ns.map V.int, rfl, trivial, ?_, reps_ints ns⟩
      rcases hS with hS | hS
      · exact .inl ⟨hS, fun z => z⟩
      · right
        rw [← M.kk]
        exact hS
    | succ i => cases e
  · rw [x.rep.bl_inv]
    exact q H'
theorem facts_of {ls : List LD} {cs : List (Str × D)} {free : List Str} {fuel deep n k : Nat} {fa : Addr} {l : LD} (X : K.In h) (Gn : h.Ns mainGlobals mg) (hfa : mg ("law" : Str) = some (.ref fa)) (c : He.SaysD (faOf ls free) (ls.map LD.dd) K) (cb : conB K cs = true) (sc : allSc ls = true) (bd : AllBd ls)
    (hl : (tbl ls cs free fuel deep).defs.lookup ("law" : Str) = some l.df) (hm : l ∈ ls) (hn : l.nm = "law") (hp : l.ps = (["script"] : List Str))
    (hv : ∀ ns : List Int, ns.length ≤ n → ∃ os, callD (tbl ls cs free fuel deep) k "law" [.lst .lk (ns.map .int)] = some (.bl true, os)) :
    ∃ fd : FuncData, (∀ (s : Shared) (v : Value), BindsTo s fd ⟨[v], []⟩ [("script", v)]) ∧ ∀ base : Heap, K.In base → base.Ns mainGlobals mg → FnOk P w K mg base CX0 (k + 1) fa fd ["script"] (spL n K) := by
  have M := mod_ok (cl := fun _ => 0) (fuel := fuel) (deep := deep) X Gn c cb sc bd
  obtain ⟨fd, F⟩ := c.defs (List.mem_map_of_mem hm : l.dd ∈ ls.map LD.dd)
  have g : mg l.nm = some (.ref (He.ga K l.nm)) := He.glo_ok X Gn (c.facts (f := .glo l.nm) (List.mem_append_left _ (List.mem_map_of_mem hm)))
  rw [hn, hfa] at g
  have e : fa = He.ga K l.nm := by rw [hn]; cases g; rfl
  have Do : DefOk K mg l.nm l.df fa fd l.ps := by
    rw [e]
    exact ⟨⟨l.nm, defArgs l.st, F⟩, C8.fnScope_by (List.all_eq_true.mp sc l hm), rfl, FunD.bindsN F (bd.get l hm), by rw [hn, hfa, e, hn], F.kp⟩
  rw [hn, hp] at Do
  have b := FunD.bindsA (ps := l.ps) F (bd.get l hm)
  refine ⟨fd, fun s v => ?_, fun base _ _ => law_fn M hl Do hv⟩
  have := b s [v] (by rw [hp]; rfl)
  rw [hp] at this
  exact this
end
end PyD

/-! The interpreter's text as combinators. -/
namespace PyD
open PySem PySem.Spec PyProof.Rows L2
/-- an operand: a variable, a value -/
def rf (i : Nat) : Ev Ar := fun δ => (look δ (.ref i)).map fun _ => (.ref i, δ)
def vl (v : Ev D) : Ev Ar := fun δ => (v δ).map fun p => (.val p.1, p.2)
def cs (d : D) : Ev D := fun δ => some (d, δ)
def nlA : Ev (List Ar) := fun δ => some ([], δ)
def cnA (a : Ev Ar) (r : Ev (List Ar)) : Ev (List Ar) := fun δ => match a δ with
  | some (a, δ1) => (r δ1).map fun p => (a :: p.1, p.2)
  | none => none
def cmT (op : CmpOp) (u v : D) : Option D := (cmpD op u v).map .bl
def tkS (i : Nat) : Ev D := fun δ => match δ[i]? with
    | some (some d) => some (d, δ.set i none)
    | _ => none
def rg1 (v : Ev D) : Ev Src := fun δ => match v δ with
      | some (.int j, δ1) => if rngOk j then some (.rng 0 j.toNat, δ1) else none
      | _ => none
def rg2 (v w : Ev D) : Ev Src := fun δ => match v δ with
      | some (.int i, δ1) => match w δ1 with
        | some (.int j, δ2) => if rngOk i && rngOk j then some (.rng i (j - i).toNat, δ2) else none
        | _ => none
      | _ => none
def sqC (v : Ev D) : Ev Src := fun δ => match v δ with
    | some (d, δ1) => (srcOf d).map fun s => (s, δ1)
    | none => none
def isT (t : String) (u : D) : Option D := (isTy t u).map .bl
def oN : Ev (Option Int) := fun δ => some (none, δ)
def oS (v : Ev D) : Ev (Option Int) := fun δ => match v δ with
    | some (.int i, δ') => some (some i, δ')
    | _ => none
def outL (ps : Nat) (fx : List Nat) (δ : Env) : List (Option D) := (List.range ps).map fun j => if fx.contains j then (δ[j]?).getD none else none
def finS (ps : Nat) (fx : List Nat) (r : Option (Fl × Env)) : Option (D × List (Option D)) := match r with
  | some (.rt d, δ) => some (d, outL ps fx δ)
  | some (.nx, δ) => some (.non, outL ps fx δ)
  | _ => none
theorem call_run {T : Tb} {f : Str} {l : LD} {k : Nat} {as : List D} {b : (Str → List D → Option (D × List (Option D))) → Ex} (h : T.defs.lookup f = some l.df) (e : ∀ c, exs T.deep (T.gc l.df c) (defBody l.st) = b c) (hn : as.length = l.ps.length) :
    callD T (k + 1) f as = finS l.ps.length l.fx (b (callD T k) (as.map some ++ List.replicate (l.N.length - as.length) none)) := by
  simp only [callD, h]
  unfold runD
  rw [if_pos (show as.length = l.df.ps from hn), ← e] <;> rfl
end PyD

namespace K12
open PySem PySem.Spec PySem.W PyProof.Rows L2 PyD
abbrev rw : OpenLaw := PySem.Challenge.rw_coarsegauge_k12_fits_and_fitted
def top (i : Nat) : Stmt := PySem.Challenge.pw_coarsegauge_k12_fits_and_fitted.main.body.getD i (.Pass ⟨0, 0, 0, 0⟩)
def l_range_of : LD := ⟨"range_of", top 1, ["figures", "half"], ["figures"], []⟩
def l_fits : LD := ⟨"fits", top 2, ["number", "figures", "low", "high"], ["number", "figures"], []⟩
def l_fitted : LD := ⟨"fitted", top 3, ["number", "figures", "way", "low", "high"], ["number", "figures", "way"], []⟩
def l__law_is_int : LD := ⟨"_law_is_int", top 5, ["thing"], ["thing"], []⟩
def l__law_jar : LD := ⟨"_law_jar", top 6, ["script", "at", "cell", "number", "state"], ["script", "at"], []⟩
def l__law_pick : LD := ⟨"_law_pick", top 7, ["jar", "many", "told"], ["jar", "many"], [0]⟩
def l__law_great : LD := ⟨"_law_great", top 8, ["jar", "number", "step"], ["jar"], [0]⟩
def l__law_all_of : LD := ⟨"_law_all_of", top 9, ["figures", "half"], ["figures"], []⟩
def l__law_wraps : LD := ⟨"_law_wraps", top 10, ["number", "row", "one"], ["number", "row"], []⟩
def l__law_clips : LD := ⟨"_law_clips", top 11, ["number", "row", "least", "one"], ["number", "row"], []⟩
def l__law_number_holds : LD := ⟨"_law_number_holds", top 12, ["number", "figures", "row", "seen", "wrapped", "clipped"], ["number", "figures"], []⟩
def l__law_numbers : LD := ⟨"_law_numbers", top 13, ["jar", "figures", "half", "away", "great", "found"], ["jar", "figures"], [0]⟩
def l__law_sums_hold : LD := ⟨"_law_sums_hold", top 14, ["jar", "figures", "row", "wrapped", "clipped", "total", "step", "more", "due"], ["jar", "figures"], [0]⟩
def l_law : LD := ⟨"law", top 15, ["script", "jar", "sweep", "half", "number", "figures", "told", "ends", "other", "step", "end"], ["script"], []⟩
def lds0 : List LD := [l_range_of, l_fits, l_fitted, l__law_is_int, l__law_jar, l__law_pick, l__law_great, l__law_all_of, l__law_wraps, l__law_clips, l__law_number_holds, l__law_numbers, l__law_sums_hold, l_law]
def lds : List LD := lds0
def cons : List (Str × D) := []
def free : List Str := ["abs", "bool", "int", "isinstance", "len", "list", "min", "range", "tuple"]
abbrev T : Tb := tbl lds cons free 2000 40
def nms0 : List Str := ["range_of", "fits", "fitted", "_law_is_int", "_law_jar", "_law_pick", "_law_great", "_law_all_of", "_law_wraps", "_law_clips", "_law_number_holds", "_law_numbers", "_law_sums_hold"]
def nms : List Str := nms0
-- law at 15
def b_range_of (c : Str → List D → Option (D × List (Option D))) : Ex := 
  (seqS (asgC (op2 (vl (cs (.int 1))) (vl (op2 (rf 0) (vl (cs (.int 1))) (binD .Sub))) (binD .LShift)) (flN 1)) 
  (seqS (retS (dispC (cnA (vl (op1 (rf 1) negD)) (cnA (vl (op2 (rf 1) (vl (cs (.int 1))) (binD .Sub))) nlA)) (fun ds => .tup (clrs ds)))) nxS))
theorem e_range_of (c : _) : exs T.deep (T.gc l_range_of.df c) (defBody l_range_of.st) = b_range_of c := by kernel_rfl
theorem c_range_of {k : Nat} {as : List D} (h : as.length = 1) : callD T (k + 1) "range_of" as = finS 1 [] (b_range_of (callD T k) (as.map some ++ List.replicate (2 - as.length) none)) := call_run (l := l_range_of) (by kernel_rfl) e_range_of h
def b_fits (c : Str → List D → Option (D × List (Option D))) : Ex := 
  (seqS (asgC (callC (cnA (vl (rdN 1)) nlA) c "range_of" [false]) (flT [(flN 2), (flN 3)])) 
  (seqS (retS (chainC (rdN 2) (rdN 0) (rdN 3) (cmpD .LtE) (cmpD .LtE))) nxS))
theorem e_fits (c : _) : exs T.deep (T.gc l_fits.df c) (defBody l_fits.st) = b_fits c := by kernel_rfl
theorem c_fits {k : Nat} {as : List D} (h : as.length = 2) : callD T (k + 1) "fits" as = finS 2 [] (b_fits (callD T k) (as.map some ++ List.replicate (4 - as.length) none)) := call_run (l := l_fits) (by kernel_rfl) e_fits h
def b_fitted (c : Str → List D → Option (D × List (Option D))) : Ex := 
  (seqS (asgC (callC (cnA (vl (rdN 1)) nlA) c "range_of" [false]) (flT [(flN 3), (flN 4)])) 
  (seqS (cndS (asT (chainC (rdN 3) (rdN 0) (rdN 4) (cmpD .LtE) (cmpD .LtE))) 
    (seqS (retS (tkS 0)) nxS) nxS) 
  (seqS (cndS (asT (op2 (rf 2) (vl (cs (.str "wrap"))) (cmT .Eq))) 
    (seqS (retS (op2 (vl (op2 (vl (op2 (rf 0) (rf 3) (binD .Sub))) (vl (op2 (vl (op2 (vl (cs (.int 1))) (rf 1) (binD .LShift))) (vl (cs (.int 1))) (binD .Sub))) (binD .BitAnd))) (rf 3) (binD .Add))) nxS) nxS) 
  (seqS (cndS (asT (op2 (rf 0) (rf 3) (cmT .Lt))) 
    (seqS (retS (tkS 3)) nxS) nxS) 
  (seqS (retS (tkS 4)) nxS)))))
theorem e_fitted (c : _) : exs T.deep (T.gc l_fitted.df c) (defBody l_fitted.st) = b_fitted c := by kernel_rfl
theorem c_fitted {k : Nat} {as : List D} (h : as.length = 3) : callD T (k + 1) "fitted" as = finS 3 [] (b_fitted (callD T k) (as.map some ++ List.replicate (5 - as.length) none)) := call_run (l := l_fitted) (by kernel_rfl) e_fitted h
def b__law_is_int (c : Str → List D → Option (D × List (Option D))) : Ex := 
  (seqS (retS (andC (op1 (rf 0) (isT "int")) (blC (notC (asT (op1 (rf 0) (isT "bool"))))))) nxS)
theorem e__law_is_int (c : _) : exs T.deep (T.gc l__law_is_int.df c) (defBody l__law_is_int.st) = b__law_is_int c := by kernel_rfl
theorem c__law_is_int {k : Nat} {as : List D} (h : as.length = 1) : callD T (k + 1) "_law_is_int" as = finS 1 [] (b__law_is_int (callD T k) (as.map some ++ List.replicate (1 - as.length) none)) := call_run (l := l__law_is_int) (by kernel_rfl) e__law_is_int h
def b__law_jar (c : Str → List D → Option (D × List (Option D))) : Ex := 
  (seqS (asgC (cs (.int 0)) (flN 2)) 
  (seqS (cndS (asT (op2 (vl (bltC (cnA (rf 0) nlA) (blt "len"))) (rf 1) (cmT .Gt))) 
    (seqS (asgC (bltC (cnA (vl (op2 (rf 0) (rf 1) ixD)) nlA) (blt "int")) (flN 2)) nxS) nxS) 
  (seqS (asgC (iteC (asT (op2 (rf 2) (vl (cs (.int 0))) (cmT .GtE))) (rdN 2) (op2 (vl (cs (.int 1))) (vl (op2 (vl (cs (.int 3))) (rf 2) (binD .Mult))) (binD .Sub))) (flN 3)) 
  (seqS (asgC (op2 (vl (bltC (cnA (vl (op2 (vl (op2 (vl (op2 (rf 3) (vl (cs (.int 48271))) (binD .Mult))) (vl (op2 (rf 1) (vl (cs (.int 7919))) (binD .Mult))) (binD .Add))) (vl (cs (.int 12345))) (binD .Add))) nlA) (blt "int"))) (vl (cs (.int 2147483647))) (binD .Mod)) (flN 4)) 
  (seqS (asgC (op2 (vl (bltC (cnA (vl (op2 (vl (op2 (vl (op2 (rf 4) (vl (cs (.int 16807))) (binD .Mult))) (vl (op2 (rf 1) (vl (cs (.int 104729))) (binD .Mult))) (binD .Add))) (vl (cs (.int 77))) (binD .Add))) nlA) (blt "int"))) (vl (cs (.int 2147483629))) (binD .Mod)) (flN 4)) 
  (seqS (cndS (asT (op2 (rf 3) (vl (op2 (vl (cs (.int 10))) (vl (cs (.int 18))) (binD .Pow))) (cmT .GtE))) 
    (seqS (retS (dispC (cnA (vl (rdN 3)) (cnA (vl (rdN 4)) (cnA (vl (cs (.int 0))) nlA))) (.lst .own))) nxS) nxS) 
  (seqS (retS (dispC (cnA (vl (cs (.int 0))) (cnA (vl (rdN 4)) (cnA (vl (cs (.int 0))) nlA))) (.lst .own))) nxS)))))))
theorem e__law_jar (c : _) : exs T.deep (T.gc l__law_jar.df c) (defBody l__law_jar.st) = b__law_jar c := by kernel_rfl
theorem c__law_jar {k : Nat} {as : List D} (h : as.length = 2) : callD T (k + 1) "_law_jar" as = finS 2 [] (b__law_jar (callD T k) (as.map some ++ List.replicate (5 - as.length) none)) := call_run (l := l__law_jar) (by kernel_rfl) e__law_jar h
def b__law_pick (c : Str → List D → Option (D × List (Option D))) : Ex := 
  (seqS (cndS (asT (op2 (vl (op2 (rf 0) (vl (cs (.int 0))) ixD)) (vl (cs (.int 0))) (cmT .Gt))) 
    (seqS (asgC (op2 (vl (bltC (cnA (vl (op2 (rf 0) (vl (cs (.int 0))) ixD)) nlA) (blt "int"))) (rf 1) (binD .Mod)) (flN 2)) 
    (seqS (subC (op2 (vl (op2 (rf 0) (vl (cs (.int 0))) ixD)) (rf 1) (binD .FloorDiv)) (cs (.int 0)) 0) 
    (seqS (retS (tkS 2)) nxS))) nxS) 
  (seqS (subC (op2 (vl (op2 (rf 0) (vl (cs (.int 2))) ixD)) (vl (cs (.int 1))) (binD .Add)) (cs (.int 2)) 0) 
  (seqS (subC (op2 (vl (bltC (cnA (vl (op2 (vl (op2 (vl (op2 (vl (op2 (rf 0) (vl (cs (.int 1))) ixD)) (vl (cs (.int 69621))) (binD .Mult))) (vl (op2 (vl (op2 (vl (op2 (rf 0) (vl (cs (.int 2))) ixD)) (vl (op2 (rf 0) (vl (cs (.int 2))) ixD)) (binD .Mult))) (vl (cs (.int 31))) (binD .Mult))) (binD .Add))) (vl (cs (.int 917))) (binD .Add))) nlA) (blt "int"))) (vl (cs (.int 2147483647))) (binD .Mod)) (cs (.int 1)) 0) 
  (seqS (retS (op2 (vl (bltC (cnA (vl (op2 (vl (op2 (rf 0) (vl (cs (.int 1))) ixD)) (vl (cs (.int 37))) (binD .FloorDiv))) nlA) (blt "int"))) (rf 1) (binD .Mod))) nxS))))
theorem e__law_pick (c : _) : exs T.deep (T.gc l__law_pick.df c) (defBody l__law_pick.st) = b__law_pick c := by kernel_rfl
theorem c__law_pick {k : Nat} {as : List D} (h : as.length = 2) : callD T (k + 1) "_law_pick" as = finS 2 [0] (b__law_pick (callD T k) (as.map some ++ List.replicate (3 - as.length) none)) := call_run (l := l__law_pick) (by kernel_rfl) e__law_pick h
def b__law_great (c : Str → List D → Option (D × List (Option D))) : Ex := 
  (seqS (asgC (cs (.int 0)) (flN 1)) 
  (seqS (forS (rg1 (op2 (vl (cs (.int 1))) (vl (callC (cnA (rf 0) (cnA (vl (cs (.int 4))) nlA)) c "_law_pick" [true, false])) (binD .Add))) (flN 2) 
    (seqS (asgC (op2 (vl (op2 (rf 1) (vl (cs (.int 10000000))) (binD .Mult))) (vl (callC (cnA (rf 0) (cnA (vl (cs (.int 10000000))) nlA)) c "_law_pick" [true, false])) (binD .Add)) (flN 1)) nxS)) 
  (seqS (retS (tkS 1)) nxS)))
theorem e__law_great (c : _) : exs T.deep (T.gc l__law_great.df c) (defBody l__law_great.st) = b__law_great c := by kernel_rfl
theorem c__law_great {k : Nat} {as : List D} (h : as.length = 1) : callD T (k + 1) "_law_great" as = finS 1 [0] (b__law_great (callD T k) (as.map some ++ List.replicate (3 - as.length) none)) := call_run (l := l__law_great) (by kernel_rfl) e__law_great h
def b__law_all_of (c : Str → List D → Option (D × List (Option D))) : Ex := 
  (seqS (asgC (op2 (vl (cs (.int 1))) (vl (op2 (rf 0) (vl (cs (.int 1))) (binD .Sub))) (binD .LShift)) (flN 1)) 
  (seqS (retS (lrC (rg2 (op1 (rf 1) negD) (rdN 1)) (.lst .own))) nxS))
theorem e__law_all_of (c : _) : exs T.deep (T.gc l__law_all_of.df c) (defBody l__law_all_of.st) = b__law_all_of c := by kernel_rfl
theorem c__law_all_of {k : Nat} {as : List D} (h : as.length = 1) : callD T (k + 1) "_law_all_of" as = finS 1 [] (b__law_all_of (callD T k) (as.map some ++ List.replicate (2 - as.length) none)) := call_run (l := l__law_all_of) (by kernel_rfl) e__law_all_of h
def b__law_wraps (c : Str → List D → Option (D × List (Option D))) : Ex := 
  (seqS (retS (compC (sqC (rdN 1)) (flN 2) (asT (op2 (vl (op2 (vl (bltC (cnA (vl (op2 (rf 0) (rf 2) (binD .Sub))) nlA) (blt "int"))) (vl (bltC (cnA (rf 1) nlA) (blt "len"))) (binD .Mod))) (vl (cs (.int 0))) (cmT .Eq))) (rdN 2) [2])) nxS)
theorem e__law_wraps (c : _) : exs T.deep (T.gc l__law_wraps.df c) (defBody l__law_wraps.st) = b__law_wraps c := by kernel_rfl
theorem c__law_wraps {k : Nat} {as : List D} (h : as.length = 2) : callD T (k + 1) "_law_wraps" as = finS 2 [] (b__law_wraps (callD T k) (as.map some ++ List.replicate (3 - as.length) none)) := call_run (l := l__law_wraps) (by kernel_rfl) e__law_wraps h
def b__law_clips (c : Str → List D → Option (D × List (Option D))) : Ex := 
  (seqS (asgC (bltC (cnA (vl (compC (sqC (rdN 1)) (flN 3) (Ev.ret true) (bltC (cnA (vl (op2 (rf 0) (rf 3) (binD .Sub))) nlA) (blt "abs")) [3])) nlA) (blt "min")) (flN 2)) 
  (seqS (retS (compC (sqC (rdN 1)) (flN 3) (asT (op2 (vl (bltC (cnA (vl (op2 (rf 0) (rf 3) (binD .Sub))) nlA) (blt "abs"))) (rf 2) (cmT .Eq))) (rdN 3) [3])) nxS))
theorem e__law_clips (c : _) : exs T.deep (T.gc l__law_clips.df c) (defBody l__law_clips.st) = b__law_clips c := by kernel_rfl
theorem c__law_clips {k : Nat} {as : List D} (h : as.length = 2) : callD T (k + 1) "_law_clips" as = finS 2 [] (b__law_clips (callD T k) (as.map some ++ List.replicate (4 - as.length) none)) := call_run (l := l__law_clips) (by kernel_rfl) e__law_clips h
def s__law_number_holds_1 (c : Str → List D → Option (D × List (Option D))) : Ex := (asgC (callC (cnA (vl (rdN 1)) nlA) c "_law_all_of" [false]) (flN 2))
def s__law_number_holds_2 (c : Str → List D → Option (D × List (Option D))) : Ex := (asgC (callC (cnA (vl (rdN 0)) (cnA (vl (rdN 1)) nlA)) c "fits" [false, false]) (flN 3))
def s__law_number_holds_3 (c : Str → List D → Option (D × List (Option D))) : Ex := (retS (cs (.bl false)))
def s__law_number_holds_4 (c : Str → List D → Option (D × List (Option D))) : Ex := (cndS (iteC (notC (asT (op1 (rf 3) (isT "bool")))) (Ev.ret true) (asT (op2 (rf 3) (vl (op2 (rf 0) (rf 2) (cmT .In))) (cmT .NotEq)))) (seqS (s__law_number_holds_3 c) nxS) nxS)
def s__law_number_holds_5 (c : Str → List D → Option (D × List (Option D))) : Ex := (asgC (callC (cnA (vl (rdN 0)) (cnA (vl (rdN 1)) (cnA (vl (cs (.str "wrap"))) nlA))) c "fitted" [false, false, false]) (flN 4))
def s__law_number_holds_6 (c : Str → List D → Option (D × List (Option D))) : Ex := (asgC (callC (cnA (vl (rdN 0)) (cnA (vl (rdN 1)) (cnA (vl (cs (.str "clip"))) nlA))) c "fitted" [false, false, false]) (flN 5))
def s__law_number_holds_7 (c : Str → List D → Option (D × List (Option D))) : Ex := (retS (cs (.bl false)))
def s__law_number_holds_8 (c : Str → List D → Option (D × List (Option D))) : Ex := (cndS (iteC (notC (asT (callC (cnA (vl (rdN 4)) nlA) c "_law_is_int" [false]))) (Ev.ret true) (notC (asT (callC (cnA (vl (rdN 5)) nlA) c "_law_is_int" [false])))) (seqS (s__law_number_holds_7 c) nxS) nxS)
def s__law_number_holds_9 (c : Str → List D → Option (D × List (Option D))) : Ex := (retS (cs (.bl false)))
def s__law_number_holds_10 (c : Str → List D → Option (D × List (Option D))) : Ex := (cndS (iteC (asT (rdN 3)) (iteC (asT (op2 (rf 4) (rf 0) (cmT .NotEq))) (Ev.ret true) (asT (op2 (rf 5) (rf 0) (cmT .NotEq)))) (Ev.ret false)) (seqS (s__law_number_holds_9 c) nxS) nxS)
def s__law_number_holds_11 (c : Str → List D → Option (D × List (Option D))) : Ex := (retS (andC (op2 (vl (callC (cnA (vl (rdN 0)) (cnA (vl (rdN 2)) nlA)) c "_law_wraps" [false, false])) (vl (dispC (cnA (vl (rdN 4)) nlA) (.lst .own))) (cmT .Eq)) (op2 (vl (callC (cnA (vl (rdN 0)) (cnA (vl (rdN 2)) nlA)) c "_law_clips" [false, false])) (vl (dispC (cnA (vl (rdN 5)) nlA) (.lst .own))) (cmT .Eq))))
def b__law_number_holds (c : Str → List D → Option (D × List (Option D))) : Ex := (seqS (s__law_number_holds_1 c) (seqS (s__law_number_holds_2 c) (seqS (s__law_number_holds_4 c) (seqS (s__law_number_holds_5 c) (seqS (s__law_number_holds_6 c) (seqS (s__law_number_holds_8 c) (seqS (s__law_number_holds_10 c) (seqS (s__law_number_holds_11 c) nxS))))))))
theorem e__law_number_holds (c : _) : exs T.deep (T.gc l__law_number_holds.df c) (defBody l__law_number_holds.st) = b__law_number_holds c := by kernel_rfl
theorem c__law_number_holds {k : Nat} {as : List D} (h : as.length = 2) : callD T (k + 1) "_law_number_holds" as = finS 2 [] (b__law_number_holds (callD T k) (as.map some ++ List.replicate (6 - as.length) none)) := call_run (l := l__law_number_holds) (by kernel_rfl) e__law_number_holds h
def s__law_numbers_1 (c : Str → List D → Option (D × List (Option D))) : Ex := (asgC (op2 (vl (cs (.int 1))) (vl (op2 (rf 1) (vl (cs (.int 1))) (binD .Sub))) (binD .LShift)) (flN 2))
def s__law_numbers_2 (c : Str → List D → Option (D × List (Option D))) : Ex := (asgC (op2 (vl (op2 (vl (cs (.int 2))) (rf 2) (binD .Mult))) (vl (op2 (vl (cs (.int 1))) (vl (callC (cnA (rf 0) (cnA (vl (cs (.int 50))) nlA)) c "_law_pick" [true, false])) (binD .Add))) (binD .Mult)) (flN 3))
def s__law_numbers_3 (c : Str → List D → Option (D × List (Option D))) : Ex := (asgC (op2 (vl (op2 (vl (cs (.int 2))) (rf 2) (binD .Mult))) (vl (callC (cnA (rf 0) nlA) c "_law_great" [true])) (binD .Mult)) (flN 4))
def s__law_numbers_4 (c : Str → List D → Option (D × List (Option D))) : Ex := (asgC (dispC (cnA (vl (op2 (vl (op1 (rf 2) negD)) (vl (cs (.int 1))) (binD .Sub))) (cnA (vl (op1 (rf 2) negD)) (cnA (vl (op1 (vl (cs (.int 1))) negD)) (cnA (vl (cs (.int 0))) (cnA (vl (op2 (rf 2) (vl (cs (.int 1))) (binD .Sub))) (cnA (vl (rdN 2)) (cnA (vl (op2 (rf 2) (rf 3) (binD .Add))) (cnA (vl (op2 (vl (op2 (vl (op1 (rf 2) negD)) (vl (cs (.int 1))) (binD .Sub))) (rf 3) (binD .Sub))) (cnA (vl (op2 (vl (op2 (rf 2) (vl (cs (.int 1))) (binD .Sub))) (rf 3) (binD .Add))) (cnA (vl (op2 (vl (op1 (rf 2) negD)) (rf 3) (binD .Sub))) nlA)))))))))) (.lst .own)) (flN 5))
def s__law_numbers_5 (c : Str → List D → Option (D × List (Option D))) : Ex := (asgC (op2 (rf 5) (vl (dispC (cnA (vl (op2 (vl (op2 (rf 4) (rf 2) (binD .Sub))) (vl (cs (.int 1))) (binD .Sub))) (cnA (vl (op2 (rf 4) (rf 2) (binD .Add))) (cnA (vl (op2 (vl (op2 (vl (op1 (rf 4) negD)) (rf 2) (binD .Sub))) (vl (cs (.int 1))) (binD .Sub))) (cnA (vl (op2 (vl (op2 (rf 2) (vl (cs (.int 1))) (binD .Sub))) (rf 4) (binD .Sub))) nlA)))) (.lst .own))) (binD .Add)) (flN 5))
def s__law_numbers_6 (c : Str → List D → Option (D × List (Option D))) : Ex := (retS (op2 (rf 5) (vl (dispC (cnA (vl (callC (cnA (rf 0) nlA) c "_law_great" [true])) (cnA (vl (op1 (vl (callC (cnA (rf 0) nlA) c "_law_great" [true])) negD)) (cnA (vl (op2 (vl (callC (cnA (rf 0) (cnA (vl (cs (.int 401))) nlA)) c "_law_pick" [true, false])) (vl (cs (.int 200))) (binD .Sub))) nlA))) (.lst .own))) (binD .Add)))
def b__law_numbers (c : Str → List D → Option (D × List (Option D))) : Ex := (seqS (s__law_numbers_1 c) (seqS (s__law_numbers_2 c) (seqS (s__law_numbers_3 c) (seqS (s__law_numbers_4 c) (seqS (s__law_numbers_5 c) (seqS (s__law_numbers_6 c) nxS))))))
theorem e__law_numbers (c : _) : exs T.deep (T.gc l__law_numbers.df c) (defBody l__law_numbers.st) = b__law_numbers c := by kernel_rfl
theorem c__law_numbers {k : Nat} {as : List D} (h : as.length = 2) : callD T (k + 1) "_law_numbers" as = finS 2 [0] (b__law_numbers (callD T k) (as.map some ++ List.replicate (6 - as.length) none)) := call_run (l := l__law_numbers) (by kernel_rfl) e__law_numbers h
def s__law_sums_hold_1 (c : Str → List D → Option (D × List (Option D))) : Ex := (asgC (callC (cnA (vl (rdN 1)) nlA) c "_law_all_of" [false]) (flN 2))
def s__law_sums_hold_2 (c : Str → List D → Option (D × List (Option D))) : Ex := (asgC (cs (.int 0)) (flN 3))
def s__law_sums_hold_3 (c : Str → List D → Option (D × List (Option D))) : Ex := (asgC (cs (.int 0)) (flN 4))
def s__law_sums_hold_4 (c : Str → List D → Option (D × List (Option D))) : Ex := (asgC (cs (.int 0)) (flN 5))
def s__law_sums_hold_5 (c : Str → List D → Option (D × List (Option D))) : Ex := (asgC (op2 (vl (callC (cnA (rf 0) (cnA (vl (op2 (vl (cs (.int 4))) (vl (bltC (cnA (rf 2) nlA) (blt "len"))) (binD .Mult))) nlA)) c "_law_pick" [true, false])) (vl (op2 (vl (cs (.int 2))) (vl (bltC (cnA (rf 2) nlA) (blt "len"))) (binD .Mult))) (binD .Sub)) (flN 7))
def s__law_sums_hold_6 (c : Str → List D → Option (D × List (Option D))) : Ex := (asgC (op1 (vl (callC (cnA (rf 0) nlA) c "_law_great" [true])) negD) (flN 7))
def s__law_sums_hold_7 (c : Str → List D → Option (D × List (Option D))) : Ex := (cndS (asT (op2 (vl (callC (cnA (rf 0) (cnA (vl (cs (.int 6))) nlA)) c "_law_pick" [true, false])) (vl (cs (.int 0))) (cmT .Eq))) (seqS (s__law_sums_hold_6 c) nxS) nxS)
def s__law_sums_hold_8 (c : Str → List D → Option (D × List (Option D))) : Ex := (asgC (op2 (rf 5) (rf 7) (binD .Add)) (flN 5))
def s__law_sums_hold_9 (c : Str → List D → Option (D × List (Option D))) : Ex := (asgC (callC (cnA (vl (op2 (rf 4) (rf 7) (binD .Add))) (cnA (vl (rdN 2)) nlA)) c "_law_clips" [false, false]) (flN 8))
def s__law_sums_hold_10 (c : Str → List D → Option (D × List (Option D))) : Ex := (asgC (callC (cnA (vl (op2 (rf 3) (rf 7) (binD .Add))) (cnA (vl (rdN 1)) (cnA (vl (cs (.str "wrap"))) nlA))) c "fitted" [false, false, false]) (flN 3))
def s__law_sums_hold_11 (c : Str → List D → Option (D × List (Option D))) : Ex := (asgC (callC (cnA (vl (op2 (rf 4) (rf 7) (binD .Add))) (cnA (vl (rdN 1)) (cnA (vl (cs (.str "clip"))) nlA))) c "fitted" [false, false, false]) (flN 4))
def s__law_sums_hold_12 (c : Str → List D → Option (D × List (Option D))) : Ex := (retS (cs (.bl false)))
def s__law_sums_hold_13 (c : Str → List D → Option (D × List (Option D))) : Ex := (cndS (asT (op2 (vl (dispC (cnA (vl (rdN 4)) nlA) (.lst .own))) (rf 8) (cmT .NotEq))) (seqS (s__law_sums_hold_12 c) nxS) nxS)
def k__law_sums_hold_14 (c : Str → List D → Option (D × List (Option D))) : Ex := (seqS (s__law_sums_hold_5 c) (seqS (s__law_sums_hold_7 c) (seqS (s__law_sums_hold_8 c) (seqS (s__law_sums_hold_9 c) (seqS (s__law_sums_hold_10 c) (seqS (s__law_sums_hold_11 c) (seqS (s__law_sums_hold_13 c) nxS)))))))
def s__law_sums_hold_15 (c : Str → List D → Option (D × List (Option D))) : Ex := (forS (rg1 (op2 (vl (cs (.int 2))) (vl (callC (cnA (rf 0) (cnA (vl (cs (.int 8))) nlA)) c "_law_pick" [true, false])) (binD .Add))) (flN 6) (k__law_sums_hold_14 c))
def s__law_sums_hold_16 (c : Str → List D → Option (D × List (Option D))) : Ex := (retS (op2 (vl (dispC (cnA (vl (rdN 3)) nlA) (.lst .own))) (vl (callC (cnA (vl (rdN 5)) (cnA (vl (rdN 2)) nlA)) c "_law_wraps" [false, false])) (cmT .Eq)))
def b__law_sums_hold (c : Str → List D → Option (D × List (Option D))) : Ex := (seqS (s__law_sums_hold_1 c) (seqS (s__law_sums_hold_2 c) (seqS (s__law_sums_hold_3 c) (seqS (s__law_sums_hold_4 c) (seqS (s__law_sums_hold_15 c) (seqS (s__law_sums_hold_16 c) nxS))))))
theorem e__law_sums_hold (c : _) : exs T.deep (T.gc l__law_sums_hold.df c) (defBody l__law_sums_hold.st) = b__law_sums_hold c := by kernel_rfl
theorem c__law_sums_hold {k : Nat} {as : List D} (h : as.length = 2) : callD T (k + 1) "_law_sums_hold" as = finS 2 [0] (b__law_sums_hold (callD T k) (as.map some ++ List.replicate (9 - as.length) none)) := call_run (l := l__law_sums_hold) (by kernel_rfl) e__law_sums_hold h
def s_law_1 (c : Str → List D → Option (D × List (Option D))) : Ex := (asgC (callC (cnA (vl (rdN 0)) (cnA (vl (cs (.int 0))) nlA)) c "_law_jar" [false, false]) (flN 1))
def s_law_2 (c : Str → List D → Option (D × List (Option D))) : Ex := (asgC (op2 (vl (cs (.int 1))) (vl (callC (cnA (rf 1) (cnA (vl (cs (.int 6))) nlA)) c "_law_pick" [true, false])) (binD .Add)) (flN 2))
def s_law_3 (c : Str → List D → Option (D × List (Option D))) : Ex := (asgC (op2 (vl (cs (.int 1))) (vl (op2 (rf 2) (vl (cs (.int 1))) (binD .Sub))) (binD .LShift)) (flN 3))
def s_law_4 (c : Str → List D → Option (D × List (Option D))) : Ex := (retS (cs (.bl false)))
def s_law_5 (c : Str → List D → Option (D × List (Option D))) : Ex := (cndS (notC (asT (callC (cnA (vl (rdN 4)) (cnA (vl (rdN 2)) nlA)) c "_law_number_holds" [false, false]))) (seqS (s_law_4 c) nxS) nxS)
def k_law_6 (c : Str → List D → Option (D × List (Option D))) : Ex := (seqS (s_law_5 c) nxS)
def s_law_7 (c : Str → List D → Option (D × List (Option D))) : Ex := (forS (rg2 (op2 (vl (op2 (vl (op1 (vl (cs (.int 3))) negD)) (rf 3) (binD .Mult))) (vl (cs (.int 2))) (binD .Sub)) (op2 (vl (op2 (vl (cs (.int 3))) (rf 3) (binD .Mult))) (vl (cs (.int 2))) (binD .Add))) (flN 4) (k_law_6 c))
def s_law_8 (c : Str → List D → Option (D × List (Option D))) : Ex := (asgC (callC (cnA (vl (rdN 5)) nlA) c "range_of" [false]) (flN 6))
def s_law_9 (c : Str → List D → Option (D × List (Option D))) : Ex := (asgC (callC (cnA (vl (rdN 5)) nlA) c "_law_all_of" [false]) (flN 7))
def s_law_10 (c : Str → List D → Option (D × List (Option D))) : Ex := (retS (cs (.bl false)))
def s_law_11 (c : Str → List D → Option (D × List (Option D))) : Ex := (cndS (iteC (notC (asT (op1 (rf 6) (isT "tuple")))) (Ev.ret true) (asT (op2 (rf 6) (vl (dispC (cnA (vl (op2 (rf 7) (vl (cs (.int 0))) ixD)) (cnA (vl (op2 (rf 7) (vl (op1 (vl (cs (.int 1))) negD)) ixD)) nlA)) (fun ds => .tup (clrs ds)))) (cmT .NotEq)))) (seqS (s_law_10 c) nxS) nxS)
def s_law_12 (c : Str → List D → Option (D × List (Option D))) : Ex := (retS (cs (.bl false)))
def s_law_13 (c : Str → List D → Option (D × List (Option D))) : Ex := (cndS (asT (op2 (vl (compC (sqC (rdN 6)) (flN 10) (notC (asT (callC (cnA (vl (rdN 10)) nlA) c "_law_is_int" [false]))) (rdN 10) [10])) (vl (dispC nlA (.lst .own))) (cmT .NotEq))) (seqS (s_law_12 c) nxS) nxS)
def s_law_14 (c : Str → List D → Option (D × List (Option D))) : Ex := (retS (cs (.bl false)))
def s_law_15 (c : Str → List D → Option (D × List (Option D))) : Ex := (cndS (notC (asT (callC (cnA (vl (rdN 4)) (cnA (vl (rdN 5)) nlA)) c "_law_number_holds" [false, false]))) (seqS (s_law_14 c) nxS) nxS)
def k_law_16 (c : Str → List D → Option (D × List (Option D))) : Ex := (seqS (s_law_15 c) nxS)
def s_law_17 (c : Str → List D → Option (D × List (Option D))) : Ex := (forS (sqC (callC (cnA (vl (callC (cnA (vl (rdN 0)) (cnA (vl (rdN 5)) nlA)) c "_law_jar" [false, false])) (cnA (vl (rdN 5)) nlA)) c "_law_numbers" [true, false])) (flN 4) (k_law_16 c))
def k_law_18 (c : Str → List D → Option (D × List (Option D))) : Ex := (seqS (s_law_8 c) (seqS (s_law_9 c) (seqS (s_law_11 c) (seqS (s_law_13 c) (seqS (s_law_17 c) nxS)))))
def s_law_19 (c : Str → List D → Option (D × List (Option D))) : Ex := (forS (rg2 (cs (.int 1)) (cs (.int 7))) (flN 5) (k_law_18 c))
def s_law_20 (c : Str → List D → Option (D × List (Option D))) : Ex := (asgC (callC (cnA (vl (rdN 0)) (cnA (vl (cs (.int 7))) nlA)) c "_law_jar" [false, false]) (flN 8))
def s_law_21 (c : Str → List D → Option (D × List (Option D))) : Ex := (retS (cs (.bl false)))
def s_law_22 (c : Str → List D → Option (D × List (Option D))) : Ex := (cndS (notC (asT (callC (cnA (rf 8) (cnA (vl (op2 (vl (cs (.int 1))) (vl (callC (cnA (rf 8) (cnA (vl (cs (.int 6))) nlA)) c "_law_pick" [true, false])) (binD .Add))) nlA)) c "_law_sums_hold" [true, false]))) (seqS (s_law_21 c) nxS) nxS)
def k_law_23 (c : Str → List D → Option (D × List (Option D))) : Ex := (seqS (s_law_22 c) nxS)
def s_law_24 (c : Str → List D → Option (D × List (Option D))) : Ex := (forS (rg1 (cs (.int 3))) (flN 9) (k_law_23 c))
def s_law_25 (c : Str → List D → Option (D × List (Option D))) : Ex := (retS (op2 (vl (compC (sqC (dispC (cnA (vl (rdN 3)) (cnA (vl (op2 (vl (op1 (rf 3) negD)) (vl (cs (.int 1))) (binD .Sub))) nlA)) (.lst .own))) (flN 4) (Ev.ret true) (callC (cnA (vl (rdN 4)) (cnA (vl (rdN 2)) (cnA (vl (cs (.str "clip"))) nlA))) c "fitted" [false, false, false]) [4])) (vl (dispC (cnA (vl (op2 (rf 3) (vl (cs (.int 1))) (binD .Sub))) (cnA (vl (op1 (rf 3) negD)) nlA)) (.lst .own))) (cmT .Eq)))
def b_law (c : Str → List D → Option (D × List (Option D))) : Ex := (seqS (s_law_1 c) (seqS (s_law_2 c) (seqS (s_law_3 c) (seqS (s_law_7 c) (seqS (s_law_19 c) (seqS (s_law_20 c) (seqS (s_law_24 c) (seqS (s_law_25 c) nxS))))))))
theorem e_law (c : _) : exs T.deep (T.gc l_law.df c) (defBody l_law.st) = b_law c := by kernel_rfl
theorem c_law {k : Nat} {as : List D} (h : as.length = 1) : callD T (k + 1) "law" as = finS 1 [] (b_law (callD T k) (as.map some ++ List.replicate (11 - as.length) none)) := call_run (l := l_law) (by kernel_rfl) e_law h
end K12

namespace K12
open PySem PySem.Spec PyProof.Rows L2 PyD
abbrev R : PySem.W.OpenRow := PySem.W.OpenLaw.row rw
abbrev fa : List He.Fa := faOf lds free
abbrev fn : List He.DefD := lds.map LD.dd
abbrev hk : PySem.W.Hook := hookC 4 fa fn cons
def ob (s : PySem.W.SharedT) : AlC := obsC 4 fa fn cons (HandSHeadRun.getT s)
theorem ob_eq (s : PySem.W.SharedT) : ob s = hk.obs s.abs := obsC_eq (HandSHeadRun.getT_eq s)
theorem run (w : World) : HandSHeadRun.RunEq R (PySem.W.view R.prog [15]) hk ob 4000 nms w := by
  intro os
  kernel_rfl
theorem sc : allSc lds = true := by kernel_rfl
theorem bd : AllBd lds := by
  refine ⟨?_, ?_, ?_, ?_, ?_, ?_, ?_, ?_, ?_, ?_, ?_, ?_, ?_, ?_, trivial⟩
  all_goals first
    | exact fun _ _ _ _ _ _ us hl => match us, hl with | [], _ => rfl
    | exact fun _ _ _ _ _ _ us hl => match us, hl with | [_], _ => rfl
    | exact fun _ _ _ _ _ _ us hl => match us, hl with | [_, _], _ => rfl
    | exact fun _ _ _ _ _ _ us hl => match us, hl with | [_, _, _], _ => rfl
end K12

namespace K12
open PySem PySem.Spec PyProof.Rows L2 PyD
abbrev EN := List (Option D)
theorem divOk_of {b : Int} (h0 : 0 < b) (h1 : b < 2 ^ 62) : divOk b = true := by
  unfold divOk
  rw [Bool.and_eq_true, decide_eq_true_eq, decide_eq_true_eq]
  refine ⟨h0, ?_⟩
  have : b.natAbs < 2 ^ 62 := by omega
  have h2 : b.natAbs.log2 < 62 := (Nat.log2_lt (by omega)).mpr this
  omega
theorem mulOk_r {i j : Int} (h0 : -(2 ^ 64) < j) (h1 : j < 2 ^ 64) : mulOk i j = true := by
  unfold mulOk
  rw [Bool.or_eq_true, Bool.or_eq_true, decide_eq_true_eq, decide_eq_true_eq]
  exact .inr (.inl ⟨h0, h1⟩)
theorem mulOk_l {i j : Int} (h0 : -(2 ^ 64) < i) (h1 : i < 2 ^ 64) : mulOk i j = true := by
  unfold mulOk
  rw [Bool.or_eq_true, Bool.or_eq_true, decide_eq_true_eq, decide_eq_true_eq]
  exact .inl ⟨h0, h1⟩
theorem rn1 : List.range 1 = [0] := rfl
theorem rn2 : List.range 2 = [0, 1] := rfl
theorem rn3 : List.range 3 = [0, 1, 2] := rfl
theorem rn4 : List.range 4 = [0, 1, 2, 3] := rfl
theorem eqI (a b : Int) : eqD (.int a) (.int b) = some (decide (a = b)) := by
  simp [eqD, okD, toPy, PyData.eqv]
  exact Bool.beq_eq_decide_eq a b
theorem bl_int (i : Int) : blt "int" [.int i] = some (.int i) := by rfl
theorem bl_abs (i : Int) : blt "abs" [.int i] = some (.int (if i < 0 then -i else i)) := by rfl
theorem bl_len (o : Ow) (l : List D) : blt "len" [.lst o l] = some (.int l.length) := by rfl
/-! ### the jar -/
abbrev J (a b c : Int) : D := .lst .own [.int a, .int b, .int c]
theorem pick_ok {k : Nat} {a b c m : Int} (c0 : 0 ≤ c) (c1 : c < 2 ^ 60) (m0 : 0 < m) (m1 : m < 2 ^ 62) : ∃ a' b' c' r, callD T (k + 1) "_law_pick" [J a b c, .int m] = some (.int r, [some (J a' b' c'), none]) ∧ 0 ≤ r ∧ r < m ∧ c ≤ c' ∧ c' ≤ c + 1 := by
  have hd : divOk m = true := divOk_of m0 m1
  have hd2 : divOk 37 = true := divOk_of (by omega) (by omega)
  have hm1 : ∀ x, mulOk x 69621 = true := fun x => mulOk_r (by omega) (by omega)
  have hm2 : ∀ x, mulOk x 31 = true := fun x => mulOk_r (by omega) (by omega)
  have hm3 : mulOk (c + 1) (c + 1) = true := mulOk_r (by omega) (by omega)
  rw [c__law_pick rfl]
  by_cases ha : 0 < a
  · refine ⟨a / m, b, c, a % m, ?_, Int.emod_nonneg a (by omega), Int.emod_lt_of_pos a m0, by omega, by omega⟩
    simp [b__law_pick, finS, seqS, retS, rnS, nxS, cndS, asgC, flN, flT, flTs, callC, callA, sealA, cnA, nlA, rdN, looks, takes, backs, refsOf, clr, clrs, tkS, op2, op1, negD, vl, rf, look, cs, ixD, atI, ixN, binD, flat, flats, outL, asT, cmT, cmpD, iteC, notC, chainC, Ev.ret, bltC, bl_int, bl_abs, bl_len, subC, setIx, dispC, isT, isTy, eqI, blC, andC, orC, appC, forS, rg1, rg2, sqC, srcOf, rn1, rn2, rn3, rn4, line, parC, ha, m0, hd]
  · refine ⟨a, (b * 69621 + (c + 1) * (c + 1) * 31 + 917) % 2147483647, c + 1, ((b * 69621 + (c + 1) * (c + 1) * 31 + 917) % 2147483647) / 37 % m, ?_, Int.emod_nonneg _ (by omega), Int.emod_lt_of_pos _ m0, by omega, by omega⟩
    simp [b__law_pick, finS, seqS, retS, rnS, nxS, cndS, asgC, flN, flT, flTs, callC, callA, sealA, cnA, nlA, rdN, looks, takes, backs, refsOf, clr, clrs, tkS, op2, op1, negD, vl, rf, look, cs, ixD, atI, ixN, binD, flat, flats, outL, asT, cmT, cmpD, iteC, notC, chainC, Ev.ret, bltC, bl_int, bl_abs, bl_len, subC, setIx, dispC, isT, isTy, eqI, blC, andC, orC, appC, forS, rg1, rg2, sqC, srcOf, rn1, rn2, rn3, rn4, line, parC, ha, m0, hd, hd2, hm1, hm2, hm3]
theorem ix_ns {o : Ow} {ns : List Int} {i : Int} (h0 : 0 ≤ i) (h1 : i < ns.length) : ∃ v, ixD (.lst o (ns.map .int)) (.int i) = some (.int v) := by
  have hl : i.toNat < ns.length := by omega
  refine ⟨ns[i.toNat], ?_⟩
  have h2 : ¬ i < 0 := by omega
  simp [ixD, atI, ixN, h0, h1, h2, flat, List.getElem?_eq_getElem hl]
def b__law_jar_2 : Ex := 
  (seqS (asgC (iteC (asT (op2 (rf 2) (vl (cs (.int 0))) (cmT .GtE))) (rdN 2) (op2 (vl (cs (.int 1))) (vl (op2 (vl (cs (.int 3))) (rf 2) (binD .Mult))) (binD .Sub))) (flN 3)) 
  (seqS (asgC (op2 (vl (bltC (cnA (vl (op2 (vl (op2 (vl (op2 (rf 3) (vl (cs (.int 48271))) (binD .Mult))) (vl (op2 (rf 1) (vl (cs (.int 7919))) (binD .Mult))) (binD .Add))) (vl (cs (.int 12345))) (binD .Add))) nlA) (blt "int"))) (vl (cs (.int 2147483647))) (binD .Mod)) (flN 4)) 
  (seqS (asgC (op2 (vl (bltC (cnA (vl (op2 (vl (op2 (vl (op2 (rf 4) (vl (cs (.int 16807))) (binD .Mult))) (vl (op2 (rf 1) (vl (cs (.int 104729))) (binD .Mult))) (binD .Add))) (vl (cs (.int 77))) (binD .Add))) nlA) (blt "int"))) (vl (cs (.int 2147483629))) (binD .Mod)) (flN 4)) 
  (seqS (cndS (asT (op2 (rf 3) (vl (op2 (vl (cs (.int 10))) (vl (cs (.int 18))) (binD .Pow))) (cmT .GtE))) 
    (seqS (retS (dispC (cnA (vl (rdN 3)) (cnA (vl (rdN 4)) (cnA (vl (cs (.int 0))) nlA))) (.lst .own))) nxS) nxS) 
  (seqS (retS (dispC (cnA (vl (cs (.int 0))) (cnA (vl (rdN 4)) (cnA (vl (cs (.int 0))) nlA))) (.lst .own))) nxS)))))
theorem jar_ok {k : Nat} {ns : List Int} {i : Int} (h0 : 0 ≤ i) (h1 : i < 100) : ∃ a b, callD T (k + 1) "_law_jar" [.lst .lk (ns.map .int), .int i] = some (J a b 0, [none, none]) := by
  have hm1 : ∀ x, mulOk x 48271 = true := fun x => mulOk_r (by omega) (by omega)
  have hm2 : ∀ x, mulOk x 7919 = true := fun x => mulOk_r (by omega) (by omega)
  have hm3 : ∀ x, mulOk x 16807 = true := fun x => mulOk_r (by omega) (by omega)
  have hm4 : ∀ x, mulOk x 104729 = true := fun x => mulOk_r (by omega) (by omega)
  have hm5 : ∀ x, mulOk 3 x = true := fun x => mulOk_l (by omega) (by omega)
  have hp : powOk 10 18 = true := by decide
  rw [c__law_jar rfl]
  have fin : ∀ v : Int, ∃ a b, finS 2 [] (b__law_jar_2 [some (.lst .lk (ns.map .int)), some (.int i), some (.int v), none, none]) = some (J a b 0, [none, none]) := fun v => by
    by_cases hv : 0 ≤ v
    · by_cases hw : 1000000000000000000 ≤ v
      · exact ⟨v, ((v * 48271 + i * 7919 + 12345) % 2147483647 * 16807 + i * 104729 + 77) % 2147483629, by simp [b__law_jar_2, finS, seqS, retS, rnS, nxS, cndS, asgC, flN, flT, flTs, callC, callA, sealA, cnA, nlA, rdN, looks, takes, backs, refsOf, clr, clrs, tkS, op2, op1, negD, vl, rf, look, cs, ixD, atI, ixN, binD, flat, flats, outL, asT, cmT, cmpD, iteC, notC, chainC, Ev.ret, bltC, bl_int, bl_abs, bl_len, subC, setIx, dispC, isT, isTy, eqI, blC, andC, orC, appC, forS, rg1, rg2, sqC, srcOf, rn1, rn2, rn3, rn4, line, parC, hm1, hm2, hm3, hm4, hm5, hp, hv, hw]⟩
      · exact ⟨0, ((v * 48271 + i * 7919 + 12345) % 2147483647 * 16807 + i * 104729 + 77) % 2147483629, by simp [b__law_jar_2, finS, seqS, retS, rnS, nxS, cndS, asgC, flN, flT, flTs, callC, callA, sealA, cnA, nlA, rdN, looks, takes, backs, refsOf, clr, clrs, tkS, op2, op1, negD, vl, rf, look, cs, ixD, atI, ixN, binD, flat, flats, outL, asT, cmT, cmpD, iteC, notC, chainC, Ev.ret, bltC, bl_int, bl_abs, bl_len, subC, setIx, dispC, isT, isTy, eqI, blC, andC, orC, appC, forS, rg1, rg2, sqC, srcOf, rn1, rn2, rn3, rn4, line, parC, hm1, hm2, hm3, hm4, hm5, hp, hv, hw]⟩
    · by_cases hw : 1000000000000000000 ≤ 1 - 3 * v
      · exact ⟨1 - 3 * v, (((1 - 3 * v) * 48271 + i * 7919 + 12345) % 2147483647 * 16807 + i * 104729 + 77) % 2147483629, by simp [b__law_jar_2, finS, seqS, retS, rnS, nxS, cndS, asgC, flN, flT, flTs, callC, callA, sealA, cnA, nlA, rdN, looks, takes, backs, refsOf, clr, clrs, tkS, op2, op1, negD, vl, rf, look, cs, ixD, atI, ixN, binD, flat, flats, outL, asT, cmT, cmpD, iteC, notC, chainC, Ev.ret, bltC, bl_int, bl_abs, bl_len, subC, setIx, dispC, isT, isTy, eqI, blC, andC, orC, appC, forS, rg1, rg2, sqC, srcOf, rn1, rn2, rn3, rn4, line, parC, hm1, hm2, hm3, hm4, hm5, hp, hv, hw]⟩
      · exact ⟨0, (((1 - 3 * v) * 48271 + i * 7919 + 12345) % 2147483647 * 16807 + i * 104729 + 77) % 2147483629, by simp [b__law_jar_2, finS, seqS, retS, rnS, nxS, cndS, asgC, flN, flT, flTs, callC, callA, sealA, cnA, nlA, rdN, looks, takes, backs, refsOf, clr, clrs, tkS, op2, op1, negD, vl, rf, look, cs, ixD, atI, ixN, binD, flat, flats, outL, asT, cmT, cmpD, iteC, notC, chainC, Ev.ret, bltC, bl_int, bl_abs, bl_len, subC, setIx, dispC, isT, isTy, eqI, blC, andC, orC, appC, forS, rg1, rg2, sqC, srcOf, rn1, rn2, rn3, rn4, line, parC, hm1, hm2, hm3, hm4, hm5, hp, hv, hw]⟩
  by_cases hl : i < ns.length
  · obtain ⟨v, hv⟩ := ix_ns (o := .lk) h0 hl
    obtain ⟨a, b, e⟩ := fin v
    refine ⟨a, b, ?_⟩
    rw [← e]
    simp [b__law_jar, b__law_jar_2, nxS, seqS, cndS, asgC, flN, cnA, nlA, op2, vl, rf, look, looks, cs, asT, cmT, cmpD, bltC, bl_int, bl_len, hv, hl]
  · obtain ⟨a, b, e⟩ := fin 0
    refine ⟨a, b, ?_⟩
    rw [← e]
    simp [b__law_jar, b__law_jar_2, nxS, seqS, cndS, asgC, flN, cnA, nlA, op2, vl, rf, look, looks, cs, asT, cmT, cmpD, bltC, bl_int, bl_len, hl]
/-! ### loops -/
theorem forL_inv {fill : D → EN → Option EN} {body : Ex} {P : Nat → EN → Prop} {N : Nat} : ∀ (items : List D) (n : Nat) (δ : EN), (∀ d ∈ items, ∀ n δ, n < N → P n δ → ∃ δ1 δ2, fill d δ = some δ1 ∧ body δ1 = some (.nx, δ2) ∧ P (n + 1) δ2) → n + items.length ≤ N → P n δ →
    ∃ δ', forL fill body items δ = some (.nx, δ') ∧ P (n + items.length) δ'
  | [], n, δ, _, _, h => ⟨δ, rfl, h⟩
  | d :: ds, n, δ, h, hN, p => by
    rw [List.length_cons] at hN
    obtain ⟨δ1, δ2, e1, e2, p2⟩ := h d (by simp) n δ (by omega) p
    obtain ⟨δ', e3, p3⟩ := forL_inv ds (n + 1) δ2 (fun d hd => h d (List.mem_cons_of_mem _ hd)) (by omega) p2
    refine ⟨δ', ?_, by rw [List.length_cons, show n + (ds.length + 1) = n + 1 + ds.length by omega]; exact p3⟩
    simp only [forL, e1, e2]
    exact e3
theorem rng_mem {lo : Int} {n : Nat} {d : D} (h : d ∈ (Src.rng lo n).items) : ∃ i, d = .int i ∧ lo ≤ i ∧ i < lo + n := by
  unfold Src.items at h
  obtain ⟨j, hj, rfl⟩ := List.mem_map.mp h
  have := List.mem_range.mp hj
  exact ⟨_, rfl, by omega, by omega⟩
theorem rng_len {lo : Int} {n : Nat} : (Src.rng lo n).items.length = n := by simp [Src.items]
theorem is_int {k : Nat} {r : Int} : callD T (k + 1) "_law_is_int" [.int r] = some (.bl true, [none]) := by
  rw [c__law_is_int rfl]
  simp [b__law_is_int, finS, seqS, retS, rnS, nxS, cndS, asgC, flN, flT, flTs, callC, callA, sealA, cnA, nlA, rdN, looks, takes, backs, refsOf, clr, clrs, tkS, op2, op1, negD, vl, rf, look, cs, ixD, atI, ixN, binD, flat, flats, outL, asT, cmT, cmpD, iteC, notC, chainC, Ev.ret, bltC, bl_int, bl_abs, bl_len, subC, setIx, dispC, isT, isTy, eqI, blC, andC, orC, appC, forS, rg1, rg2, sqC, srcOf, rn1, rn2, rn3, rn4, line, parC]
/-! ### a great number -/
def PG' (n : Nat) (δ : EN) : Prop := ∃ a b c v x2, δ = [some (J a b c), some (.int v), x2] ∧ 0 ≤ c ∧ c < 2 ^ 58 + n
theorem great_ok {k : Nat} {a b c : Int} (c0 : 0 ≤ c) (c1 : c < 2 ^ 57) : ∃ a' b' c' n, callD T (k + 2) "_law_great" [J a b c] = some (.int n, [some (J a' b' c')]) ∧ c ≤ c' ∧ c' ≤ c + 5 := by
  have hm : ∀ x, mulOk x 10000000 = true := fun x => mulOk_r (by omega) (by omega)
  obtain ⟨a1, b1, d1, r, e1, r0, r1, x1, y1⟩ := pick_ok (k := k) (a := a) (b := b) (m := 4) c0 (by omega) (by omega) (by omega)
  obtain ⟨a2, b2, d2, s, e2, s0, s1, x2, y2⟩ := pick_ok (k := k) (a := a1) (b := b1) (c := d1) (m := 10000000) (by omega) (by omega) (by omega) (by omega)
  obtain ⟨a3, b3, d3, u, e3, u0, u1, x3, y3⟩ := pick_ok (k := k) (a := a2) (b := b2) (c := d2) (m := 10000000) (by omega) (by omega) (by omega) (by omega)
  obtain ⟨a4, b4, d4, v, e4, v0, v1, x4, y4⟩ := pick_ok (k := k) (a := a3) (b := b3) (c := d3) (m := 10000000) (by omega) (by omega) (by omega) (by omega)
  obtain ⟨a5, b5, d5, z, e5, z0, z1, x5, y5⟩ := pick_ok (k := k) (a := a4) (b := b4) (c := d4) (m := 10000000) (by omega) (by omega) (by omega) (by omega)
  rw [c__law_great rfl]
  have hr : r = 0 ∨ r = 1 ∨ r = 2 ∨ r = 3 := by omega
  rcases hr with rfl | rfl | rfl | rfl
  · refine ⟨a2, b2, d2, s, ?_, by omega, by omega⟩
    simp [b__law_great, finS, seqS, retS, rnS, nxS, cndS, asgC, flN, flT, flTs, callC, callA, sealA, cnA, nlA, rdN, looks, takes, backs, refsOf, clr, clrs, tkS, op2, op1, negD, vl, rf, look, cs, ixD, atI, ixN, binD, flat, flats, outL, asT, cmT, cmpD, iteC, notC, chainC, Ev.ret, bltC, bl_int, bl_abs, bl_len, subC, setIx, dispC, isT, isTy, eqI, blC, andC, orC, appC, forS, rg1, rg2, sqC, srcOf, rn1, rn2, rn3, rn4, line, parC, e1, e2, rngOk, Src.items, forL, hm, List.range_succ]
  · refine ⟨a3, b3, d3, s * 10000000 + u, ?_, by omega, by omega⟩
    simp [b__law_great, finS, seqS, retS, rnS, nxS, cndS, asgC, flN, flT, flTs, callC, callA, sealA, cnA, nlA, rdN, looks, takes, backs, refsOf, clr, clrs, tkS, op2, op1, negD, vl, rf, look, cs, ixD, atI, ixN, binD, flat, flats, outL, asT, cmT, cmpD, iteC, notC, chainC, Ev.ret, bltC, bl_int, bl_abs, bl_len, subC, setIx, dispC, isT, isTy, eqI, blC, andC, orC, appC, forS, rg1, rg2, sqC, srcOf, rn1, rn2, rn3, rn4, line, parC, e1, e2, e3, rngOk, Src.items, forL, hm, List.range_succ]
  · refine ⟨a4, b4, d4, (s * 10000000 + u) * 10000000 + v, ?_, by omega, by omega⟩
    simp [b__law_great, finS, seqS, retS, rnS, nxS, cndS, asgC, flN, flT, flTs, callC, callA, sealA, cnA, nlA, rdN, looks, takes, backs, refsOf, clr, clrs, tkS, op2, op1, negD, vl, rf, look, cs, ixD, atI, ixN, binD, flat, flats, outL, asT, cmT, cmpD, iteC, notC, chainC, Ev.ret, bltC, bl_int, bl_abs, bl_len, subC, setIx, dispC, isT, isTy, eqI, blC, andC, orC, appC, forS, rg1, rg2, sqC, srcOf, rn1, rn2, rn3, rn4, line, parC, e1, e2, e3, e4, rngOk, Src.items, forL, hm, List.range_succ]
  · refine ⟨a5, b5, d5, ((s * 10000000 + u) * 10000000 + v) * 10000000 + z, ?_, by omega, by omega⟩
    simp [b__law_great, finS, seqS, retS, rnS, nxS, cndS, asgC, flN, flT, flTs, callC, callA, sealA, cnA, nlA, rdN, looks, takes, backs, refsOf, clr, clrs, tkS, op2, op1, negD, vl, rf, look, cs, ixD, atI, ixN, binD, flat, flats, outL, asT, cmT, cmpD, iteC, notC, chainC, Ev.ret, bltC, bl_int, bl_abs, bl_len, subC, setIx, dispC, isT, isTy, eqI, blC, andC, orC, appC, forS, rg1, rg2, sqC, srcOf, rn1, rn2, rn3, rn4, line, parC, e1, e2, e3, e4, e5, rngOk, Src.items, forL, hm, List.range_succ]
/-! ### figures and half the span -/
theorem bAdd (i j : Int) : binD .Add (.int i) (.int j) = some (.int (i + j)) := rfl
theorem bSub (i j : Int) : binD .Sub (.int i) (.int j) = some (.int (i - j)) := rfl
theorem bMul (i j : Int) : binD .Mult (.int i) (.int j) = if mulOk i j then some (.int (i * j)) else none := rfl
theorem bDiv (i j : Int) : binD .FloorDiv (.int i) (.int j) = if divOk j then some (.int (i / j)) else none := rfl
theorem bMod (i j : Int) : binD .Mod (.int i) (.int j) = if decide (0 < j) then some (.int (i % j)) else none := rfl
theorem bAnd (i j : Int) : binD .BitAnd (.int i) (.int j) = some (.int (Builtin.bitAnd i j)) := rfl
theorem bLst (o p : Ow) (a b : List D) : binD .Add (.lst o a) (.lst p b) = if notLk o && notLk p && flats a && flats b && decide (a.length + b.length ≤ line) then some (.lst .own (a ++ b)) else none := rfl
def Fh (f h : Int) : Prop := (f = 1 ∧ h = 1) ∨ (f = 2 ∧ h = 2) ∨ (f = 3 ∧ h = 4) ∨ (f = 4 ∧ h = 8) ∨ (f = 5 ∧ h = 16) ∨ (f = 6 ∧ h = 32)
theorem Fh.of {f : Int} (h0 : 1 ≤ f) (h1 : f ≤ 6) : ∃ h, Fh f h := by
  have : f = 1 ∨ f = 2 ∨ f = 3 ∨ f = 4 ∨ f = 5 ∨ f = 6 := by omega
  rcases this with rfl | rfl | rfl | rfl | rfl | rfl
  · exact ⟨1, by simp [Fh]⟩
  · exact ⟨2, by simp [Fh]⟩
  · exact ⟨4, by simp [Fh]⟩
  · exact ⟨8, by simp [Fh]⟩
  · exact ⟨16, by simp [Fh]⟩
  · exact ⟨32, by simp [Fh]⟩
theorem Fh.pos {f h : Int} (F : Fh f h) : 1 ≤ h ∧ h ≤ 32 := by unfold Fh at F; omega
theorem lsh1 {f h : Int} (F : Fh f h) : binD .LShift (.int 1) (.int (f - 1)) = some (.int h) := by
  rcases F with ⟨rfl, rfl⟩ | ⟨rfl, rfl⟩ | ⟨rfl, rfl⟩ | ⟨rfl, rfl⟩ | ⟨rfl, rfl⟩ | ⟨rfl, rfl⟩ <;> rfl
theorem lsh0 {f h : Int} (F : Fh f h) : binD .LShift (.int 1) (.int f) = some (.int (2 * h)) := by
  rcases F with ⟨rfl, rfl⟩ | ⟨rfl, rfl⟩ | ⟨rfl, rfl⟩ | ⟨rfl, rfl⟩ | ⟨rfl, rfl⟩ | ⟨rfl, rfl⟩ <;> rfl
theorem mask_and {x : Int} (k : Nat) : Builtin.bitAnd x (2 ^ k - 1) = x % 2 ^ k := by
  by_cases hx : 0 ≤ x
  · exact Bits.bitAnd_mask k hx
  · obtain ⟨m, rfl⟩ : ∃ m : Nat, x = -(m : Int) - 1 := ⟨(-x - 1).toNat, by omega⟩
    have hp : (0 : Int) < 2 ^ k := by exact Int.pow_pos (by decide)
    have hpn : (1 : Nat) ≤ 2 ^ k := Nat.one_le_two_pow
    have e0 : ((2 : Int) ^ k - 1).toNat = 2 ^ k - 1 := by
      have : ((2 : Int) ^ k - 1) = ((2 ^ k - 1 : Nat) : Int) := by
        rw [Int.natCast_sub hpn]; simp
      rw [this]; simp
    have e1 : (Builtin.bitNot (-(m : Int) - 1)).toNat = m := by
      unfold Builtin.bitNot
      omega
    unfold Builtin.bitAnd
    have d0 : decide (0 ≤ -(m : Int) - 1) = false := by simp; omega
    have d1 : decide (0 ≤ (2 : Int) ^ k - 1) = true := by simp; omega
    rw [d0, d1]
    simp only [e0, e1]
    rw [Nat.and_comm, Nat.and_two_pow_sub_one_eq_mod]
    have hm : m % 2 ^ k < 2 ^ k := Nat.mod_lt _ (by omega)
    have hm2 : ((m % 2 ^ k : Nat) : Int) = (m : Int) % 2 ^ k := by simp
    have h3 : (-(m : Int) - 1) % 2 ^ k = 2 ^ k - 1 - (m : Int) % 2 ^ k := by
      have h4 := Int.emod_add_mul_ediv (m : Int) (2 ^ k)
      have h5 := Int.emod_nonneg (m : Int) (show (2 : Int) ^ k ≠ 0 by omega)
      have h6 := Int.emod_lt_of_pos (m : Int) hp
      have h7 : -(m : Int) - 1 = (2 ^ k - 1 - (m : Int) % 2 ^ k) + 2 ^ k * (-((m : Int) / 2 ^ k) - 1) := by
        rw [Int.mul_sub, Int.mul_neg]; omega
      rw [h7, Int.add_mul_emod_self_left]
      exact Int.emod_eq_of_lt (by omega) (by omega)
    rw [h3, hm2]
theorem maskF {f h x : Int} (F : Fh f h) : Builtin.bitAnd x (2 * h - 1) = x % (2 * h) := by
  rcases F with ⟨rfl, rfl⟩ | ⟨rfl, rfl⟩ | ⟨rfl, rfl⟩ | ⟨rfl, rfl⟩ | ⟨rfl, rfl⟩ | ⟨rfl, rfl⟩
  · exact mask_and 1
  · exact mask_and 2
  · exact mask_and 3
  · exact mask_and 4
  · exact mask_and 5
  · exact mask_and 6
/-! ### the program -/
section
variable {k : Nat} {f h n : Int}
theorem range_of_ok (F : Fh f h) : callD T (k + 1) "range_of" [.int f] = some (.tup [.int (-h), .int (h - 1)], [none]) := by
  have l := lsh1 F
  rw [c_range_of rfl]
  simp [b_range_of, finS, seqS, retS, rnS, nxS, cndS, asgC, flN, flT, flTs, callC, callA, sealA, cnA, nlA, rdN, looks, takes, backs, refsOf, clr, clrs, tkS, op2, op1, negD, vl, rf, look, cs, ixD, atI, ixN, bAdd, bSub, bMul, bDiv, bMod, bAnd, flat, flats, outL, asT, cmT, cmpD, iteC, notC, chainC, Ev.ret, bltC, bl_int, bl_abs, bl_len, subC, setIx, dispC, isT, isTy, eqI, blC, andC, orC, appC, forS, rg1, rg2, sqC, srcOf, rn1, rn2, rn3, rn4, line, parC, l]
theorem fits_ok (F : Fh f h) : callD T (k + 2) "fits" [.int n, .int f] = some (.bl (decide (-h ≤ n) && decide (n ≤ h - 1)), [none, none]) := by
  rw [c_fits rfl]
  by_cases h1 : -h ≤ n
  · simp [b_fits, finS, seqS, retS, rnS, nxS, cndS, asgC, flN, flT, flTs, callC, callA, sealA, cnA, nlA, rdN, looks, takes, backs, refsOf, clr, clrs, tkS, op2, op1, negD, vl, rf, look, cs, ixD, atI, ixN, bAdd, bSub, bMul, bDiv, bMod, bAnd, flat, flats, outL, asT, cmT, cmpD, iteC, notC, chainC, Ev.ret, bltC, bl_int, bl_abs, bl_len, subC, setIx, dispC, isT, isTy, eqI, blC, andC, orC, appC, forS, rg1, rg2, sqC, srcOf, rn1, rn2, rn3, rn4, line, parC, range_of_ok F, h1]
  · simp [b_fits, finS, seqS, retS, rnS, nxS, cndS, asgC, flN, flT, flTs, callC, callA, sealA, cnA, nlA, rdN, looks, takes, backs, refsOf, clr, clrs, tkS, op2, op1, negD, vl, rf, look, cs, ixD, atI, ixN, bAdd, bSub, bMul, bDiv, bMod, bAnd, flat, flats, outL, asT, cmT, cmpD, iteC, notC, chainC, Ev.ret, bltC, bl_int, bl_abs, bl_len, subC, setIx, dispC, isT, isTy, eqI, blC, andC, orC, appC, forS, rg1, rg2, sqC, srcOf, rn1, rn2, rn3, rn4, line, parC, range_of_ok F, h1]
def wr (h n : Int) : Int := (n + h) % (2 * h) - h
def cl (h n : Int) : Int := if n < -h then -h else if n ≤ h - 1 then n else h - 1
theorem s_ww : eqD (.str "wrap") (.str "wrap") = some true := by kernel_rfl
theorem s_cw : eqD (.str "clip") (.str "wrap") = some false := by kernel_rfl
theorem wr_in (h0 : 1 ≤ h) (h1 : -h ≤ n) (h2 : n ≤ h - 1) : wr h n = n := by
  unfold wr
  rw [Int.emod_eq_of_lt (by omega) (by omega)]
  omega
theorem wrap_ok (F : Fh f h) : callD T (k + 2) "fitted" [.int n, .int f, .str "wrap"] = some (.int (wr h n), [none, none, none]) := by
  have hp := F.pos
  have l := lsh0 F
  have m := maskF (x := n - -h) F
  have m' : Builtin.bitAnd (n + h) (2 * h - 1) = (n + h) % (2 * h) := maskF F
  rw [c_fitted rfl]
  by_cases h1 : -h ≤ n
  · by_cases h2 : n ≤ h - 1
    · rw [wr_in (by omega) h1 h2]
      simp [b_fitted, finS, seqS, retS, rnS, nxS, cndS, asgC, flN, flT, flTs, callC, callA, sealA, cnA, nlA, rdN, looks, takes, backs, refsOf, clr, clrs, tkS, op2, op1, negD, vl, rf, look, cs, ixD, atI, ixN, bAdd, bSub, bMul, bDiv, bMod, bAnd, flat, flats, outL, asT, cmT, cmpD, iteC, notC, chainC, Ev.ret, bltC, bl_int, bl_abs, bl_len, subC, setIx, dispC, isT, isTy, eqI, blC, andC, orC, appC, forS, rg1, rg2, sqC, srcOf, rn1, rn2, rn3, rn4, line, parC, range_of_ok F, h1, h2]
    · simp [b_fitted, finS, seqS, retS, rnS, nxS, cndS, asgC, flN, flT, flTs, callC, callA, sealA, cnA, nlA, rdN, looks, takes, backs, refsOf, clr, clrs, tkS, op2, op1, negD, vl, rf, look, cs, ixD, atI, ixN, bAdd, bSub, bMul, bDiv, bMod, bAnd, flat, flats, outL, asT, cmT, cmpD, iteC, notC, chainC, Ev.ret, bltC, bl_int, bl_abs, bl_len, subC, setIx, dispC, isT, isTy, eqI, blC, andC, orC, appC, forS, rg1, rg2, sqC, srcOf, rn1, rn2, rn3, rn4, line, parC, range_of_ok F, h1, h2, s_ww, l, m', wr]
      omega
  · simp [b_fitted, finS, seqS, retS, rnS, nxS, cndS, asgC, flN, flT, flTs, callC, callA, sealA, cnA, nlA, rdN, looks, takes, backs, refsOf, clr, clrs, tkS, op2, op1, negD, vl, rf, look, cs, ixD, atI, ixN, bAdd, bSub, bMul, bDiv, bMod, bAnd, flat, flats, outL, asT, cmT, cmpD, iteC, notC, chainC, Ev.ret, bltC, bl_int, bl_abs, bl_len, subC, setIx, dispC, isT, isTy, eqI, blC, andC, orC, appC, forS, rg1, rg2, sqC, srcOf, rn1, rn2, rn3, rn4, line, parC, range_of_ok F, h1, s_ww, l, m', wr]
    omega
theorem clip_ok (F : Fh f h) : callD T (k + 2) "fitted" [.int n, .int f, .str "clip"] = some (.int (cl h n), [none, none, none]) := by
  have hp := F.pos
  rw [c_fitted rfl]
  unfold cl
  by_cases h1 : -h ≤ n
  · have h3 : ¬ n < -h := by omega
    by_cases h2 : n ≤ h - 1
    · simp [b_fitted, finS, seqS, retS, rnS, nxS, cndS, asgC, flN, flT, flTs, callC, callA, sealA, cnA, nlA, rdN, looks, takes, backs, refsOf, clr, clrs, tkS, op2, op1, negD, vl, rf, look, cs, ixD, atI, ixN, bAdd, bSub, bMul, bDiv, bMod, bAnd, flat, flats, outL, asT, cmT, cmpD, iteC, notC, chainC, Ev.ret, bltC, bl_int, bl_abs, bl_len, subC, setIx, dispC, isT, isTy, eqI, blC, andC, orC, appC, forS, rg1, rg2, sqC, srcOf, rn1, rn2, rn3, rn4, line, parC, range_of_ok F, h1, h2, h3]
    · simp [b_fitted, finS, seqS, retS, rnS, nxS, cndS, asgC, flN, flT, flTs, callC, callA, sealA, cnA, nlA, rdN, looks, takes, backs, refsOf, clr, clrs, tkS, op2, op1, negD, vl, rf, look, cs, ixD, atI, ixN, bAdd, bSub, bMul, bDiv, bMod, bAnd, flat, flats, outL, asT, cmT, cmpD, iteC, notC, chainC, Ev.ret, bltC, bl_int, bl_abs, bl_len, subC, setIx, dispC, isT, isTy, eqI, blC, andC, orC, appC, forS, rg1, rg2, sqC, srcOf, rn1, rn2, rn3, rn4, line, parC, range_of_ok F, h1, h2, h3, s_cw]
  · have h3 : n < -h := by omega
    simp [b_fitted, finS, seqS, retS, rnS, nxS, cndS, asgC, flN, flT, flTs, callC, callA, sealA, cnA, nlA, rdN, looks, takes, backs, refsOf, clr, clrs, tkS, op2, op1, negD, vl, rf, look, cs, ixD, atI, ixN, bAdd, bSub, bMul, bDiv, bMod, bAnd, flat, flats, outL, asT, cmT, cmpD, iteC, notC, chainC, Ev.ret, bltC, bl_int, bl_abs, bl_len, subC, setIx, dispC, isT, isTy, eqI, blC, andC, orC, appC, forS, rg1, rg2, sqC, srcOf, rn1, rn2, rn3, rn4, line, parC, range_of_ok F, h1, h3, s_cw]
end
end K12

namespace K12
open PySem PySem.Spec PyProof.Rows L2 PyD
/-! ### lists of integers -/
abbrev zs (L : List Int) : List D := L.map D.int
theorem clrs_ints : ∀ L : List Int, clrs (zs L) = zs L
  | [] => rfl
  | x :: L => by
    show clr (.int x) :: clrs (zs L) = _
    rw [clrs_ints L]
    rfl
theorem flats_ints : ∀ L : List Int, flats (zs L) = true
  | [] => rfl
  | x :: L => by
    show (flat (.int x) && flats (zs L)) = true
    rw [flats_ints L]
    rfl
theorem intsD_ints : ∀ L : List Int, intsD (zs L) = some L
  | [] => rfl
  | x :: L => by
    show (intsD (zs L)).map (x :: ·) = _
    rw [intsD_ints L]
    rfl
theorem okDs_ints : ∀ (n : Nat) (L : List Int), okDs n (zs L) = true
  | n, [] => by cases n <;> rfl
  | n, x :: L => by
    have := okDs_ints n L
    cases n <;> (simp only [zs, List.map_cons, okDs, okD, Bool.true_and]; exact this)
theorem eqvs_ints : ∀ L M : List Int, PyData.eqvAll (toPys (zs L)) (toPys (zs M)) = decide (L = M)
  | [], [] => rfl
  | [], y :: M => rfl
  | x :: L, [] => rfl
  | x :: L, y :: M => by
    have ih := eqvs_ints L M
    simp only [zs, List.map_cons, toPys, toPy, PyData.eqvAll, PyData.eqv]
    rw [ih, Bool.beq_eq_decide_eq]
    by_cases h1 : x = y <;> by_cases h2 : L = M <;> simp [h1, h2]
theorem eqL (o p : Ow) (L M : List Int) : eqD (.lst o (zs L)) (.lst p (zs M)) = some (decide (L = M)) := by
  unfold eqD
  have h1 : okD 60 (.lst o (zs L)) = true := okDs_ints 59 L
  have h2 : okD 60 (.lst p (zs M)) = true := okDs_ints 59 M
  rw [h1, h2]
  show some (PyData.eqv (.list (toPys (zs L))) (.list (toPys (zs M)))) = _
  rw [← eqvs_ints L M]
  rfl
theorem eqB (a b : Bool) : eqD (.bl a) (.bl b) = some (a == b) := by
  cases a <;> cases b <;> rfl
theorem scaDs_ints : ∀ L : List Int, scaDs (zs L) = some (L.map V.int)
  | [] => rfl
  | x :: L => by
    simp only [zs, List.map_cons, scaDs, scaD]
    rw [show scaDs (L.map D.int) = some (L.map V.int) from scaDs_ints L]
theorem in_ints (o : Ow) (n : Int) (L : List Int) : inD (.int n) (.lst o (zs L)) = some (decide (n ∈ L)) := by
  simp only [inD, scaD, scaDs_ints]
  congr 1
  induction L with
  | nil => rfl
  | cons x L ih =>
    have e : inV (V.int n) ((x :: L).map V.int) = (eqV (V.int x) (V.int n) || inV (V.int n) (L.map V.int)) := rfl
    rw [e, ih]
    have e2 : eqV (V.int x) (V.int n) = decide (x = n) := by
      simp [eqV]
      exact Bool.beq_eq_decide_eq x n
    rw [e2]
    by_cases h1 : x = n
    · simp [h1]
    · have h3 : ¬ n = x := fun e => h1 e.symm
      by_cases h2 : n ∈ L <;> simp [h1, h2, h3]
theorem bl_min (o : Ow) (L : List Int) : blt "min" [.lst o (zs L)] = (minI L).map .int := by
  have e : blt "min" [.lst o (zs L)] = ((intsD (zs L)).bind minI).map .int := by rfl
  rw [e, intsD_ints]
  rfl
theorem minI_is {L : List Int} {m : Int} (h : m ∈ L) (le : ∀ y ∈ L, m ≤ y) : minI L = some m := by
  cases L with
  | nil => cases h
  | cons x L =>
    obtain ⟨k, hk⟩ : ∃ k, minI (x :: L) = some k := ⟨_, rfl⟩
    rw [hk, minI_ok hk h le]
theorem filter_one {L : List Int} {w : Int} {p : Int → Bool} (nd : L.Nodup) (hw : w ∈ L) (h : ∀ x ∈ L, p x = true ↔ x = w) : L.filter p = [w] := by
  induction L with
  | nil => cases hw
  | cons x L ih =>
    obtain ⟨n1, n2⟩ := List.nodup_cons.mp nd
    rcases List.mem_cons.mp hw with rfl | hw
    · rw [List.filter_cons_of_pos ((h w (by simp)).mpr rfl)]
      congr 1
      rw [List.filter_eq_nil_iff]
      intro y hy e
      exact n1 ((h y (List.mem_cons_of_mem _ hy)).mp e ▸ hy)
    · have hx : ¬ p x = true := fun e => n1 ((h x (by simp)).mp e ▸ hw)
      rw [List.filter_cons_of_neg hx]
      exact ih n2 hw fun y hy => h y (List.mem_cons_of_mem _ hy)
/-! ### comprehensions over integers -/
theorem comp_loop {fill : D → EN → Option EN} {test : Ev Bool} {elt : Ev D} {vs : List Nat} {δ : EN} {δx : Int → EN} {p : Int → Bool} {g : Int → Int} (hf : ∀ x, fill (.int x) δ = some (δx x)) (ht : ∀ x, test (δx x) = some (p x, δx x)) (he : ∀ x, elt (δx x) = some (.int (g x), δx x)) (hw : ∀ x, wipeD (δx x) vs = δ) :
    ∀ (R A : List Int), A.length + R.length < 10000 → compL fill test (fun δ => (elt δ).map fun p => (clr p.1, p.2)) vs (zs R) (zs A) δ = some (zs (A ++ (R.filter p).map g), δ)
  | [], A, _ => by simp [compL]
  | x :: R, A, h => by
    rw [List.length_cons] at h
    have hl : (zs A).length < line := by simp [line]; omega
    show compL fill test _ vs (.int x :: zs R) (zs A) δ = _
    cases hp : p x with
    | true =>
      have ih := comp_loop hf ht he hw R (A ++ [g x]) (by simp; omega)
      have e4 : zs A ++ [.int (g x)] = zs (A ++ [g x]) := by simp
      simp only [compL, hf, ht, hp, he, Option.map_some, clr, hl, if_true, hw, e4, ih]
      simp [List.filter_cons, hp]
    | false =>
      have ih := comp_loop hf ht he hw R A (by omega)
      simp only [compL, hf, ht, hp, hw, ih]
      simp [List.filter_cons, hp]
theorem comp_ok' {src : Ev Src} {fill : D → EN → Option EN} {test : Ev Bool} {elt : Ev D} {s : Nat} {δ0 δ : EN} {R : List Int} {δx : Int → EN} {p : Int → Bool} {g : Int → Int} (hs : src δ0 = some (.seq (zs R), δ)) (hd : δ[s]? = some none) (hf : ∀ x, fill (.int x) δ = some (δx x)) (ht : ∀ x, test (δx x) = some (p x, δx x)) (he : ∀ x, elt (δx x) = some (.int (g x), δx x))
    (hw : ∀ x, wipeD (δx x) [s] = δ) (hl : R.length < 10000) : compC src fill test elt [s] δ0 = some (.lst .own (zs ((R.filter p).map g)), δ) := by
  have w0 : wipeD δ [s] = δ := by
    obtain ⟨h1, h2⟩ := List.getElem?_eq_some_iff.mp hd
    show δ.set s none = δ
    rw [← h2]
    exact List.set_getElem_self h1
  have m0 : mendD δ δ [s] = δ := by
    show δ.set s (flatO δ[s]?) = δ
    rw [hd]
    exact w0
  unfold compC
  rw [hs]
  have := comp_loop hf ht he hw R [] (by simpa using hl)
  simp only [List.map_nil, List.nil_append] at this
  show (match compL fill test (fun δ => (elt δ).map fun p => (clr p.1, p.2)) [s] (zs R) [] (wipeD δ [s]) with
    | some (l, δ2) => some (D.lst .own l, mendD δ δ2 [s])
    | none => none) = _
  rw [w0, this]
  simp only [m0]
/-! ### the range -/
def Rw (h : Int) : List Int := (List.range (h - -h).toNat).map fun i : Nat => -h + (i : Int)
theorem Rw_mem {h x : Int} : x ∈ Rw h ↔ -h ≤ x ∧ x < h := by
  unfold Rw
  rw [List.mem_map]
  constructor
  · rintro ⟨i, hi, rfl⟩
    have := List.mem_range.mp hi
    omega
  · rintro ⟨h1, h2⟩
    exact ⟨(x + h).toNat, List.mem_range.mpr (by omega), by omega⟩
theorem Rw_nodup {h : Int} : (Rw h).Nodup := by
  unfold Rw
  refine List.nodup_range.map _ fun a b hab e => hab ?_
  omega
theorem Rw_len {h : Int} (h0 : 1 ≤ h) : ((Rw h).length : Int) = 2 * h := by
  unfold Rw
  rw [List.length_map, List.length_range]
  omega
theorem Rw_small {f h : Int} (F : Fh f h) : (Rw h).length < 10000 := by
  have := F.pos
  have := Rw_len (h := h) (by omega)
  omega
section
variable {k : Nat} {f h n : Int}
theorem all_of_ok (F : Fh f h) : callD T (k + 1) "_law_all_of" [.int f] = some (.lst .own (zs (Rw h)), [none]) := by
  have hp := F.pos
  have l := lsh1 F
  have g1 : rngOk (-h) = true := by rw [rngOk_iff]; omega
  have g2 : rngOk h = true := by rw [rngOk_iff]; omega
  have g3 : (h - -h).toNat ≤ 16777216 := by omega
  have g4 : (Src.rng (-h) (h - -h).toNat).items = zs (Rw h) := by
    simp only [Src.items, Rw, zs, List.map_map]
    rfl
  have e : lrC (rg2 (op1 (rf 1) negD) (rdN 1)) (.lst .own) [some (.int f), some (.int h)] = some (.lst .own (zs (Rw h)), [some (.int f), some (.int h)]) := by
    have r1 : rg2 (op1 (rf 1) negD) (rdN 1) [some (.int f), some (.int h)] = some (.rng (-h) (h - -h).toNat, [some (.int f), some (.int h)]) := by
      simp [finS, seqS, retS, rnS, nxS, cndS, asgC, flN, flT, flTs, callC, callA, sealA, cnA, nlA, rdN, looks, takes, backs, refsOf, clr, clrs, tkS, op2, op1, negD, vl, rf, look, cs, ixD, atI, ixN, bAdd, bSub, bMul, bDiv, bMod, bAnd, flat, flats, outL, asT, cmT, cmpD, iteC, notC, chainC, Ev.ret, bltC, bl_int, bl_abs, bl_len, subC, setIx, dispC, isT, isTy, eqI, blC, andC, orC, appC, forS, rg1, rg2, sqC, srcOf, rn1, rn2, rn3, rn4, line, parC, g1, g2]
    unfold lrC
    rw [r1]
    show (if (h - -h).toNat ≤ line then some (D.lst .own (Src.rng (-h) (h - -h).toNat).items, _) else none) = _
    rw [if_pos (show (h - -h).toNat ≤ line from g3), g4]
  rw [c__law_all_of rfl]
  have hb : b__law_all_of (callD T k) = seqS (asgC (op2 (vl (cs (.int 1))) (vl (op2 (rf 0) (vl (cs (.int 1))) (binD .Sub))) (binD .LShift)) (flN 1)) (seqS (retS (lrC (rg2 (op1 (rf 1) negD) (rdN 1)) (.lst .own))) nxS) := rfl
  rw [hb]
  simp [finS, seqS, retS, rnS, nxS, cndS, asgC, flN, flT, flTs, callC, callA, sealA, cnA, nlA, rdN, looks, takes, backs, refsOf, clr, clrs, tkS, op2, op1, negD, vl, rf, look, cs, ixD, atI, ixN, bAdd, bSub, bMul, bDiv, bMod, bAnd, flat, flats, outL, asT, cmT, cmpD, iteC, notC, chainC, Ev.ret, bltC, bl_int, bl_abs, bl_len, subC, setIx, dispC, isT, isTy, eqI, blC, andC, orC, appC, forS, rg1, rg2, sqC, srcOf, rn1, rn2, rn3, rn4, line, parC, l, e]
def pw (h n x : Int) : Bool := decide ((n - x) % (2 * h) = 0)
theorem wraps_ok (F : Fh f h) : callD T (k + 1) "_law_wraps" [.int n, .lst .sh (zs (Rw h))] = some (.lst .own (zs [wr h n]), [none, none]) := by
  have hp := F.pos
  have hlen := Rw_len (h := h) (by omega)
  have hq : 0 < 2 * h := by omega
  have e : compC (sqC (rdN 1)) (flN 2) (asT (op2 (vl (op2 (vl (bltC (cnA (vl (op2 (rf 0) (rf 2) (binD .Sub))) nlA) (blt "int"))) (vl (bltC (cnA (rf 1) nlA) (blt "len"))) (binD .Mod))) (vl (cs (.int 0))) (cmT .Eq))) (rdN 2) [2] [some (.int n), some (.lst .sh (zs (Rw h))), none] = some (.lst .own (zs (((Rw h).filter (pw h n)).map fun x => x)), [some (.int n), some (.lst .sh (zs (Rw h))), none]) := by
    refine comp_ok' (δx := fun x => [some (.int n), some (.lst .sh (zs (Rw h))), some (.int x)]) ?_ rfl ?_ ?_ ?_ ?_ (Rw_small F)
    · have := clrs_ints (Rw h)
      simp [finS, seqS, retS, rnS, nxS, cndS, asgC, flN, flT, flTs, callC, callA, sealA, cnA, nlA, rdN, looks, takes, backs, refsOf, clr, clrs, tkS, op2, op1, negD, vl, rf, look, cs, ixD, atI, ixN, bAdd, bSub, bMul, bDiv, bMod, bAnd, flat, flats, outL, asT, cmT, cmpD, iteC, notC, chainC, Ev.ret, bltC, bl_int, bl_abs, bl_len, subC, setIx, dispC, isT, isTy, eqI, blC, andC, orC, appC, forS, rg1, rg2, sqC, srcOf, rn1, rn2, rn3, rn4, line, parC, this]
    · intro x; simp [flN]
    · intro x; simp [finS, seqS, retS, rnS, nxS, cndS, asgC, flN, flT, flTs, callC, callA, sealA, cnA, nlA, rdN, looks, takes, backs, refsOf, clr, clrs, tkS, op2, op1, negD, vl, rf, look, cs, ixD, atI, ixN, bAdd, bSub, bMul, bDiv, bMod, bAnd, flat, flats, outL, asT, cmT, cmpD, iteC, notC, chainC, Ev.ret, bltC, bl_int, bl_abs, bl_len, subC, setIx, dispC, isT, isTy, eqI, blC, andC, orC, appC, forS, rg1, rg2, sqC, srcOf, rn1, rn2, rn3, rn4, line, parC, hlen, hq, pw]
    · intro x; simp [finS, seqS, retS, rnS, nxS, cndS, asgC, flN, flT, flTs, callC, callA, sealA, cnA, nlA, rdN, looks, takes, backs, refsOf, clr, clrs, tkS, op2, op1, negD, vl, rf, look, cs, ixD, atI, ixN, bAdd, bSub, bMul, bDiv, bMod, bAnd, flat, flats, outL, asT, cmT, cmpD, iteC, notC, chainC, Ev.ret, bltC, bl_int, bl_abs, bl_len, subC, setIx, dispC, isT, isTy, eqI, blC, andC, orC, appC, forS, rg1, rg2, sqC, srcOf, rn1, rn2, rn3, rn4, line, parC]
    · intro x; rfl
  have hm : -h ≤ wr h n ∧ wr h n < h := by
    have a1 := Int.emod_nonneg (n + h) (show 2 * h ≠ 0 by omega)
    have a2 := Int.emod_lt_of_pos (n + h) hq
    unfold wr
    omega
  have one : (Rw h).filter (pw h n) = [wr h n] := filter_one Rw_nodup (Rw_mem.mpr hm) fun x hx => by
    have hx := Rw_mem.mp hx
    unfold pw
    rw [decide_eq_true_eq]
    have a3 := Int.emod_add_mul_ediv (n + h) (2 * h)
    constructor
    · intro h0
      have a4 := Int.emod_add_mul_ediv (n - x) (2 * h)
      have e1 : n + h = (x + h) + 2 * h * ((n - x) / (2 * h)) := by omega
      have e2 : (n + h) % (2 * h) = x + h := by
        rw [e1, Int.add_mul_emod_self_left]
        exact Int.emod_eq_of_lt (by omega) (by omega)
      unfold wr
      omega
    · rintro rfl
      unfold wr
      rw [show n - ((n + h) % (2 * h) - h) = 2 * h * ((n + h) / (2 * h)) by omega]
      exact Int.mul_emod_right _ _
  rw [c__law_wraps rfl]
  have hb : b__law_wraps (callD T k) = seqS (retS (compC (sqC (rdN 1)) (flN 2) (asT (op2 (vl (op2 (vl (bltC (cnA (vl (op2 (rf 0) (rf 2) (binD .Sub))) nlA) (blt "int"))) (vl (bltC (cnA (rf 1) nlA) (blt "len"))) (binD .Mod))) (vl (cs (.int 0))) (cmT .Eq))) (rdN 2) [2])) nxS := rfl
  rw [one] at e
  rw [hb]
  generalize compC (sqC (rdN 1)) (flN 2) (asT (op2 (vl (op2 (vl (bltC (cnA (vl (op2 (rf 0) (rf 2) (binD .Sub))) nlA) (blt "int"))) (vl (bltC (cnA (rf 1) nlA) (blt "len"))) (binD .Mod))) (vl (cs (.int 0))) (cmT .Eq))) (rdN 2) [2] = V at *
  simp [finS, seqS, retS, e, outL, rn2]
def ab (n x : Int) : Int := if n - x < 0 then -(n - x) else n - x
def V1 : Ev D := compC (sqC (rdN 1)) (flN 3) (Ev.ret true) (bltC (cnA (vl (op2 (rf 0) (rf 3) (binD .Sub))) nlA) (blt "abs")) [3]
def V2 : Ev D := compC (sqC (rdN 1)) (flN 3) (asT (op2 (vl (bltC (cnA (vl (op2 (rf 0) (rf 3) (binD .Sub))) nlA) (blt "abs"))) (rf 2) (cmT .Eq))) (rdN 3) [3]
theorem V1_ok (F : Fh f h) : V1 [some (.int n), some (.lst .sh (zs (Rw h))), none, none] = some (.lst .own (zs ((Rw h).map (ab n))), [some (.int n), some (.lst .sh (zs (Rw h))), none, none]) := by
  have e := comp_ok' (src := sqC (rdN 1)) (fill := flN 3) (test := Ev.ret true) (elt := bltC (cnA (vl (op2 (rf 0) (rf 3) (binD .Sub))) nlA) (blt "abs")) (s := 3) (R := Rw h) (p := fun _ => true) (g := ab n) (δ0 := [some (.int n), some (.lst .sh (zs (Rw h))), none, none]) (δ := [some (.int n), some (.lst .sh (zs (Rw h))), none, none]) (δx := fun x => [some (.int n), some (.lst .sh (zs (Rw h))), none, some (.int x)]) (by
    have := clrs_ints (Rw h)
    simp [finS, seqS, retS, rnS, nxS, cndS, asgC, flN, flT, flTs, callC, callA, sealA, cnA, nlA, rdN, looks, takes, backs, refsOf, clr, clrs, tkS, op2, op1, negD, vl, rf, look, cs, ixD, atI, ixN, bAdd, bSub, bMul, bDiv, bMod, bAnd, flat, flats, outL, asT, cmT, cmpD, iteC, notC, chainC, Ev.ret, bltC, bl_int, bl_abs, bl_len, subC, setIx, dispC, isT, isTy, eqI, blC, andC, orC, appC, forS, rg1, rg2, sqC, srcOf, rn1, rn2, rn3, rn4, line, parC, this]) rfl (fun x => by simp [flN]) (fun x => rfl) (fun x => by simp [finS, seqS, retS, rnS, nxS, cndS, asgC, flN, flT, flTs, callC, callA, sealA, cnA, nlA, rdN, looks, takes, backs, refsOf, clr, clrs, tkS, op2, op1, negD, vl, rf, look, cs, ixD, atI, ixN, bAdd, bSub, bMul, bDiv, bMod, bAnd, flat, flats, outL, asT, cmT, cmpD, iteC, notC, chainC, Ev.ret, bltC, bl_int, bl_abs, bl_len, subC, setIx, dispC, isT, isTy, eqI, blC, andC, orC, appC, forS, rg1, rg2, sqC, srcOf, rn1, rn2, rn3, rn4, line, parC, ab]) (fun x => rfl) (Rw_small F)
  rw [show (Rw h).filter (fun _ => true) = Rw h from List.filter_eq_self.mpr fun _ _ => rfl] at e
  exact e
theorem V2_ok (F : Fh f h) {m : Int} : V2 [some (.int n), some (.lst .sh (zs (Rw h))), some (.int m), none] = some (.lst .own (zs (((Rw h).filter fun x => decide (ab n x = m)).map fun x => x)), [some (.int n), some (.lst .sh (zs (Rw h))), some (.int m), none]) := by
  refine comp_ok' (δx := fun x => [some (.int n), some (.lst .sh (zs (Rw h))), some (.int m), some (.int x)]) ?_ rfl ?_ ?_ ?_ ?_ (Rw_small F)
  · have := clrs_ints (Rw h)
    simp [finS, seqS, retS, rnS, nxS, cndS, asgC, flN, flT, flTs, callC, callA, sealA, cnA, nlA, rdN, looks, takes, backs, refsOf, clr, clrs, tkS, op2, op1, negD, vl, rf, look, cs, ixD, atI, ixN, bAdd, bSub, bMul, bDiv, bMod, bAnd, flat, flats, outL, asT, cmT, cmpD, iteC, notC, chainC, Ev.ret, bltC, bl_int, bl_abs, bl_len, subC, setIx, dispC, isT, isTy, eqI, blC, andC, orC, appC, forS, rg1, rg2, sqC, srcOf, rn1, rn2, rn3, rn4, line, parC, this]
  · intro x; simp [flN]
  · intro x; simp [finS, seqS, retS, rnS, nxS, cndS, asgC, flN, flT, flTs, callC, callA, sealA, cnA, nlA, rdN, looks, takes, backs, refsOf, clr, clrs, tkS, op2, op1, negD, vl, rf, look, cs, ixD, atI, ixN, bAdd, bSub, bMul, bDiv, bMod, bAnd, flat, flats, outL, asT, cmT, cmpD, iteC, notC, chainC, Ev.ret, bltC, bl_int, bl_abs, bl_len, subC, setIx, dispC, isT, isTy, eqI, blC, andC, orC, appC, forS, rg1, rg2, sqC, srcOf, rn1, rn2, rn3, rn4, line, parC, ab]; congr
  · intro x; simp [finS, seqS, retS, rnS, nxS, cndS, asgC, flN, flT, flTs, callC, callA, sealA, cnA, nlA, rdN, looks, takes, backs, refsOf, clr, clrs, tkS, op2, op1, negD, vl, rf, look, cs, ixD, atI, ixN, bAdd, bSub, bMul, bDiv, bMod, bAnd, flat, flats, outL, asT, cmT, cmpD, iteC, notC, chainC, Ev.ret, bltC, bl_int, bl_abs, bl_len, subC, setIx, dispC, isT, isTy, eqI, blC, andC, orC, appC, forS, rg1, rg2, sqC, srcOf, rn1, rn2, rn3, rn4, line, parC]
  · intro x; rfl
theorem clips_ok (F : Fh f h) : callD T (k + 1) "_law_clips" [.int n, .lst .sh (zs (Rw h))] = some (.lst .own (zs [cl h n]), [none, none]) := by
  have hp := F.pos
  have hm : cl h n ∈ Rw h := by
    rw [Rw_mem]
    unfold cl
    split
    · omega
    · split <;> omega
  have mn : minI ((Rw h).map (ab n)) = some (ab n (cl h n)) := minI_is (List.mem_map_of_mem hm) fun y hy => by
    obtain ⟨x, hx, rfl⟩ := List.mem_map.mp hy
    have := Rw_mem.mp hx
    unfold ab cl
    split <;> split <;> (try split) <;> (try split) <;> omega
  have one : (Rw h).filter (fun x => decide (ab n x = ab n (cl h n))) = [cl h n] := filter_one Rw_nodup hm fun x hx => by
    have hx := Rw_mem.mp hx
    rw [decide_eq_true_eq]
    constructor
    · intro e
      unfold ab cl at *
      split at e <;> split at e <;> (try split at e) <;> (try split at e) <;> (try split) <;> (try split) <;> omega
    · rintro rfl
      rfl
  have e1 := V1_ok (n := n) F
  have e2 := V2_ok (n := n) F (m := ab n (cl h n))
  rw [one] at e2
  rw [c__law_clips rfl]
  have hb : b__law_clips (callD T k) = seqS (asgC (bltC (cnA (vl V1) nlA) (blt "min")) (flN 2)) (seqS (retS V2) nxS) := rfl
  rw [hb]
  have bm := bl_min .own ((Rw h).map (ab n))
  rw [mn] at bm
  generalize (Rw h).map (ab n) = A at e1 bm
  simp only [zs] at e1 bm e2
  simp [finS, seqS, retS, nxS, asgC, bltC, cnA, nlA, vl, looks, look, e1, bm, e2, flN, outL, rn2]
end
end K12

namespace K12
open PySem PySem.Spec PyProof.Rows L2 PyD
section
variable {k : Nat} {f h n : Int}
def seen (h n : Int) : Bool := decide (-h ≤ n) && decide (n ≤ h - 1)
theorem seen_in : decide (n ∈ Rw h) = seen h n := by
  unfold seen
  by_cases h1 : n ∈ Rw h
  · have := Rw_mem.mp h1
    have a : -h ≤ n := this.1
    have b : n ≤ h - 1 := by omega
    simp [h1, a, b]
  · have h2 : ¬ (-h ≤ n ∧ n ≤ h - 1) := fun z => h1 (Rw_mem.mpr ⟨z.1, by omega⟩)
    simp only [h1, decide_false]
    by_cases a : -h ≤ n
    · have b : ¬ n ≤ h - 1 := fun b => h2 ⟨a, b⟩
      simp [b]
    · simp [a]
theorem cl_in (h0 : 1 ≤ h) (s : seen h n = true) : cl h n = n ∧ wr h n = n := by
  unfold seen at s
  rw [Bool.and_eq_true, decide_eq_true_eq, decide_eq_true_eq] at s
  refine ⟨?_, wr_in h0 s.1 s.2⟩
  unfold cl
  have h3 : ¬ n < -h := by omega
  rw [if_neg h3, if_pos s.2]
abbrev C2 (k : Nat) := callD T (k + 2)
theorem nh (F : Fh f h) : callD T (k + 3) "_law_number_holds" [.int n, .int f] = some (.bl true, [none, none]) := by
  have hp := F.pos
  rw [c__law_number_holds rfl]
  show finS 2 [] (b__law_number_holds (C2 k) [some (.int n), some (.int f), none, none, none, none]) = _
  have e1 : s__law_number_holds_1 (C2 k) [some (.int n), some (.int f), none, none, none, none] = some (.nx, [some (.int n), some (.int f), some (.lst .own (zs (Rw h))), none, none, none]) := by
    simp [s__law_number_holds_1, finS, seqS, retS, rnS, nxS, cndS, asgC, flN, flT, flTs, callC, callA, sealA, cnA, nlA, rdN, looks, takes, backs, refsOf, clr, clrs, tkS, op2, op1, negD, vl, rf, look, cs, ixD, atI, ixN, bAdd, bSub, bMul, bDiv, bMod, bAnd, flat, flats, outL, asT, cmT, cmpD, iteC, notC, chainC, Ev.ret, bltC, bl_int, bl_abs, bl_len, subC, setIx, dispC, isT, isTy, eqI, blC, andC, orC, appC, forS, rg1, rg2, sqC, srcOf, rn1, rn2, rn3, rn4, line, parC, all_of_ok F]
  have e2 : s__law_number_holds_2 (C2 k) [some (.int n), some (.int f), some (.lst .own (zs (Rw h))), none, none, none] = some (.nx, [some (.int n), some (.int f), some (.lst .own (zs (Rw h))), some (.bl (seen h n)), none, none]) := by
    simp [s__law_number_holds_2, finS, seqS, retS, rnS, nxS, cndS, asgC, flN, flT, flTs, callC, callA, sealA, cnA, nlA, rdN, looks, takes, backs, refsOf, clr, clrs, tkS, op2, op1, negD, vl, rf, look, cs, ixD, atI, ixN, bAdd, bSub, bMul, bDiv, bMod, bAnd, flat, flats, outL, asT, cmT, cmpD, iteC, notC, chainC, Ev.ret, bltC, bl_int, bl_abs, bl_len, subC, setIx, dispC, isT, isTy, eqI, blC, andC, orC, appC, forS, rg1, rg2, sqC, srcOf, rn1, rn2, rn3, rn4, line, parC, fits_ok F, seen]
  have e4 : s__law_number_holds_4 (C2 k) [some (.int n), some (.int f), some (.lst .own (zs (Rw h))), some (.bl (seen h n)), none, none] = some (.nx, [some (.int n), some (.int f), some (.lst .own (zs (Rw h))), some (.bl (seen h n)), none, none]) := by
    have i1 := in_ints .own n (Rw h)
    rw [seen_in] at i1
    have i2 := eqB (seen h n) (seen h n)
    rw [beq_self_eq_true] at i2
    simp [s__law_number_holds_4, finS, seqS, retS, rnS, nxS, cndS, asgC, flN, flT, flTs, callC, callA, sealA, cnA, nlA, rdN, looks, takes, backs, refsOf, clr, clrs, tkS, op2, op1, negD, vl, rf, look, cs, ixD, atI, ixN, bAdd, bSub, bMul, bDiv, bMod, bAnd, flat, flats, outL, asT, cmT, cmpD, iteC, notC, chainC, Ev.ret, bltC, bl_int, bl_abs, bl_len, subC, setIx, dispC, isT, isTy, eqI, blC, andC, orC, appC, forS, rg1, rg2, sqC, srcOf, rn1, rn2, rn3, rn4, line, parC, i1, i2]
  have e5 : s__law_number_holds_5 (C2 k) [some (.int n), some (.int f), some (.lst .own (zs (Rw h))), some (.bl (seen h n)), none, none] = some (.nx, [some (.int n), some (.int f), some (.lst .own (zs (Rw h))), some (.bl (seen h n)), some (.int (wr h n)), none]) := by
    simp [s__law_number_holds_5, finS, seqS, retS, rnS, nxS, cndS, asgC, flN, flT, flTs, callC, callA, sealA, cnA, nlA, rdN, looks, takes, backs, refsOf, clr, clrs, tkS, op2, op1, negD, vl, rf, look, cs, ixD, atI, ixN, bAdd, bSub, bMul, bDiv, bMod, bAnd, flat, flats, outL, asT, cmT, cmpD, iteC, notC, chainC, Ev.ret, bltC, bl_int, bl_abs, bl_len, subC, setIx, dispC, isT, isTy, eqI, blC, andC, orC, appC, forS, rg1, rg2, sqC, srcOf, rn1, rn2, rn3, rn4, line, parC, wrap_ok F]
  have e6 : s__law_number_holds_6 (C2 k) [some (.int n), some (.int f), some (.lst .own (zs (Rw h))), some (.bl (seen h n)), some (.int (wr h n)), none] = some (.nx, [some (.int n), some (.int f), some (.lst .own (zs (Rw h))), some (.bl (seen h n)), some (.int (wr h n)), some (.int (cl h n))]) := by
    simp [s__law_number_holds_6, finS, seqS, retS, rnS, nxS, cndS, asgC, flN, flT, flTs, callC, callA, sealA, cnA, nlA, rdN, looks, takes, backs, refsOf, clr, clrs, tkS, op2, op1, negD, vl, rf, look, cs, ixD, atI, ixN, bAdd, bSub, bMul, bDiv, bMod, bAnd, flat, flats, outL, asT, cmT, cmpD, iteC, notC, chainC, Ev.ret, bltC, bl_int, bl_abs, bl_len, subC, setIx, dispC, isT, isTy, eqI, blC, andC, orC, appC, forS, rg1, rg2, sqC, srcOf, rn1, rn2, rn3, rn4, line, parC, clip_ok F]
  have e8 : s__law_number_holds_8 (C2 k) [some (.int n), some (.int f), some (.lst .own (zs (Rw h))), some (.bl (seen h n)), some (.int (wr h n)), some (.int (cl h n))] = some (.nx, [some (.int n), some (.int f), some (.lst .own (zs (Rw h))), some (.bl (seen h n)), some (.int (wr h n)), some (.int (cl h n))]) := by
    simp [s__law_number_holds_8, finS, seqS, retS, rnS, nxS, cndS, asgC, flN, flT, flTs, callC, callA, sealA, cnA, nlA, rdN, looks, takes, backs, refsOf, clr, clrs, tkS, op2, op1, negD, vl, rf, look, cs, ixD, atI, ixN, bAdd, bSub, bMul, bDiv, bMod, bAnd, flat, flats, outL, asT, cmT, cmpD, iteC, notC, chainC, Ev.ret, bltC, bl_int, bl_abs, bl_len, subC, setIx, dispC, isT, isTy, eqI, blC, andC, orC, appC, forS, rg1, rg2, sqC, srcOf, rn1, rn2, rn3, rn4, line, parC, is_int]
  have e10 : s__law_number_holds_10 (C2 k) [some (.int n), some (.int f), some (.lst .own (zs (Rw h))), some (.bl (seen h n)), some (.int (wr h n)), some (.int (cl h n))] = some (.nx, [some (.int n), some (.int f), some (.lst .own (zs (Rw h))), some (.bl (seen h n)), some (.int (wr h n)), some (.int (cl h n))]) := by
    cases hs : seen h n with
    | true =>
      obtain ⟨c1, c2⟩ := cl_in (by omega) hs
      simp [s__law_number_holds_10, finS, seqS, retS, rnS, nxS, cndS, asgC, flN, flT, flTs, callC, callA, sealA, cnA, nlA, rdN, looks, takes, backs, refsOf, clr, clrs, tkS, op2, op1, negD, vl, rf, look, cs, ixD, atI, ixN, bAdd, bSub, bMul, bDiv, bMod, bAnd, flat, flats, outL, asT, cmT, cmpD, iteC, notC, chainC, Ev.ret, bltC, bl_int, bl_abs, bl_len, subC, setIx, dispC, isT, isTy, eqI, blC, andC, orC, appC, forS, rg1, rg2, sqC, srcOf, rn1, rn2, rn3, rn4, line, parC, c1, c2]
    | false => simp [s__law_number_holds_10, finS, seqS, retS, rnS, nxS, cndS, asgC, flN, flT, flTs, callC, callA, sealA, cnA, nlA, rdN, looks, takes, backs, refsOf, clr, clrs, tkS, op2, op1, negD, vl, rf, look, cs, ixD, atI, ixN, bAdd, bSub, bMul, bDiv, bMod, bAnd, flat, flats, outL, asT, cmT, cmpD, iteC, notC, chainC, Ev.ret, bltC, bl_int, bl_abs, bl_len, subC, setIx, dispC, isT, isTy, eqI, blC, andC, orC, appC, forS, rg1, rg2, sqC, srcOf, rn1, rn2, rn3, rn4, line, parC]
  have w1 : callD T (k + 2) "_law_wraps" [.int n, .lst .sh (zs (Rw h))] = some (.lst .own (zs [wr h n]), [none, none]) := wraps_ok F
  have w2 : callD T (k + 2) "_law_clips" [.int n, .lst .sh (zs (Rw h))] = some (.lst .own (zs [cl h n]), [none, none]) := clips_ok F
  have q1 := eqL .own .own [wr h n] [wr h n]
  have q2 := eqL .own .own [cl h n] [cl h n]
  have q3 := clrs_ints (Rw h)
  have e11 : s__law_number_holds_11 (C2 k) [some (.int n), some (.int f), some (.lst .own (zs (Rw h))), some (.bl (seen h n)), some (.int (wr h n)), some (.int (cl h n))] = some (.rt (.bl true), [some (.int n), some (.int f), some (.lst .sh (zs (Rw h))), some (.bl (seen h n)), some (.int (wr h n)), some (.int (cl h n))]) := by
    simp only [zs, List.map_cons, List.map_nil, decide_true] at q1 q2 w1 w2 q3
    simp [s__law_number_holds_11, finS, seqS, retS, rnS, nxS, cndS, asgC, flN, flT, flTs, callC, callA, sealA, cnA, nlA, rdN, looks, takes, backs, refsOf, clr, clrs, tkS, op2, op1, negD, vl, rf, look, cs, ixD, atI, ixN, bAdd, bSub, bMul, bDiv, bMod, bAnd, flat, flats, outL, asT, cmT, cmpD, iteC, notC, chainC, Ev.ret, bltC, bl_int, bl_abs, bl_len, subC, setIx, dispC, isT, isTy, eqI, blC, andC, orC, appC, forS, rg1, rg2, sqC, srcOf, rn1, rn2, rn3, rn4, line, parC, q1, q2, w1, w2, q3]
  simp only [b__law_number_holds, seqS, e1, e2, e4, e5, e6, e8, e10, e11]
  rfl
/-! ### the numbers that are asked -/
theorem numbers_ok (F : Fh f h) {a b : Int} : ∃ j L, callD T (k + 3) "_law_numbers" [J a b 0, .int f] = some (.lst .own (zs L), [j, none]) := by
  have hp := F.pos
  have l := lsh1 F
  obtain ⟨a1, b1, c1, r, e1, r0, r1, x1, y1⟩ := pick_ok (k := k + 1) (a := a) (b := b) (c := 0) (m := 50) (by omega) (by omega) (by omega) (by omega)
  obtain ⟨a2, b2, c2, g, e2, x2, y2⟩ := great_ok (k := k) (a := a1) (b := b1) (c := c1) (by omega) (by omega)
  obtain ⟨a3, b3, c3, u, e3, x3, y3⟩ := great_ok (k := k) (a := a2) (b := b2) (c := c2) (by omega) (by omega)
  obtain ⟨a4, b4, c4, v, e4, x4, y4⟩ := great_ok (k := k) (a := a3) (b := b3) (c := c3) (by omega) (by omega)
  obtain ⟨a5, b5, c5, w, e5, w0, w1, x5, y5⟩ := pick_ok (k := k + 1) (a := a4) (b := b4) (c := c4) (m := 401) (by omega) (by omega) (by omega) (by omega)
  have m1 : mulOk 2 h = true := mulOk_l (by omega) (by omega)
  have m2 : ∀ x, mulOk (2 * h) x = true := fun x => mulOk_l (by omega) (by omega)
  rw [c__law_numbers rfl]
  show ∃ j L, finS 2 [0] (b__law_numbers (C2 k) [some (J a b 0), some (.int f), none, none, none, none]) = some (.lst .own (zs L), [j, none])
  have s1 : s__law_numbers_1 (C2 k) [some (J a b 0), some (.int f), none, none, none, none] = some (.nx, [some (J a b 0), some (.int f), some (.int h), none, none, none]) := by
    simp [s__law_numbers_1, finS, seqS, retS, rnS, nxS, cndS, asgC, flN, flT, flTs, callC, callA, sealA, cnA, nlA, rdN, looks, takes, backs, refsOf, clr, clrs, tkS, op2, op1, negD, vl, rf, look, cs, ixD, atI, ixN, bAdd, bSub, bMul, bDiv, bMod, bAnd, flat, flats, outL, asT, cmT, cmpD, iteC, notC, chainC, Ev.ret, bltC, bl_int, bl_abs, bl_len, subC, setIx, dispC, isT, isTy, eqI, blC, andC, orC, appC, forS, rg1, rg2, sqC, srcOf, rn1, rn2, rn3, rn4, line, parC, l]
  have s2 : s__law_numbers_2 (C2 k) [some (J a b 0), some (.int f), some (.int h), none, none, none] = some (.nx, [some (J a1 b1 c1), some (.int f), some (.int h), some (.int (2 * h * (1 + r))), none, none]) := by
    simp [s__law_numbers_2, finS, seqS, retS, rnS, nxS, cndS, asgC, flN, flT, flTs, callC, callA, sealA, cnA, nlA, rdN, looks, takes, backs, refsOf, clr, clrs, tkS, op2, op1, negD, vl, rf, look, cs, ixD, atI, ixN, bAdd, bSub, bMul, bDiv, bMod, bAnd, flat, flats, outL, asT, cmT, cmpD, iteC, notC, chainC, Ev.ret, bltC, bl_int, bl_abs, bl_len, subC, setIx, dispC, isT, isTy, eqI, blC, andC, orC, appC, forS, rg1, rg2, sqC, srcOf, rn1, rn2, rn3, rn4, line, parC, e1, m1, m2]
  generalize 2 * h * (1 + r) = aw at s2
  have s3 : s__law_numbers_3 (C2 k) [some (J a1 b1 c1), some (.int f), some (.int h), some (.int aw), none, none] = some (.nx, [some (J a2 b2 c2), some (.int f), some (.int h), some (.int aw), some (.int (2 * h * g)), none]) := by
    simp [s__law_numbers_3, finS, seqS, retS, rnS, nxS, cndS, asgC, flN, flT, flTs, callC, callA, sealA, cnA, nlA, rdN, looks, takes, backs, refsOf, clr, clrs, tkS, op2, op1, negD, vl, rf, look, cs, ixD, atI, ixN, bAdd, bSub, bMul, bDiv, bMod, bAnd, flat, flats, outL, asT, cmT, cmpD, iteC, notC, chainC, Ev.ret, bltC, bl_int, bl_abs, bl_len, subC, setIx, dispC, isT, isTy, eqI, blC, andC, orC, appC, forS, rg1, rg2, sqC, srcOf, rn1, rn2, rn3, rn4, line, parC, e2, m1, m2]
  generalize 2 * h * g = gr at s3
  have s4 : s__law_numbers_4 (C2 k) [some (J a2 b2 c2), some (.int f), some (.int h), some (.int aw), some (.int gr), none] = some (.nx, [some (J a2 b2 c2), some (.int f), some (.int h), some (.int aw), some (.int gr), some (.lst .own (zs [-h - 1, -h, -1, 0, h - 1, h, h + aw, -h - 1 - aw, h - 1 + aw, -h - aw]))]) := by
    simp [s__law_numbers_4, finS, seqS, retS, rnS, nxS, cndS, asgC, flN, flT, flTs, callC, callA, sealA, cnA, nlA, rdN, looks, takes, backs, refsOf, clr, clrs, tkS, op2, op1, negD, vl, rf, look, cs, ixD, atI, ixN, bAdd, bSub, bMul, bDiv, bMod, bAnd, flat, flats, outL, asT, cmT, cmpD, iteC, notC, chainC, Ev.ret, bltC, bl_int, bl_abs, bl_len, subC, setIx, dispC, isT, isTy, eqI, blC, andC, orC, appC, forS, rg1, rg2, sqC, srcOf, rn1, rn2, rn3, rn4, line, parC]
  have s5 : s__law_numbers_5 (C2 k) [some (J a2 b2 c2), some (.int f), some (.int h), some (.int aw), some (.int gr), some (.lst .own (zs [-h - 1, -h, -1, 0, h - 1, h, h + aw, -h - 1 - aw, h - 1 + aw, -h - aw]))] = some (.nx, [some (J a2 b2 c2), some (.int f), some (.int h), some (.int aw), some (.int gr), some (.lst .own (zs [-h - 1, -h, -1, 0, h - 1, h, h + aw, -h - 1 - aw, h - 1 + aw, -h - aw, gr - h - 1, gr + h, -gr - h - 1, h - 1 - gr]))]) := by
    simp [s__law_numbers_5, finS, seqS, retS, rnS, nxS, cndS, asgC, flN, flT, flTs, callC, callA, sealA, cnA, nlA, rdN, looks, takes, backs, refsOf, clr, clrs, tkS, op2, op1, negD, vl, rf, look, cs, ixD, atI, ixN, bAdd, bSub, bMul, bDiv, bMod, bAnd, flat, flats, outL, asT, cmT, cmpD, iteC, notC, chainC, Ev.ret, bltC, bl_int, bl_abs, bl_len, subC, setIx, dispC, isT, isTy, eqI, blC, andC, orC, appC, forS, rg1, rg2, sqC, srcOf, rn1, rn2, rn3, rn4, line, parC, bLst, notLk]
  have s6 : s__law_numbers_6 (C2 k) [some (J a2 b2 c2), some (.int f), some (.int h), some (.int aw), some (.int gr), some (.lst .own (zs [-h - 1, -h, -1, 0, h - 1, h, h + aw, -h - 1 - aw, h - 1 + aw, -h - aw, gr - h - 1, gr + h, -gr - h - 1, h - 1 - gr]))] = some (.rt (.lst .own (zs [-h - 1, -h, -1, 0, h - 1, h, h + aw, -h - 1 - aw, h - 1 + aw, -h - aw, gr - h - 1, gr + h, -gr - h - 1, h - 1 - gr, u, -v, w - 200])), [some (J a5 b5 c5), some (.int f), some (.int h), some (.int aw), some (.int gr), some (.lst .own (zs [-h - 1, -h, -1, 0, h - 1, h, h + aw, -h - 1 - aw, h - 1 + aw, -h - aw, gr - h - 1, gr + h, -gr - h - 1, h - 1 - gr]))]) := by
    simp [s__law_numbers_6, finS, seqS, retS, rnS, nxS, cndS, asgC, flN, flT, flTs, callC, callA, sealA, cnA, nlA, rdN, looks, takes, backs, refsOf, clr, clrs, tkS, op2, op1, negD, vl, rf, look, cs, ixD, atI, ixN, bAdd, bSub, bMul, bDiv, bMod, bAnd, flat, flats, outL, asT, cmT, cmpD, iteC, notC, chainC, Ev.ret, bltC, bl_int, bl_abs, bl_len, subC, setIx, dispC, isT, isTy, eqI, blC, andC, orC, appC, forS, rg1, rg2, sqC, srcOf, rn1, rn2, rn3, rn4, line, parC, bLst, notLk, e3, e4, e5]
  refine ⟨some (J a5 b5 c5), [-h - 1, -h, -1, 0, h - 1, h, h + aw, -h - 1 - aw, h - 1 + aw, -h - aw, gr - h - 1, gr + h, -gr - h - 1, h - 1 - gr, u, -v, w - 200], ?_⟩
  simp only [b__law_numbers, seqS, s1, s2, s3, s4, s5, s6]
  rfl
/-! ### sums -/
theorem wr_add {h a b : Int} : wr h (wr h a + b) = wr h (a + b) := by
  unfold wr
  have a3 := Int.emod_add_mul_ediv (a + h) (2 * h)
  rw [show (a + h) % (2 * h) - h + b + h = (a + b + h) + 2 * h * (-((a + h) / (2 * h))) by rw [Int.mul_neg]; omega, Int.add_mul_emod_self_left]
def PS' (B f h : Int) (n : Nat) (δ : EN) : Prop := ∃ a b c t x6 x7 x8 cv, δ = [some (J a b c), some (.int f), some (.lst (if n = 0 then .own else .sh) (zs (Rw h))), some (.int (wr h t)), some (.int cv), some (.int t), x6, x7, x8] ∧ 0 ≤ c ∧ c ≤ B + 20 * n
theorem st5 (F : Fh f h) {a b c : Int} {o : Ow} {x3 x4 x5 x6 x7 x8 : Option D} (c0 : 0 ≤ c) (c1 : c < 2 ^ 50) : ∃ a' b' c' m, s__law_sums_hold_5 (C2 k) [some (J a b c), some (.int f), some (.lst o (zs (Rw h))), x3, x4, x5, x6, x7, x8] = some (.nx, [some (J a' b' c'), some (.int f), some (.lst o (zs (Rw h))), x3, x4, x5, x6, some (.int m), x8]) ∧ c ≤ c' ∧ c' ≤ c + 1 := by
  have hp := F.pos
  have hlen := Rw_len (h := h) (by omega)
  have m1 : ∀ x, mulOk 4 x = true := fun x => mulOk_l (by omega) (by omega)
  have m2 : ∀ x, mulOk 2 x = true := fun x => mulOk_l (by omega) (by omega)
  obtain ⟨a1, b1, d1, r, e1, r0, r1, x1, y1⟩ := pick_ok (k := k + 1) (a := a) (b := b) (c := c) (m := 4 * (2 * h)) c0 (by omega) (by omega) (by omega)
  refine ⟨a1, b1, d1, r - 2 * (2 * h), ?_, x1, y1⟩
  simp [s__law_sums_hold_5, finS, seqS, retS, rnS, nxS, cndS, asgC, flN, flT, flTs, callC, callA, sealA, cnA, nlA, rdN, looks, takes, backs, refsOf, clr, clrs, tkS, op2, op1, negD, vl, rf, look, cs, ixD, atI, ixN, bAdd, bSub, bMul, bDiv, bMod, bAnd, flat, flats, outL, asT, cmT, cmpD, iteC, notC, chainC, Ev.ret, bltC, bl_int, bl_abs, bl_len, subC, setIx, dispC, isT, isTy, eqI, blC, andC, orC, appC, forS, rg1, rg2, sqC, srcOf, rn1, rn2, rn3, rn4, line, parC, m1, m2, hlen, e1]
theorem st7 {a b c m : Int} {x1 x2 x3 x4 x5 x6 x8 : Option D} (c0 : 0 ≤ c) (c1 : c < 2 ^ 50) : ∃ a' b' c' m', s__law_sums_hold_7 (C2 k) [some (J a b c), x1, x2, x3, x4, x5, x6, some (.int m), x8] = some (.nx, [some (J a' b' c'), x1, x2, x3, x4, x5, x6, some (.int m'), x8]) ∧ c ≤ c' ∧ c' ≤ c + 6 := by
  obtain ⟨a1, b1, d1, r, e1, r0, r1, y1, z1⟩ := pick_ok (k := k + 1) (a := a) (b := b) (c := c) (m := 6) c0 (by omega) (by omega) (by omega)
  obtain ⟨a2, b2, d2, g, e2, y2, z2⟩ := great_ok (k := k) (a := a1) (b := b1) (c := d1) (by omega) (by omega)
  by_cases hr : r = 0
  · refine ⟨a2, b2, d2, -g, ?_, by omega, by omega⟩
    simp [s__law_sums_hold_7, s__law_sums_hold_6, finS, seqS, retS, rnS, nxS, cndS, asgC, flN, flT, flTs, callC, callA, sealA, cnA, nlA, rdN, looks, takes, backs, refsOf, clr, clrs, tkS, op2, op1, negD, vl, rf, look, cs, ixD, atI, ixN, bAdd, bSub, bMul, bDiv, bMod, bAnd, flat, flats, outL, asT, cmT, cmpD, iteC, notC, chainC, Ev.ret, bltC, bl_int, bl_abs, bl_len, subC, setIx, dispC, isT, isTy, eqI, blC, andC, orC, appC, forS, rg1, rg2, sqC, srcOf, rn1, rn2, rn3, rn4, line, parC, e1, e2, hr]
  · refine ⟨a1, b1, d1, m, ?_, by omega, by omega⟩
    simp [s__law_sums_hold_7, s__law_sums_hold_6, finS, seqS, retS, rnS, nxS, cndS, asgC, flN, flT, flTs, callC, callA, sealA, cnA, nlA, rdN, looks, takes, backs, refsOf, clr, clrs, tkS, op2, op1, negD, vl, rf, look, cs, ixD, atI, ixN, bAdd, bSub, bMul, bDiv, bMod, bAnd, flat, flats, outL, asT, cmT, cmpD, iteC, notC, chainC, Ev.ret, bltC, bl_int, bl_abs, bl_len, subC, setIx, dispC, isT, isTy, eqI, blC, andC, orC, appC, forS, rg1, rg2, sqC, srcOf, rn1, rn2, rn3, rn4, line, parC, e1, hr]
theorem step_s {B : Int} (F : Fh f h) (hB : B < 2 ^ 40) (i : Int) (n : Nat) (δ : EN) (hn : n < 100) (hh : PS' B f h n δ) : ∃ δ1 δ2, flN 6 (.int i) δ = some δ1 ∧ k__law_sums_hold_14 (C2 k) δ1 = some (.nx, δ2) ∧ PS' B f h (n + 1) δ2 := by
  obtain ⟨a, b, c, t, x6, x7, x8, cv, rfl, c0, c1⟩ := hh
  generalize ho : (if n = 0 then Ow.own else Ow.sh) = o
  have ho' : o = .own ∨ o = .sh := by
    rw [← ho]
    split
    · exact .inl rfl
    · exact .inr rfl
  obtain ⟨a1, b1, d1, m, e1, y1, z1⟩ := st5 (k := k) F (a := a) (b := b) (c := c) (o := o) (x3 := some (.int (wr h t))) (x4 := some (.int cv)) (x5 := some (.int t)) (x6 := some (.int i)) (x7 := x7) (x8 := x8) c0 (by omega)
  obtain ⟨a2, b2, d2, m2, e2, y2, z2⟩ := st7 (k := k) (a := a1) (b := b1) (c := d1) (m := m) (x1 := some (.int f)) (x2 := some (.lst o (zs (Rw h)))) (x3 := some (.int (wr h t))) (x4 := some (.int cv)) (x5 := some (.int t)) (x6 := some (.int i)) (x8 := x8) (by omega) (by omega)
  have w2 : callD T (k + 2) "_law_clips" [.int (cv + m2), .lst .sh (zs (Rw h))] = some (.lst .own (zs [cl h (cv + m2)]), [none, none]) := clips_ok F
  have q2 := eqL .own .own [cl h (cv + m2)] [cl h (cv + m2)]
  have q3 := clrs_ints (Rw h)
  have w3 : callD T (k + 2) "fitted" [.int (wr h t + m2), .int f, .str "wrap"] = some (.int (wr h (t + m2)), [none, none, none]) := by
    rw [← wr_add]
    exact wrap_ok F
  have w4 : callD T (k + 2) "fitted" [.int (cv + m2), .int f, .str "clip"] = some (.int (cl h (cv + m2)), [none, none, none]) := clip_ok F
  have e8 : s__law_sums_hold_8 (C2 k) [some (J a2 b2 d2), some (.int f), some (.lst o (zs (Rw h))), some (.int (wr h t)), some (.int cv), some (.int t), some (.int i), some (.int m2), x8] = some (.nx, [some (J a2 b2 d2), some (.int f), some (.lst o (zs (Rw h))), some (.int (wr h t)), some (.int cv), some (.int (t + m2)), some (.int i), some (.int m2), x8]) := by
    simp [s__law_sums_hold_8, finS, seqS, retS, rnS, nxS, cndS, asgC, flN, flT, flTs, callC, callA, sealA, cnA, nlA, rdN, looks, takes, backs, refsOf, clr, clrs, tkS, op2, op1, negD, vl, rf, look, cs, ixD, atI, ixN, bAdd, bSub, bMul, bDiv, bMod, bAnd, flat, flats, outL, asT, cmT, cmpD, iteC, notC, chainC, Ev.ret, bltC, bl_int, bl_abs, bl_len, subC, setIx, dispC, isT, isTy, eqI, blC, andC, orC, appC, forS, rg1, rg2, sqC, srcOf, rn1, rn2, rn3, rn4, line, parC]
  have e9 : s__law_sums_hold_9 (C2 k) [some (J a2 b2 d2), some (.int f), some (.lst o (zs (Rw h))), some (.int (wr h t)), some (.int cv), some (.int (t + m2)), some (.int i), some (.int m2), x8] = some (.nx, [some (J a2 b2 d2), some (.int f), some (.lst .sh (zs (Rw h))), some (.int (wr h t)), some (.int cv), some (.int (t + m2)), some (.int i), some (.int m2), some (.lst .own (zs [cl h (cv + m2)]))]) := by
    simp only [zs, List.map_cons, List.map_nil] at w2 q3
    rcases ho' with rfl | rfl <;> simp [s__law_sums_hold_9, finS, seqS, retS, rnS, nxS, cndS, asgC, flN, flT, flTs, callC, callA, sealA, cnA, nlA, rdN, looks, takes, backs, refsOf, clr, clrs, tkS, op2, op1, negD, vl, rf, look, cs, ixD, atI, ixN, bAdd, bSub, bMul, bDiv, bMod, bAnd, flat, flats, outL, asT, cmT, cmpD, iteC, notC, chainC, Ev.ret, bltC, bl_int, bl_abs, bl_len, subC, setIx, dispC, isT, isTy, eqI, blC, andC, orC, appC, forS, rg1, rg2, sqC, srcOf, rn1, rn2, rn3, rn4, line, parC, w2, q3]
  have e10 : s__law_sums_hold_10 (C2 k) [some (J a2 b2 d2), some (.int f), some (.lst .sh (zs (Rw h))), some (.int (wr h t)), some (.int cv), some (.int (t + m2)), some (.int i), some (.int m2), some (.lst .own (zs [cl h (cv + m2)]))] = some (.nx, [some (J a2 b2 d2), some (.int f), some (.lst .sh (zs (Rw h))), some (.int (wr h (t + m2))), some (.int cv), some (.int (t + m2)), some (.int i), some (.int m2), some (.lst .own (zs [cl h (cv + m2)]))]) := by
    simp [s__law_sums_hold_10, finS, seqS, retS, rnS, nxS, cndS, asgC, flN, flT, flTs, callC, callA, sealA, cnA, nlA, rdN, looks, takes, backs, refsOf, clr, clrs, tkS, op2, op1, negD, vl, rf, look, cs, ixD, atI, ixN, bAdd, bSub, bMul, bDiv, bMod, bAnd, flat, flats, outL, asT, cmT, cmpD, iteC, notC, chainC, Ev.ret, bltC, bl_int, bl_abs, bl_len, subC, setIx, dispC, isT, isTy, eqI, blC, andC, orC, appC, forS, rg1, rg2, sqC, srcOf, rn1, rn2, rn3, rn4, line, parC, w3]
  have e11 : s__law_sums_hold_11 (C2 k) [some (J a2 b2 d2), some (.int f), some (.lst .sh (zs (Rw h))), some (.int (wr h (t + m2))), some (.int cv), some (.int (t + m2)), some (.int i), some (.int m2), some (.lst .own (zs [cl h (cv + m2)]))] = some (.nx, [some (J a2 b2 d2), some (.int f), some (.lst .sh (zs (Rw h))), some (.int (wr h (t + m2))), some (.int (cl h (cv + m2))), some (.int (t + m2)), some (.int i), some (.int m2), some (.lst .own (zs [cl h (cv + m2)]))]) := by
    simp [s__law_sums_hold_11, finS, seqS, retS, rnS, nxS, cndS, asgC, flN, flT, flTs, callC, callA, sealA, cnA, nlA, rdN, looks, takes, backs, refsOf, clr, clrs, tkS, op2, op1, negD, vl, rf, look, cs, ixD, atI, ixN, bAdd, bSub, bMul, bDiv, bMod, bAnd, flat, flats, outL, asT, cmT, cmpD, iteC, notC, chainC, Ev.ret, bltC, bl_int, bl_abs, bl_len, subC, setIx, dispC, isT, isTy, eqI, blC, andC, orC, appC, forS, rg1, rg2, sqC, srcOf, rn1, rn2, rn3, rn4, line, parC, w4]
  have e13 : s__law_sums_hold_13 (C2 k) [some (J a2 b2 d2), some (.int f), some (.lst .sh (zs (Rw h))), some (.int (wr h (t + m2))), some (.int (cl h (cv + m2))), some (.int (t + m2)), some (.int i), some (.int m2), some (.lst .own (zs [cl h (cv + m2)]))] = some (.nx, [some (J a2 b2 d2), some (.int f), some (.lst .sh (zs (Rw h))), some (.int (wr h (t + m2))), some (.int (cl h (cv + m2))), some (.int (t + m2)), some (.int i), some (.int m2), some (.lst .own (zs [cl h (cv + m2)]))]) := by
    simp only [zs, List.map_cons, List.map_nil, decide_true] at q2
    simp [s__law_sums_hold_13, finS, seqS, retS, rnS, nxS, cndS, asgC, flN, flT, flTs, callC, callA, sealA, cnA, nlA, rdN, looks, takes, backs, refsOf, clr, clrs, tkS, op2, op1, negD, vl, rf, look, cs, ixD, atI, ixN, bAdd, bSub, bMul, bDiv, bMod, bAnd, flat, flats, outL, asT, cmT, cmpD, iteC, notC, chainC, Ev.ret, bltC, bl_int, bl_abs, bl_len, subC, setIx, dispC, isT, isTy, eqI, blC, andC, orC, appC, forS, rg1, rg2, sqC, srcOf, rn1, rn2, rn3, rn4, line, parC, q2]
  refine ⟨[some (J a b c), some (.int f), some (.lst o (zs (Rw h))), some (.int (wr h t)), some (.int cv), some (.int t), some (.int i), x7, x8], [some (J a2 b2 d2), some (.int f), some (.lst .sh (zs (Rw h))), some (.int (wr h (t + m2))), some (.int (cl h (cv + m2))), some (.int (t + m2)), some (.int i), some (.int m2), some (.lst .own (zs [cl h (cv + m2)]))], by simp [flN], by simp only [k__law_sums_hold_14, seqS, nxS, e1, e2, e8, e9, e10, e11, e13], a2, b2, d2, t + m2, some (.int i), some (.int m2), some (.lst .own (zs [cl h (cv + m2)])), cl h (cv + m2), by simp, by omega, by omega⟩
theorem sums_ok (F : Fh f h) {a b c : Int} (c0 : 0 ≤ c) (c1 : c < 2 ^ 39) : ∃ a' b' c', callD T (k + 3) "_law_sums_hold" [J a b c, .int f] = some (.bl true, [some (J a' b' c'), none]) ∧ 0 ≤ c' ∧ c' ≤ c + 1000 := by
  have hp := F.pos
  have w0 : wr h 0 = 0 := wr_in (by omega) (by omega) (by omega)
  rw [c__law_sums_hold rfl]
  show ∃ a' b' c', finS 2 [0] (b__law_sums_hold (C2 k) [some (J a b c), some (.int f), none, none, none, none, none, none, none]) = _ ∧ _
  have s1 : s__law_sums_hold_1 (C2 k) [some (J a b c), some (.int f), none, none, none, none, none, none, none] = some (.nx, [some (J a b c), some (.int f), some (.lst .own (zs (Rw h))), none, none, none, none, none, none]) := by
    simp [s__law_sums_hold_1, finS, seqS, retS, rnS, nxS, cndS, asgC, flN, flT, flTs, callC, callA, sealA, cnA, nlA, rdN, looks, takes, backs, refsOf, clr, clrs, tkS, op2, op1, negD, vl, rf, look, cs, ixD, atI, ixN, bAdd, bSub, bMul, bDiv, bMod, bAnd, flat, flats, outL, asT, cmT, cmpD, iteC, notC, chainC, Ev.ret, bltC, bl_int, bl_abs, bl_len, subC, setIx, dispC, isT, isTy, eqI, blC, andC, orC, appC, forS, rg1, rg2, sqC, srcOf, rn1, rn2, rn3, rn4, line, parC, all_of_ok F]
  have s2 : s__law_sums_hold_2 (C2 k) [some (J a b c), some (.int f), some (.lst .own (zs (Rw h))), none, none, none, none, none, none] = some (.nx, [some (J a b c), some (.int f), some (.lst .own (zs (Rw h))), some (.int 0), none, none, none, none, none]) := by
    simp [s__law_sums_hold_2, finS, seqS, retS, rnS, nxS, cndS, asgC, flN, flT, flTs, callC, callA, sealA, cnA, nlA, rdN, looks, takes, backs, refsOf, clr, clrs, tkS, op2, op1, negD, vl, rf, look, cs, ixD, atI, ixN, bAdd, bSub, bMul, bDiv, bMod, bAnd, flat, flats, outL, asT, cmT, cmpD, iteC, notC, chainC, Ev.ret, bltC, bl_int, bl_abs, bl_len, subC, setIx, dispC, isT, isTy, eqI, blC, andC, orC, appC, forS, rg1, rg2, sqC, srcOf, rn1, rn2, rn3, rn4, line, parC]
  have s3 : s__law_sums_hold_3 (C2 k) [some (J a b c), some (.int f), some (.lst .own (zs (Rw h))), some (.int 0), none, none, none, none, none] = some (.nx, [some (J a b c), some (.int f), some (.lst .own (zs (Rw h))), some (.int 0), some (.int 0), none, none, none, none]) := by
    simp [s__law_sums_hold_3, finS, seqS, retS, rnS, nxS, cndS, asgC, flN, flT, flTs, callC, callA, sealA, cnA, nlA, rdN, looks, takes, backs, refsOf, clr, clrs, tkS, op2, op1, negD, vl, rf, look, cs, ixD, atI, ixN, bAdd, bSub, bMul, bDiv, bMod, bAnd, flat, flats, outL, asT, cmT, cmpD, iteC, notC, chainC, Ev.ret, bltC, bl_int, bl_abs, bl_len, subC, setIx, dispC, isT, isTy, eqI, blC, andC, orC, appC, forS, rg1, rg2, sqC, srcOf, rn1, rn2, rn3, rn4, line, parC]
  have s4 : s__law_sums_hold_4 (C2 k) [some (J a b c), some (.int f), some (.lst .own (zs (Rw h))), some (.int 0), some (.int 0), none, none, none, none] = some (.nx, [some (J a b c), some (.int f), some (.lst .own (zs (Rw h))), some (.int 0), some (.int 0), some (.int 0), none, none, none]) := by
    simp [s__law_sums_hold_4, finS, seqS, retS, rnS, nxS, cndS, asgC, flN, flT, flTs, callC, callA, sealA, cnA, nlA, rdN, looks, takes, backs, refsOf, clr, clrs, tkS, op2, op1, negD, vl, rf, look, cs, ixD, atI, ixN, bAdd, bSub, bMul, bDiv, bMod, bAnd, flat, flats, outL, asT, cmT, cmpD, iteC, notC, chainC, Ev.ret, bltC, bl_int, bl_abs, bl_len, subC, setIx, dispC, isT, isTy, eqI, blC, andC, orC, appC, forS, rg1, rg2, sqC, srcOf, rn1, rn2, rn3, rn4, line, parC]
  obtain ⟨a1, b1, d1, r, e1, r0, r1, y1, z1⟩ := pick_ok (k := k + 1) (a := a) (b := b) (c := c) (m := 8) c0 (by omega) (by omega) (by omega)
  obtain ⟨δ', e2, p⟩ := forL_inv (fill := flN 6) (body := k__law_sums_hold_14 (C2 k)) (P := PS' d1 f h) (N := 20) (Src.rng 0 (2 + r).toNat).items 0 [some (J a1 b1 d1), some (.int f), some (.lst .own (zs (Rw h))), some (.int 0), some (.int 0), some (.int 0), none, none, none] (fun d hd n δ hn hp => by
    obtain ⟨i, rfl, _⟩ := rng_mem hd
    exact step_s F (by omega) i n δ (by omega) hp) (by rw [rng_len]; omega) ⟨a1, b1, d1, 0, none, none, none, 0, by rw [w0]; rfl, by omega, by omega⟩
  rw [rng_len] at p
  have hne : ¬ (0 + (2 + r).toNat = 0) := by omega
  obtain ⟨a2, b2, d2, t, x6, x7, x8, cv, rfl, c2, c3⟩ := p
  rw [if_neg hne] at e2
  have g1 : rngOk (2 + r) = true := by rw [rngOk_iff]; omega
  have s15 : s__law_sums_hold_15 (C2 k) [some (J a b c), some (.int f), some (.lst .own (zs (Rw h))), some (.int 0), some (.int 0), some (.int 0), none, none, none] = some (.nx, [some (J a2 b2 d2), some (.int f), some (.lst .sh (zs (Rw h))), some (.int (wr h t)), some (.int cv), some (.int t), x6, x7, x8]) := by
    rw [← e2]
    simp [s__law_sums_hold_15, finS, seqS, retS, rnS, nxS, cndS, asgC, flN, flT, flTs, callC, callA, sealA, cnA, nlA, rdN, looks, takes, backs, refsOf, clr, clrs, tkS, op2, op1, negD, vl, rf, look, cs, ixD, atI, ixN, bAdd, bSub, bMul, bDiv, bMod, bAnd, flat, flats, outL, asT, cmT, cmpD, iteC, notC, chainC, Ev.ret, bltC, bl_int, bl_abs, bl_len, subC, setIx, dispC, isT, isTy, eqI, blC, andC, orC, appC, forS, rg1, rg2, sqC, srcOf, rn1, rn2, rn3, rn4, line, parC, e1, g1]
  have w1 : callD T (k + 2) "_law_wraps" [.int t, .lst .sh (zs (Rw h))] = some (.lst .own (zs [wr h t]), [none, none]) := wraps_ok F
  have q1 := eqL .own .own [wr h t] [wr h t]
  have s16 : s__law_sums_hold_16 (C2 k) [some (J a2 b2 d2), some (.int f), some (.lst .sh (zs (Rw h))), some (.int (wr h t)), some (.int cv), some (.int t), x6, x7, x8] = some (.rt (.bl true), [some (J a2 b2 d2), some (.int f), some (.lst .sh (zs (Rw h))), some (.int (wr h t)), some (.int cv), some (.int t), x6, x7, x8]) := by
    simp only [zs, List.map_cons, List.map_nil, decide_true] at q1 w1
    simp [s__law_sums_hold_16, finS, seqS, retS, rnS, nxS, cndS, asgC, flN, flT, flTs, callC, callA, sealA, cnA, nlA, rdN, looks, takes, backs, refsOf, clr, clrs, tkS, op2, op1, negD, vl, rf, look, cs, ixD, atI, ixN, bAdd, bSub, bMul, bDiv, bMod, bAnd, flat, flats, outL, asT, cmT, cmpD, iteC, notC, chainC, Ev.ret, bltC, bl_int, bl_abs, bl_len, subC, setIx, dispC, isT, isTy, eqI, blC, andC, orC, appC, forS, rg1, rg2, sqC, srcOf, rn1, rn2, rn3, rn4, line, parC, q1, w1]
  refine ⟨a2, b2, d2, ?_, c2, by omega⟩
  simp only [b__law_sums_hold, seqS, s1, s2, s3, s4, s15, s16]
  rfl
end
end K12

namespace K12
open PySem PySem.Spec PyProof.Rows L2 PyD
abbrev C4 := callD T 4
abbrev scr (ns : List Int) : Option D := some (.lst .lk (ns.map .int))
section
variable {ns : List Int} {f h n f0 h0 : Int} {x0 x1 x2 x3 x4 x5 x6 x7 x8 x9 x10 : Option D}
theorem q1 : ∃ a b, s_law_1 C4 [scr ns, none, none, none, none, none, none, none, none, none, none] = some (.nx, [scr ns, some (J a b 0), none, none, none, none, none, none, none, none, none]) := by
  obtain ⟨a, b, e⟩ := jar_ok (k := 3) (ns := ns) (i := 0) (by omega) (by omega)
  refine ⟨a, b, ?_⟩
  simp [s_law_1, finS, seqS, retS, rnS, nxS, cndS, asgC, flN, flT, flTs, callC, callA, sealA, cnA, nlA, rdN, looks, takes, backs, refsOf, clr, clrs, tkS, op2, op1, negD, vl, rf, look, cs, ixD, atI, ixN, bAdd, bSub, bMul, bDiv, bMod, bAnd, flat, flats, outL, asT, cmT, cmpD, iteC, notC, chainC, Ev.ret, bltC, bl_int, bl_abs, bl_len, subC, setIx, dispC, isT, isTy, eqI, blC, andC, orC, appC, forS, rg1, rg2, sqC, srcOf, rn1, rn2, rn3, rn4, line, parC, e]
theorem q2 {a b : Int} : ∃ j r, s_law_2 C4 [x0, some (J a b 0), x2, x3, x4, x5, x6, x7, x8, x9, x10] = some (.nx, [x0, j, some (.int r), x3, x4, x5, x6, x7, x8, x9, x10]) ∧ 1 ≤ r ∧ r ≤ 6 := by
  obtain ⟨a1, b1, c1, r, e1, r0, r1, y1, z1⟩ := pick_ok (k := 3) (a := a) (b := b) (c := 0) (m := 6) (by omega) (by omega) (by omega) (by omega)
  refine ⟨some (J a1 b1 c1), 1 + r, ?_, by omega, by omega⟩
  simp [s_law_2, finS, seqS, retS, rnS, nxS, cndS, asgC, flN, flT, flTs, callC, callA, sealA, cnA, nlA, rdN, looks, takes, backs, refsOf, clr, clrs, tkS, op2, op1, negD, vl, rf, look, cs, ixD, atI, ixN, bAdd, bSub, bMul, bDiv, bMod, bAnd, flat, flats, outL, asT, cmT, cmpD, iteC, notC, chainC, Ev.ret, bltC, bl_int, bl_abs, bl_len, subC, setIx, dispC, isT, isTy, eqI, blC, andC, orC, appC, forS, rg1, rg2, sqC, srcOf, rn1, rn2, rn3, rn4, line, parC, e1]
theorem q3 (F : Fh f0 h0) : s_law_3 C4 [x0, x1, some (.int f0), none, x4, x5, x6, x7, x8, x9, x10] = some (.nx, [x0, x1, some (.int f0), some (.int h0), x4, x5, x6, x7, x8, x9, x10]) := by
  have l := lsh1 F
  simp [s_law_3, finS, seqS, retS, rnS, nxS, cndS, asgC, flN, flT, flTs, callC, callA, sealA, cnA, nlA, rdN, looks, takes, backs, refsOf, clr, clrs, tkS, op2, op1, negD, vl, rf, look, cs, ixD, atI, ixN, bAdd, bSub, bMul, bDiv, bMod, bAnd, flat, flats, outL, asT, cmT, cmpD, iteC, notC, chainC, Ev.ret, bltC, bl_int, bl_abs, bl_len, subC, setIx, dispC, isT, isTy, eqI, blC, andC, orC, appC, forS, rg1, rg2, sqC, srcOf, rn1, rn2, rn3, rn4, line, parC, l]
theorem q6 (F : Fh f0 h0) : k_law_6 C4 [x0, x1, some (.int f0), x3, some (.int n), x5, x6, x7, x8, x9, x10] = some (.nx, [x0, x1, some (.int f0), x3, some (.int n), x5, x6, x7, x8, x9, x10]) := by
  have e : callD T 4 "_law_number_holds" [.int n, .int f0] = some (.bl true, [none, none]) := nh (k := 1) F
  simp [k_law_6, s_law_5, finS, seqS, retS, rnS, nxS, cndS, asgC, flN, flT, flTs, callC, callA, sealA, cnA, nlA, rdN, looks, takes, backs, refsOf, clr, clrs, tkS, op2, op1, negD, vl, rf, look, cs, ixD, atI, ixN, bAdd, bSub, bMul, bDiv, bMod, bAnd, flat, flats, outL, asT, cmT, cmpD, iteC, notC, chainC, Ev.ret, bltC, bl_int, bl_abs, bl_len, subC, setIx, dispC, isT, isTy, eqI, blC, andC, orC, appC, forS, rg1, rg2, sqC, srcOf, rn1, rn2, rn3, rn4, line, parC, e]
theorem q16 (F : Fh f h) : k_law_16 C4 [x0, x1, x2, x3, some (.int n), some (.int f), x6, x7, x8, x9, x10] = some (.nx, [x0, x1, x2, x3, some (.int n), some (.int f), x6, x7, x8, x9, x10]) := by
  have e : callD T 4 "_law_number_holds" [.int n, .int f] = some (.bl true, [none, none]) := nh (k := 1) F
  simp [k_law_16, s_law_15, finS, seqS, retS, rnS, nxS, cndS, asgC, flN, flT, flTs, callC, callA, sealA, cnA, nlA, rdN, looks, takes, backs, refsOf, clr, clrs, tkS, op2, op1, negD, vl, rf, look, cs, ixD, atI, ixN, bAdd, bSub, bMul, bDiv, bMod, bAnd, flat, flats, outL, asT, cmT, cmpD, iteC, notC, chainC, Ev.ret, bltC, bl_int, bl_abs, bl_len, subC, setIx, dispC, isT, isTy, eqI, blC, andC, orC, appC, forS, rg1, rg2, sqC, srcOf, rn1, rn2, rn3, rn4, line, parC, e]
def P4 (x0 x1 x2 x3 x5 x6 x7 x8 x9 x10 : Option D) (_ : Nat) (δ : EN) : Prop := ∃ x4, δ = [x0, x1, x2, x3, x4, x5, x6, x7, x8, x9, x10]
theorem q7 (F : Fh f0 h0) : ∃ y4, s_law_7 C4 [x0, x1, some (.int f0), some (.int h0), x4, x5, x6, x7, x8, x9, x10] = some (.nx, [x0, x1, some (.int f0), some (.int h0), y4, x5, x6, x7, x8, x9, x10]) := by
  have hp := F.pos
  have m3 : ∀ x, mulOk 3 x = true := fun x => mulOk_l (by omega) (by omega)
  have m4 : ∀ x, mulOk (-3) x = true := fun x => mulOk_l (by omega) (by omega)
  have g1 : rngOk (-3 * h0 - 2) = true := by rw [rngOk_iff]; omega
  have g2 : rngOk (3 * h0 + 2) = true := by rw [rngOk_iff]; omega
  obtain ⟨δ', e, y4, rfl⟩ := forL_inv (fill := flN 4) (body := k_law_6 C4) (P := P4 x0 x1 (some (.int f0)) (some (.int h0)) x5 x6 x7 x8 x9 x10) (N := 1000) (Src.rng (-3 * h0 - 2) (3 * h0 + 2 - (-3 * h0 - 2)).toNat).items 0 [x0, x1, some (.int f0), some (.int h0), x4, x5, x6, x7, x8, x9, x10] (fun d hd n δ hn hp => by
    obtain ⟨i, rfl, _⟩ := rng_mem hd
    obtain ⟨x4, rfl⟩ := hp
    exact ⟨[x0, x1, some (.int f0), some (.int h0), some (.int i), x5, x6, x7, x8, x9, x10], [x0, x1, some (.int f0), some (.int h0), some (.int i), x5, x6, x7, x8, x9, x10], by simp [flN], q6 F, some (.int i), rfl⟩) (by rw [rng_len]; omega) ⟨x4, rfl⟩
  refine ⟨y4, ?_⟩
  rw [← e]
  simp [s_law_7, finS, seqS, retS, rnS, nxS, cndS, asgC, flN, flT, flTs, callC, callA, sealA, cnA, nlA, rdN, looks, takes, backs, refsOf, clr, clrs, tkS, op2, op1, negD, vl, rf, look, cs, ixD, atI, ixN, bAdd, bSub, bMul, bDiv, bMod, bAnd, flat, flats, outL, asT, cmT, cmpD, iteC, notC, chainC, Ev.ret, bltC, bl_int, bl_abs, bl_len, subC, setIx, dispC, isT, isTy, eqI, blC, andC, orC, appC, forS, rg1, rg2, sqC, srcOf, rn1, rn2, rn3, rn4, line, parC, m3, m4, g1, g2]
theorem ix0 (F : Fh f h) : ixD (.lst .own (zs (Rw h))) (.int 0) = some (.int (-h)) := by
  rcases F with ⟨rfl, rfl⟩ | ⟨rfl, rfl⟩ | ⟨rfl, rfl⟩ | ⟨rfl, rfl⟩ | ⟨rfl, rfl⟩ | ⟨rfl, rfl⟩ <;> rfl
theorem ixl (F : Fh f h) : ixD (.lst .own (zs (Rw h))) (.int (-1)) = some (.int (h - 1)) := by
  rcases F with ⟨rfl, rfl⟩ | ⟨rfl, rfl⟩ | ⟨rfl, rfl⟩ | ⟨rfl, rfl⟩ | ⟨rfl, rfl⟩ | ⟨rfl, rfl⟩ <;> rfl
theorem eqT (a b : Int) : eqD (.tup [.int a, .int b]) (.tup [.int a, .int b]) = some true := by
  simp [eqD, okD, okDs, toPy, toPys, PyData.eqv, PyData.eqvAll]
theorem q8 (F : Fh f h) : s_law_8 C4 [x0, x1, x2, x3, x4, some (.int f), x6, x7, x8, x9, x10] = some (.nx, [x0, x1, x2, x3, x4, some (.int f), some (.tup [.int (-h), .int (h - 1)]), x7, x8, x9, x10]) := by
  have e : callD T 4 "range_of" [.int f] = some (.tup [.int (-h), .int (h - 1)], [none]) := range_of_ok (k := 3) F
  simp [s_law_8, finS, seqS, retS, rnS, nxS, cndS, asgC, flN, flT, flTs, callC, callA, sealA, cnA, nlA, rdN, looks, takes, backs, refsOf, clr, clrs, tkS, op2, op1, negD, vl, rf, look, cs, ixD, atI, ixN, bAdd, bSub, bMul, bDiv, bMod, bAnd, flat, flats, outL, asT, cmT, cmpD, iteC, notC, chainC, Ev.ret, bltC, bl_int, bl_abs, bl_len, subC, setIx, dispC, isT, isTy, eqI, blC, andC, orC, appC, forS, rg1, rg2, sqC, srcOf, rn1, rn2, rn3, rn4, line, parC, e]
theorem q9 (F : Fh f h) : s_law_9 C4 [x0, x1, x2, x3, x4, some (.int f), x6, x7, x8, x9, x10] = some (.nx, [x0, x1, x2, x3, x4, some (.int f), x6, some (.lst .own (zs (Rw h))), x8, x9, x10]) := by
  have e : callD T 4 "_law_all_of" [.int f] = some (.lst .own (zs (Rw h)), [none]) := all_of_ok (k := 3) F
  simp [s_law_9, finS, seqS, retS, rnS, nxS, cndS, asgC, flN, flT, flTs, callC, callA, sealA, cnA, nlA, rdN, looks, takes, backs, refsOf, clr, clrs, tkS, op2, op1, negD, vl, rf, look, cs, ixD, atI, ixN, bAdd, bSub, bMul, bDiv, bMod, bAnd, flat, flats, outL, asT, cmT, cmpD, iteC, notC, chainC, Ev.ret, bltC, bl_int, bl_abs, bl_len, subC, setIx, dispC, isT, isTy, eqI, blC, andC, orC, appC, forS, rg1, rg2, sqC, srcOf, rn1, rn2, rn3, rn4, line, parC, e]
theorem q11 (F : Fh f h) : s_law_11 C4 [x0, x1, x2, x3, x4, x5, some (.tup [.int (-h), .int (h - 1)]), some (.lst .own (zs (Rw h))), x8, x9, x10] = some (.nx, [x0, x1, x2, x3, x4, x5, some (.tup [.int (-h), .int (h - 1)]), some (.lst .own (zs (Rw h))), x8, x9, x10]) := by
  have e1 := ix0 F
  have e2 := ixl F
  have e3 := eqT (-h) (h - 1)
  simp [s_law_11, finS, seqS, retS, rnS, nxS, cndS, asgC, flN, flT, flTs, callC, callA, sealA, cnA, nlA, rdN, looks, takes, backs, refsOf, clr, clrs, tkS, op2, op1, negD, vl, rf, look, cs, bAdd, bSub, bMul, bDiv, bMod, bAnd, flat, flats, outL, asT, cmT, cmpD, iteC, notC, chainC, Ev.ret, bltC, bl_int, bl_abs, bl_len, subC, setIx, dispC, isT, isTy, eqI, blC, andC, orC, appC, forS, rg1, rg2, sqC, srcOf, rn1, rn2, rn3, rn4, line, parC, e1, e2, e3]
theorem q13 : s_law_13 C4 [x0, x1, x2, x3, x4, x5, some (.tup [.int (-h), .int (h - 1)]), x7, x8, x9, none] = some (.nx, [x0, x1, x2, x3, x4, x5, some (.tup [.int (-h), .int (h - 1)]), x7, x8, x9, none]) := by
  have e : compC (sqC (rdN 6)) (flN 10) (notC (asT (callC (cnA (vl (rdN 10)) nlA) C4 "_law_is_int" [false]))) (rdN 10) [10] [x0, x1, x2, x3, x4, x5, some (.tup [.int (-h), .int (h - 1)]), x7, x8, x9, none] = some (.lst .own (zs ((([-h, h - 1] : List Int).filter fun _ => false).map fun x => x)), [x0, x1, x2, x3, x4, x5, some (.tup [.int (-h), .int (h - 1)]), x7, x8, x9, none]) := by
    refine comp_ok' (δx := fun x => [x0, x1, x2, x3, x4, x5, some (.tup [.int (-h), .int (h - 1)]), x7, x8, x9, some (.int x)]) ?_ rfl ?_ ?_ ?_ ?_ (by simp)
    · simp [finS, seqS, retS, rnS, nxS, cndS, asgC, flN, flT, flTs, callC, callA, sealA, cnA, nlA, rdN, looks, takes, backs, refsOf, clr, clrs, tkS, op2, op1, negD, vl, rf, look, cs, ixD, atI, ixN, bAdd, bSub, bMul, bDiv, bMod, bAnd, flat, flats, outL, asT, cmT, cmpD, iteC, notC, chainC, Ev.ret, bltC, bl_int, bl_abs, bl_len, subC, setIx, dispC, isT, isTy, eqI, blC, andC, orC, appC, forS, rg1, rg2, sqC, srcOf, rn1, rn2, rn3, rn4, line, parC]
    · intro x; simp [flN]
    · intro x
      have e : callD T 4 "_law_is_int" [.int x] = some (.bl true, [none]) := is_int (k := 3)
      simp [finS, seqS, retS, rnS, nxS, cndS, asgC, flN, flT, flTs, callC, callA, sealA, cnA, nlA, rdN, looks, takes, backs, refsOf, clr, clrs, tkS, op2, op1, negD, vl, rf, look, cs, ixD, atI, ixN, bAdd, bSub, bMul, bDiv, bMod, bAnd, flat, flats, outL, asT, cmT, cmpD, iteC, notC, chainC, Ev.ret, bltC, bl_int, bl_abs, bl_len, subC, setIx, dispC, isT, isTy, eqI, blC, andC, orC, appC, forS, rg1, rg2, sqC, srcOf, rn1, rn2, rn3, rn4, line, parC, e]
    · intro x; simp [finS, seqS, retS, rnS, nxS, cndS, asgC, flN, flT, flTs, callC, callA, sealA, cnA, nlA, rdN, looks, takes, backs, refsOf, clr, clrs, tkS, op2, op1, negD, vl, rf, look, cs, ixD, atI, ixN, bAdd, bSub, bMul, bDiv, bMod, bAnd, flat, flats, outL, asT, cmT, cmpD, iteC, notC, chainC, Ev.ret, bltC, bl_int, bl_abs, bl_len, subC, setIx, dispC, isT, isTy, eqI, blC, andC, orC, appC, forS, rg1, rg2, sqC, srcOf, rn1, rn2, rn3, rn4, line, parC]
    · intro x; rfl
  have hb : s_law_13 C4 = cndS (asT (op2 (vl (compC (sqC (rdN 6)) (flN 10) (notC (asT (callC (cnA (vl (rdN 10)) nlA) C4 "_law_is_int" [false]))) (rdN 10) [10])) (vl (dispC nlA (.lst .own))) (cmT .NotEq))) (seqS (s_law_12 C4) nxS) nxS := rfl
  rw [hb]
  generalize compC (sqC (rdN 6)) (flN 10) (notC (asT (callC (cnA (vl (rdN 10)) nlA) C4 "_law_is_int" [false]))) (rdN 10) [10] = V at *
  have q := eqL .own .own [] []
  simp only [zs, List.map_nil, decide_true] at q
  have e' : V [x0, x1, x2, x3, x4, x5, some (.tup [.int (-h), .int (h - 1)]), x7, x8, x9, none] = some (.lst .own [], [x0, x1, x2, x3, x4, x5, some (.tup [.int (-h), .int (h - 1)]), x7, x8, x9, none]) := e
  simp [finS, seqS, retS, rnS, nxS, cndS, asgC, flN, flT, flTs, callC, callA, sealA, cnA, nlA, rdN, looks, takes, backs, refsOf, clr, clrs, tkS, op2, op1, negD, vl, rf, look, cs, ixD, atI, ixN, bAdd, bSub, bMul, bDiv, bMod, bAnd, flat, flats, outL, asT, cmT, cmpD, iteC, notC, chainC, Ev.ret, bltC, bl_int, bl_abs, bl_len, subC, setIx, dispC, isT, isTy, eqI, blC, andC, orC, appC, forS, rg1, rg2, sqC, srcOf, rn1, rn2, rn3, rn4, line, parC, e', q]
theorem q17 (F : Fh f h) : ∃ y4, s_law_17 C4 [scr ns, x1, x2, x3, x4, some (.int f), x6, x7, x8, x9, x10] = some (.nx, [scr ns, x1, x2, x3, y4, some (.int f), x6, x7, x8, x9, x10]) := by
  have hf : 0 ≤ f ∧ f < 100 := by unfold Fh at F; omega
  obtain ⟨a, b, e1⟩ := jar_ok (k := 3) (ns := ns) (i := f) hf.1 hf.2
  obtain ⟨j, L, e2⟩ := numbers_ok (k := 1) F (a := a) (b := b)
  obtain ⟨δ', e, y4, rfl⟩ := forL_inv (fill := flN 4) (body := k_law_16 C4) (P := P4 (scr ns) x1 x2 x3 (some (.int f)) x6 x7 x8 x9 x10) (N := L.length) (zs L) 0 [scr ns, x1, x2, x3, x4, some (.int f), x6, x7, x8, x9, x10] (fun d hd n δ hn hp => by
    obtain ⟨i, _, rfl⟩ := List.mem_map.mp hd
    obtain ⟨x4, rfl⟩ := hp
    exact ⟨[scr ns, x1, x2, x3, some (.int i), some (.int f), x6, x7, x8, x9, x10], [scr ns, x1, x2, x3, some (.int i), some (.int f), x6, x7, x8, x9, x10], by simp [flN], q16 F, some (.int i), rfl⟩) (by simp) ⟨x4, rfl⟩
  refine ⟨y4, ?_⟩
  rw [← e]
  have q3 := clrs_ints L
  have e1' : callD T 4 "_law_jar" [.lst .lk (ns.map .int), .int f] = some (J a b 0, [none, none]) := e1
  have e2' : callD T 4 "_law_numbers" [J a b 0, .int f] = some (.lst .own (zs L), [j, none]) := e2
  simp only [zs] at q3 e2'
  simp [s_law_17, finS, seqS, retS, rnS, nxS, cndS, asgC, flN, flT, flTs, callC, callA, sealA, cnA, nlA, rdN, looks, takes, backs, refsOf, clr, clrs, tkS, op2, op1, negD, vl, rf, look, cs, ixD, atI, ixN, bAdd, bSub, bMul, bDiv, bMod, bAnd, flat, flats, outL, asT, cmT, cmpD, iteC, notC, chainC, Ev.ret, bltC, bl_int, bl_abs, bl_len, subC, setIx, dispC, isT, isTy, eqI, blC, andC, orC, appC, forS, rg1, rg2, sqC, srcOf, rn1, rn2, rn3, rn4, line, parC, e1', e2', q3, Src.items]
def P18 (ns : List Int) (x1 x2 x3 : Option D) (_ : Nat) (δ : EN) : Prop := ∃ x4 x5 x6 x7, δ = [scr ns, x1, x2, x3, x4, x5, x6, x7, none, none, none]
theorem q19 : ∃ y4 y5 y6 y7, s_law_19 C4 [scr ns, x1, x2, x3, x4, none, none, none, none, none, none] = some (.nx, [scr ns, x1, x2, x3, y4, y5, y6, y7, none, none, none]) := by
  obtain ⟨δ', e, y4, y5, y6, y7, rfl⟩ := forL_inv (fill := flN 5) (body := k_law_18 C4) (P := P18 ns x1 x2 x3) (N := 6) (Src.rng 1 6).items 0 [scr ns, x1, x2, x3, x4, none, none, none, none, none, none] (fun d hd n δ hn hp => by
    obtain ⟨i, rfl, i0, i1⟩ := rng_mem hd
    obtain ⟨x4, x5, x6, x7, rfl⟩ := hp
    obtain ⟨h, F⟩ := Fh.of (f := i) i0 (by omega)
    obtain ⟨y4, e17⟩ := q17 (ns := ns) (x1 := x1) (x2 := x2) (x3 := x3) (x4 := x4) (x6 := some (.tup [.int (-h), .int (h - 1)])) (x7 := some (.lst .own (zs (Rw h)))) (x8 := none) (x9 := none) (x10 := none) F
    exact ⟨[scr ns, x1, x2, x3, x4, some (.int i), x6, x7, none, none, none], [scr ns, x1, x2, x3, y4, some (.int i), some (.tup [.int (-h), .int (h - 1)]), some (.lst .own (zs (Rw h))), none, none, none], by simp [flN], by simp only [k_law_18, seqS, nxS, q8 F, q9 F, q11 F, q13, e17], y4, some (.int i), _, _, rfl⟩) (by decide) ⟨x4, none, none, none, rfl⟩
  refine ⟨y4, y5, y6, y7, ?_⟩
  rw [← e]
  rfl
theorem q20 : ∃ a b, s_law_20 C4 [scr ns, x1, x2, x3, x4, x5, x6, x7, none, x9, x10] = some (.nx, [scr ns, x1, x2, x3, x4, x5, x6, x7, some (J a b 0), x9, x10]) := by
  obtain ⟨a, b, e⟩ := jar_ok (k := 3) (ns := ns) (i := 7) (by omega) (by omega)
  refine ⟨a, b, ?_⟩
  simp [s_law_20, finS, seqS, retS, rnS, nxS, cndS, asgC, flN, flT, flTs, callC, callA, sealA, cnA, nlA, rdN, looks, takes, backs, refsOf, clr, clrs, tkS, op2, op1, negD, vl, rf, look, cs, ixD, atI, ixN, bAdd, bSub, bMul, bDiv, bMod, bAnd, flat, flats, outL, asT, cmT, cmpD, iteC, notC, chainC, Ev.ret, bltC, bl_int, bl_abs, bl_len, subC, setIx, dispC, isT, isTy, eqI, blC, andC, orC, appC, forS, rg1, rg2, sqC, srcOf, rn1, rn2, rn3, rn4, line, parC, e]
def P23 (x0 x1 x2 x3 x4 x5 x6 x7 x10 : Option D) (n : Nat) (δ : EN) : Prop := ∃ a b c x9, δ = [x0, x1, x2, x3, x4, x5, x6, x7, some (J a b c), x9, x10] ∧ 0 ≤ c ∧ c ≤ 2000 * n
theorem q23 {a b c : Int} (c0 : 0 ≤ c) (c1 : c < 10000) : ∃ a' b' c', k_law_23 C4 [x0, x1, x2, x3, x4, x5, x6, x7, some (J a b c), x9, x10] = some (.nx, [x0, x1, x2, x3, x4, x5, x6, x7, some (J a' b' c'), x9, x10]) ∧ 0 ≤ c' ∧ c' ≤ c + 2000 := by
  obtain ⟨a1, b1, d1, r, e1, r0, r1, y1, z1⟩ := pick_ok (k := 3) (a := a) (b := b) (c := c) (m := 6) c0 (by omega) (by omega) (by omega)
  obtain ⟨h, F⟩ := Fh.of (f := 1 + r) (by omega) (by omega)
  obtain ⟨a2, b2, d2, e2, y2, z2⟩ := sums_ok (k := 1) F (a := a1) (b := b1) (c := d1) (by omega) (by omega)
  refine ⟨a2, b2, d2, ?_, y2, by omega⟩
  have e1' : callD T 4 "_law_pick" [J a b c, .int 6] = some (.int r, [some (J a1 b1 d1), none]) := e1
  have e2' : callD T 4 "_law_sums_hold" [J a1 b1 d1, .int (1 + r)] = some (.bl true, [some (J a2 b2 d2), none]) := e2
  simp [k_law_23, s_law_22, finS, seqS, retS, rnS, nxS, cndS, asgC, flN, flT, flTs, callC, callA, sealA, cnA, nlA, rdN, looks, takes, backs, refsOf, clr, clrs, tkS, op2, op1, negD, vl, rf, look, cs, ixD, atI, ixN, bAdd, bSub, bMul, bDiv, bMod, bAnd, flat, flats, outL, asT, cmT, cmpD, iteC, notC, chainC, Ev.ret, bltC, bl_int, bl_abs, bl_len, subC, setIx, dispC, isT, isTy, eqI, blC, andC, orC, appC, forS, rg1, rg2, sqC, srcOf, rn1, rn2, rn3, rn4, line, parC, e1', e2']
theorem q24 {a b : Int} : ∃ y8 y9, s_law_24 C4 [x0, x1, x2, x3, x4, x5, x6, x7, some (J a b 0), x9, x10] = some (.nx, [x0, x1, x2, x3, x4, x5, x6, x7, y8, y9, x10]) := by
  obtain ⟨δ', e, a2, b2, c2, y9, rfl, _, _⟩ := forL_inv (fill := flN 9) (body := k_law_23 C4) (P := P23 x0 x1 x2 x3 x4 x5 x6 x7 x10) (N := 3) (Src.rng 0 3).items 0 [x0, x1, x2, x3, x4, x5, x6, x7, some (J a b 0), x9, x10] (fun d hd n δ hn hp => by
    obtain ⟨i, rfl, i0, i1⟩ := rng_mem hd
    obtain ⟨a, b, c, x9, rfl, c0, c1⟩ := hp
    obtain ⟨a', b', c', e, c2, c3⟩ := q23 (x0 := x0) (x1 := x1) (x2 := x2) (x3 := x3) (x4 := x4) (x5 := x5) (x6 := x6) (x7 := x7) (x9 := some (.int i)) (x10 := x10) (a := a) (b := b) c0 (by omega)
    exact ⟨[x0, x1, x2, x3, x4, x5, x6, x7, some (J a b c), some (.int i), x10], [x0, x1, x2, x3, x4, x5, x6, x7, some (J a' b' c'), some (.int i), x10], by simp [flN], e, a', b', c', some (.int i), rfl, c2, by omega⟩) (by decide) ⟨a, b, 0, x9, rfl, by omega, by omega⟩
  refine ⟨some (J a2 b2 c2), y9, ?_⟩
  rw [← e]
  rfl
def V25 : Ev D := compC (sqC (dispC (cnA (vl (rdN 3)) (cnA (vl (op2 (vl (op1 (rf 3) negD)) (vl (cs (.int 1))) (binD .Sub))) nlA)) (.lst .own))) (flN 4) (Ev.ret true) (callC (cnA (vl (rdN 4)) (cnA (vl (rdN 2)) (cnA (vl (cs (.str "clip"))) nlA))) C4 "fitted" [false, false, false]) [4]
theorem V25_ok (F : Fh f0 h0) : V25 [x0, x1, some (.int f0), some (.int h0), x4, x5, x6, x7, x8, x9, x10] = some (.lst .own (zs [h0 - 1, -h0]), mendD [x0, x1, some (.int f0), some (.int h0), x4, x5, x6, x7, x8, x9, x10] [x0, x1, some (.int f0), some (.int h0), none, x5, x6, x7, x8, x9, x10] [4]) := by
  have hp := F.pos
  have s1 : sqC (dispC (cnA (vl (rdN 3)) (cnA (vl (op2 (vl (op1 (rf 3) negD)) (vl (cs (.int 1))) (binD .Sub))) nlA)) (.lst .own)) [x0, x1, some (.int f0), some (.int h0), x4, x5, x6, x7, x8, x9, x10] = some (.seq (zs [h0, -h0 - 1]), [x0, x1, some (.int f0), some (.int h0), x4, x5, x6, x7, x8, x9, x10]) := by
    simp [finS, seqS, retS, rnS, nxS, cndS, asgC, flN, flT, flTs, callC, callA, sealA, cnA, nlA, rdN, looks, takes, backs, refsOf, clr, clrs, tkS, op2, op1, negD, vl, rf, look, cs, ixD, atI, ixN, bAdd, bSub, bMul, bDiv, bMod, bAnd, flat, flats, outL, asT, cmT, cmpD, iteC, notC, chainC, Ev.ret, bltC, bl_int, bl_abs, bl_len, subC, setIx, dispC, isT, isTy, eqI, blC, andC, orC, appC, forS, rg1, rg2, sqC, srcOf, rn1, rn2, rn3, rn4, line, parC]
  have lp := comp_loop (fill := flN 4) (test := Ev.ret true) (elt := callC (cnA (vl (rdN 4)) (cnA (vl (rdN 2)) (cnA (vl (cs (.str "clip"))) nlA))) C4 "fitted" [false, false, false]) (vs := [4]) (δ := [x0, x1, some (.int f0), some (.int h0), none, x5, x6, x7, x8, x9, x10]) (δx := fun x => [x0, x1, some (.int f0), some (.int h0), some (.int x), x5, x6, x7, x8, x9, x10]) (p := fun _ => true) (g := cl h0) (fun x => by simp [flN]) (fun x => rfl) (fun x => by
    have e : callD T 4 "fitted" [.int x, .int f0, .str "clip"] = some (.int (cl h0 x), [none, none, none]) := clip_ok (k := 2) F
    simp [finS, seqS, retS, rnS, nxS, cndS, asgC, flN, flT, flTs, callC, callA, sealA, cnA, nlA, rdN, looks, takes, backs, refsOf, clr, clrs, tkS, op2, op1, negD, vl, rf, look, cs, ixD, atI, ixN, bAdd, bSub, bMul, bDiv, bMod, bAnd, flat, flats, outL, asT, cmT, cmpD, iteC, notC, chainC, Ev.ret, bltC, bl_int, bl_abs, bl_len, subC, setIx, dispC, isT, isTy, eqI, blC, andC, orC, appC, forS, rg1, rg2, sqC, srcOf, rn1, rn2, rn3, rn4, line, parC, e]) (fun x => rfl) [h0, -h0 - 1] [] (by simp)
  have g1 : cl h0 h0 = h0 - 1 := by
    unfold cl
    have a1 : ¬ h0 < -h0 := by omega
    have a2 : ¬ h0 ≤ h0 - 1 := by omega
    rw [if_neg a1, if_neg a2]
  have g2 : cl h0 (-h0 - 1) = -h0 := by
    unfold cl
    have a1 : -h0 - 1 < -h0 := by omega
    rw [if_pos a1]
  have lp2 : compL (flN 4) (Ev.ret true) (fun δ => (callC (cnA (vl (rdN 4)) (cnA (vl (rdN 2)) (cnA (vl (cs (.str "clip"))) nlA))) C4 "fitted" [false, false, false] δ).map fun p => (clr p.1, p.2)) [4] (zs [h0, -h0 - 1]) [] [x0, x1, some (.int f0), some (.int h0), none, x5, x6, x7, x8, x9, x10] = some (zs [h0 - 1, -h0], [x0, x1, some (.int f0), some (.int h0), none, x5, x6, x7, x8, x9, x10]) := by
    have g : ([] : List Int) ++ (([h0, -h0 - 1] : List Int).filter fun _ => true).map (cl h0) = [h0 - 1, -h0] := by simp [g1, g2]
    rw [g] at lp
    exact lp
  unfold V25 compC
  rw [s1]
  show (match compL (flN 4) (Ev.ret true) (fun δ => (callC (cnA (vl (rdN 4)) (cnA (vl (rdN 2)) (cnA (vl (cs (.str "clip"))) nlA))) C4 "fitted" [false, false, false] δ).map fun p => (clr p.1, p.2)) [4] (zs [h0, -h0 - 1]) [] [x0, x1, some (.int f0), some (.int h0), none, x5, x6, x7, x8, x9, x10] with
    | some (l, δ2) => some (D.lst .own l, mendD [x0, x1, some (.int f0), some (.int h0), x4, x5, x6, x7, x8, x9, x10] δ2 [4])
    | none => none) = _
  rw [lp2]
theorem q25 (F : Fh f0 h0) : ∃ δ', s_law_25 C4 [x0, x1, some (.int f0), some (.int h0), x4, x5, x6, x7, x8, x9, x10] = some (.rt (.bl true), δ') := by
  have e := V25_ok (x0 := x0) (x1 := x1) (x4 := x4) (x5 := x5) (x6 := x6) (x7 := x7) (x8 := x8) (x9 := x9) (x10 := x10) F
  have q := eqL .own .own [h0 - 1, -h0] [h0 - 1, -h0]
  simp only [zs, List.map_cons, List.map_nil, decide_true] at q e
  have hb : s_law_25 C4 = retS (op2 (vl V25) (vl (dispC (cnA (vl (op2 (rf 3) (vl (cs (.int 1))) (binD .Sub))) (cnA (vl (op1 (rf 3) negD)) nlA)) (.lst .own))) (cmT .Eq)) := rfl
  have m : mendD [x0, x1, some (.int f0), some (.int h0), x4, x5, x6, x7, x8, x9, x10] [x0, x1, some (.int f0), some (.int h0), none, x5, x6, x7, x8, x9, x10] [4] = [x0, x1, some (.int f0), some (.int h0), flatO (some x4), x5, x6, x7, x8, x9, x10] := rfl
  rw [m] at e
  rw [hb]
  refine ⟨[x0, x1, some (.int f0), some (.int h0), flatO (some x4), x5, x6, x7, x8, x9, x10], ?_⟩
  simp [finS, seqS, retS, rnS, nxS, cndS, asgC, flN, flT, flTs, callC, callA, sealA, cnA, nlA, rdN, looks, takes, backs, refsOf, clr, clrs, tkS, op2, op1, negD, vl, rf, look, cs, ixD, atI, ixN, bAdd, bSub, bMul, bDiv, bMod, bAnd, flat, flats, outL, asT, cmT, cmpD, iteC, notC, chainC, Ev.ret, bltC, bl_int, bl_abs, bl_len, subC, setIx, dispC, isT, isTy, eqI, blC, andC, orC, appC, forS, rg1, rg2, sqC, srcOf, rn1, rn2, rn3, rn4, line, parC, e, q]
theorem law_ok (ns : List Int) : ∃ os, callD T 5 "law" [.lst .lk (ns.map .int)] = some (.bl true, os) := by
  rw [c_law rfl]
  show ∃ os, finS 1 [] (b_law C4 [scr ns, none, none, none, none, none, none, none, none, none, none]) = some (.bl true, os)
  obtain ⟨a, b, e1⟩ := q1 (ns := ns)
  obtain ⟨j, r, e2, r0, r1⟩ := q2 (x0 := scr ns) (x2 := none) (x3 := none) (x4 := none) (x5 := none) (x6 := none) (x7 := none) (x8 := none) (x9 := none) (x10 := none) (a := a) (b := b)
  obtain ⟨h, F⟩ := Fh.of r0 r1
  have e3 := q3 (x0 := scr ns) (x1 := j) (x4 := none) (x5 := none) (x6 := none) (x7 := none) (x8 := none) (x9 := none) (x10 := none) F
  obtain ⟨y4, e7⟩ := q7 (x0 := scr ns) (x1 := j) (x4 := none) (x5 := none) (x6 := none) (x7 := none) (x8 := none) (x9 := none) (x10 := none) F
  obtain ⟨z4, z5, z6, z7, e19⟩ := q19 (ns := ns) (x1 := j) (x2 := some (.int r)) (x3 := some (.int h)) (x4 := y4)
  obtain ⟨a', b', e20⟩ := q20 (ns := ns) (x1 := j) (x2 := some (.int r)) (x3 := some (.int h)) (x4 := z4) (x5 := z5) (x6 := z6) (x7 := z7) (x9 := none) (x10 := none)
  obtain ⟨w8, w9, e24⟩ := q24 (x0 := scr ns) (x1 := j) (x2 := some (.int r)) (x3 := some (.int h)) (x4 := z4) (x5 := z5) (x6 := z6) (x7 := z7) (x9 := none) (x10 := none) (a := a') (b := b')
  obtain ⟨δ', e25⟩ := q25 (x0 := scr ns) (x1 := j) (x4 := z4) (x5 := z5) (x6 := z6) (x7 := z7) (x8 := w8) (x9 := w9) (x10 := none) F
  simp only [b_law, seqS, e1, e2, e3, e7, e19, e20, e24, e25]
  exact ⟨_, rfl⟩
end
end K12

open PySem PySem.W PySem.Calls PyProof.Rows
theorem PySem.Challenge.cw_coarsegauge_k12_fits_and_fitted_holds : PySem.Challenge.rw_coarsegauge_k12_fits_and_fitted.Holds := by
  w_on; o_law
  refine HandSHeadRun.head_any (r := OpenLaw.row PySem.Challenge.rw_coarsegauge_k12_fits_and_fitted) (q := view (OpenLaw.row PySem.Challenge.rw_coarsegauge_k12_fits_and_fitted).prog [15]) (H := K12.hk) (ob := K12.ob) (M := 4000) (loose := K12.nms) (d := HandSHeadRun.topDef (OpenLaw.row PySem.Challenge.rw_coarsegauge_k12_fits_and_fitted).prog 15) (kwd := []) K12.ob_eq
    (by kernel_rfl) (fun s => by kernel_rfl) K12.run (by kernel_rfl) (by kernel_rfl) (by kernel_rfl) (by rfl) (by first | assumption | decide +kernel) (by decide +kernel) ⟨rfl, rfl, rfl, rfl, rfl, by decide +kernel⟩ ?hw ?hc
  case hw => w_witness2
  case hc =>
    refine L2.walk_ofE (l := PySem.Challenge.rw_coarsegauge_k12_fits_and_fitted) (n := 63) (k := 6) (x := "script") (CX := L2.CX0) rfl (by decide) (by kernel_rfl) ⟨rfl, by decide, by decide⟩ ?F (fun _ _ _ _ z => z)
    intro w mg fa h Y G hmg0
    obtain ⟨K, KX, c, cb⟩ := Y
    have hmg : mg ("law" : PySem.Str) = some (.ref fa) := by
      have e : (HandSHeadRun.topDef (OpenLaw.row PySem.Challenge.rw_coarsegauge_k12_fits_and_fitted).prog 15).name = ("law" : PySem.Str) := by kernel_rfl
      rw [← e]
      exact hmg0
    obtain ⟨fd, hb, hF⟩ := PyD.facts_of (P := (PySem.Challenge.rw_coarsegauge_k12_fits_and_fitted).prog) (w := w) (ls := K12.lds) (cs := K12.cons) (free := K12.free) (fuel := 2000) (deep := 40) (n := 63) (k := 5) (l := K12.l_law) KX G hmg c cb K12.sc K12.bd (by kernel_rfl) (by simp [K12.lds, K12.lds0]) rfl rfl fun ns _ => K12.law_ok ns
    exact ⟨K, fd, PyD.spL 63 K, KX, hb, fun H a ns hl _ hS => ⟨a, ns, rfl, hl, hS, fun _ => rfl⟩, hF⟩

