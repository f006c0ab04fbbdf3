import PyProof.Rows.All
import Wide.All
import OpenK.AllK
import Wide.FinOn
import HandS.ForMost
import HandS.Wide
import HandS.Style
import HandS.TupAny
import HandS.Conv
import HandS.Deep
import HandS.Gcd
import HandS.SortInts
import HandS.IsInst
import HandS.Codes
import PyProof.Rows.StrRev
import KE.GoesMore
import HandS.More
import HandS.Flow
import HandS.Dict
import HandS.DictComp
import KE.SortCalls
import KE.SortKeyed
import PySem.Challenge.RW_creasewise_k20_whole_maps_turned_and_mir
set_option Elab.async false
set_option linter.all false
set_option maxRecDepth 100000
/-! Values as trees: what a Python value is, told without addresses; how slots, heap and trees hang together. -/
namespace L2.VS
open PySem PySem.Spec PyProof.Rows

inductive K0 where
  | i (n : Int) | s (x : List Nat)
  deriving DecidableEq
inductive DKey where
  | k (a : K0) | t (as : List K0)
  deriving DecidableEq
/-- a value as a tree -/
inductive D where
  | non | bl (b : Bool) | int (i : Int) | str (x : List Nat)
  | lst (xs : List D) | tup (xs : List D)
  | dic (t : Bool) (ks : List DKey) (vs : List D)
  | set (t : Nat) (ks : List DKey)
  /-- a list that is only read -/
  | fz (xs : List D)

def strOkL (x : List Nat) : Bool := x.all fun c => decide (c < 1114112)
def K0.key : K0 → Key
  | .i n => .inl n
  | .s x => .inr ⟨x.toArray⟩
def K0.ok : K0 → Bool
  | .i _ => true
  | .s x => strOkL x
/-- a dict's object -/
def dicO (t : Bool) (ks : List DKey) (vs : List V) : Option HO :=
  match t with
  | false => if ks.all (fun z => match z with | .k a => a.ok | .t _ => false) then some (.dK ((ks.map fun z => match z with | .k a => a.key | .t _ => .inl 0).zip vs)) else none
  | true => if ks.all (fun z => match z with | .k _ => false | .t as => as.all K0.ok) then some (.dT ((ks.map fun z => match z with | .k _ => [] | .t as => as.map K0.key).zip vs)) else none

section
variable (KF : PySem.W.Frag) (H : Hp) (O : Addr → Prop)
def SqLO (a : Addr) (xs : List V) : Prop := (¬ O a ∧ Rd H a (.lst xs)) ∨
    ∃ (o : Obj) (its : Array Value) (n : Nat), KF.lookup a = some o ∧ o.cls = .type "list" ∧ o.dict = none ∧ o.data = .seq its n ∧ its.size ≤ sizeLine ∧ Vals xs its.toList
/-- a tuple that lies there (no constant of the module's) -/
def SqTO (a : Addr) (xs : List V) : Prop := (fun _ : PySem.W.Frag => ¬ O a ∧ H a = some (.tup xs)) KF
mutual
def Rep : V → D → Prop
  | v, .non => v = .non
  | v, .bl b => v = .bl b
  | v, .int i => v = .int i
  | v, .str x => v = .str ⟨x.toArray⟩ ∧ strOkL x = true
  | v, .lst ds => ∃ a vs, v = .ref a ∧ ¬ O a ∧ H a = some (.lst vs) ∧ Reps vs ds
  | v, .fz ds => ∃ a vs, v = .ref a ∧ SqLO KF H O a vs ∧ Reps vs ds
  | v, .tup ds => ∃ a vs, v = .ref a ∧ SqTO KF H O a vs ∧ Reps vs ds
  | v, .dic t ks ds => ∃ a vs o, v = .ref a ∧ ¬ O a ∧ dicO t ks vs = some o ∧ Rd H a o ∧ ks.length = vs.length ∧ Reps vs ds
  | _, .set _ _ => False
def Reps : List V → List D → Prop
  | [], [] => True
  | v :: vs, d :: ds => Rep v d ∧ Reps vs ds
  | [], _ :: _ => False
  | _ :: _, [] => False
end
/-- a thing that one alone holds -/
def Top (a : Addr) : D → Prop
  | .lst ds => ∃ vs, H a = some (.lst vs) ∧ Reps KF H O vs ds
  | .dic t ks ds => ∃ vs o, dicO t ks vs = some o ∧ H a = some o ∧ ks.length = vs.length ∧ Reps KF H O vs ds
  | _ => False
end

abbrev Slots := List (Option D)
inductive Fl where
  | sh | ow | le | ro | dd
  deriving DecidableEq
def Hit (fl : List Fl) (σ : St) (b : Addr) : Prop := ∃ i : Nat, fl[i]? = some .ow ∧ σ[i]? = some (some (.ref b))

structure Rel (KF : PySem.W.Frag) (fl : List Fl) (O : Addr → Prop) (σ : St) (H : Hp) (ε : Slots) : Prop where
  len : ε.length = σ.length
  flen : fl.length = σ.length
  dom : ∀ b, O b → H b ≠ none
  sh : ∀ (i : Nat) d, fl[i]? = some .sh → ε[i]? = some (some d) → ∃ v, σ[i]? = some (some v) ∧ Rep KF H O v d
  ow : ∀ (i : Nat), fl[i]? = some .ow → ∃ a d, ε[i]? = some (some d) ∧ σ[i]? = some (some (.ref a)) ∧ O a ∧ Top KF H O a d
  le : ∀ (i : Nat), fl[i]? = some .le → ∃ a d, ε[i]? = some (some d) ∧ σ[i]? = some (some (.ref a)) ∧ O a ∧ Top KF H O a d ∧ ¬ Hit fl σ a
  ro : ∀ (i : Nat) d, fl[i]? = some .ro → ε[i]? = some (some d) → ∃ v, σ[i]? = some (some v) ∧ (Rep KF H O v d ∨ ∃ a, v = .ref a ∧ O a ∧ Top KF H O a d ∧ ¬ Hit fl σ a)
  ap : ∀ (i j : Nat) a, i ≠ j → fl[i]? = some .ow → fl[j]? = some .ow → σ[i]? = some (some (.ref a)) → σ[j]? ≠ some (some (.ref a))

/-- what a piece of code may have done -/
structure Step (fl : List Fl) (σ : St) (O : Addr → Prop) (H : Hp) (O' : Addr → Prop) (H' : Hp) : Prop where
  keep : ∀ b o, H b = some o → ¬ Hit fl σ b → H' b = some o
  dom : ∀ b, H' b = none → H b = none
  new : ∀ b, O' b → O b ∨ H b = none
  old : ∀ b, O b → ¬ Hit fl σ b → O' b

/-- a value that may be read: shared, or a thing that one alone holds -/
def RepR (KF : PySem.W.Frag) (H : Hp) (O : Addr → Prop) (v : V) (d : D) : Prop := Rep KF H O v d ∨ ∃ a, v = .ref a ∧ O a ∧ Top KF H O a d

section
variable {KF : PySem.W.Frag} {H H' : Hp} {O O' : Addr → Prop} {fl fl' : List Fl} {σ : St} {ε : Slots}

theorem SqLO.seq {a : Addr} {xs : List V} (h : SqLO KF H O a xs) : SqL KF H a xs := by
  rcases h with h | h
  · exact .inl h.2
  · exact .inr h
theorem SqTO.seq {a : Addr} {xs : List V} (h : SqTO KF H O a xs) : SqT KF H a xs := .inl (.inl h.2)
theorem Rd.some_of {a : Addr} {u : HO} (h : Rd H a u) : ∃ o, H a = some o := by
  rcases h with h | ⟨o, h⟩
  · exact ⟨_, h⟩
  · exact ⟨_, h⟩
/-- what is seen stays -/
structure Stay (H : Hp) (O : Addr → Prop) (H' : Hp) (O' : Addr → Prop) : Prop where
  keep : ∀ b o, H b = some o → ¬ O b → H' b = some o
  new : ∀ b, O' b → O b ∨ H b = none
theorem Stay.rd {a : Addr} {u : HO} (s : Stay H O H' O') (n : ¬ O a) (h : Rd H a u) : ¬ O' a ∧ Rd H' a u := by
  obtain ⟨o, e⟩ := Rd.some_of h
  refine ⟨fun z => ?_, ?_⟩
  · rcases s.new a z with q | q
    · exact n q
    · rw [e] at q; cases q
  · rcases h with h | ⟨o, h⟩
    · exact .inl (s.keep _ _ h n)
    · exact .inr ⟨o, s.keep _ _ h n⟩
mutual
theorem Rep.stay (s : Stay H O H' O') : ∀ {d : D} {v : V}, Rep KF H O v d → Rep KF H' O' v d
  | .non, v, h => by simpa [Rep] using h
  | .bl _, v, h => by simpa [Rep] using h
  | .int _, v, h => by simpa [Rep] using h
  | .str _, v, h => by simpa [Rep] using h
  | .lst ds, v, h => by
    simp only [Rep] at h ⊢
    obtain ⟨a, vs, e, n, q, r⟩ := h
    refine ⟨a, vs, e, (s.rd n (.inl q)).1, s.keep _ _ q n, Reps.stay s r⟩
  | .fz ds, v, h => by
    simp only [Rep] at h ⊢
    obtain ⟨a, vs, e, q, r⟩ := h
    refine ⟨a, vs, e, ?_, Reps.stay s r⟩
    rcases q with ⟨n, q⟩ | q
    · exact .inl (s.rd n q)
    · exact .inr q
  | .tup ds, v, h => by
    simp only [Rep] at h ⊢
    obtain ⟨a, vs, e, q, r⟩ := h
    exact ⟨a, vs, e, ⟨(s.rd q.1 (.inl q.2)).1, s.keep _ _ q.2 q.1⟩, Reps.stay s r⟩
  | .dic t ks ds, v, h => by
    simp only [Rep] at h ⊢
    obtain ⟨a, vs, o, e, n, eo, q, l, r⟩ := h
    obtain ⟨n', q'⟩ := s.rd n q
    exact ⟨a, vs, o, e, n', eo, q', l, Reps.stay s r⟩
  | .set _ _, v, h => by simp only [Rep] at h
theorem Reps.stay (s : Stay H O H' O') : ∀ {ds : List D} {vs : List V}, Reps KF H O vs ds → Reps KF H' O' vs ds
  | [], [], _ => by simp [Reps]
  | d :: ds, v :: vs, h => by
    simp only [Reps] at h ⊢
    exact ⟨Rep.stay s h.1, Reps.stay s h.2⟩
  | [], _ :: _, h => by simp [Reps] at h
  | _ :: _, [], h => by simp [Reps] at h
end
theorem Top.stay {a : Addr} {d : D} (s : Stay H O H' O') (e : H' a = H a) (h : Top KF H O a d) : Top KF H' O' a d := by
  cases d with
  | lst ds => obtain ⟨vs, q, r⟩ := h; exact ⟨vs, e.trans q, r.stay s⟩
  | dic t ks ds => obtain ⟨vs, o, eo, q, l, r⟩ := h; exact ⟨vs, o, eo, e.trans q, l, r.stay s⟩
  | _ => exact h.elim
theorem Top.some_of {a : Addr} {d : D} (h : Top KF H O a d) : ∃ o, H a = some o := by
  cases d with
  | lst ds => obtain ⟨vs, q, r⟩ := h; exact ⟨_, q⟩
  | dic t ks ds => obtain ⟨vs, o, eo, q, l, r⟩ := h; exact ⟨_, q⟩
  | _ => exact h.elim

theorem Reps.length : ∀ {vs : List V} {ds : List D}, Reps KF H O vs ds → vs.length = ds.length
  | [], [], _ => rfl
  | _ :: vs, _ :: ds, h => by simp only [Reps] at h; simp [Reps.length h.2]
  | [], _ :: _, h => by simp [Reps] at h
  | _ :: _, [], h => by simp [Reps] at h
theorem Reps.append : ∀ {vs us : List V} {ds es : List D}, Reps KF H O vs ds → Reps KF H O us es → Reps KF H O (vs ++ us) (ds ++ es)
  | [], _, [], _, _, h => h
  | _ :: vs, us, _ :: ds, es, h, k => by
    simp only [Reps] at h
    simp only [List.cons_append, Reps]
    exact ⟨h.1, Reps.append h.2 k⟩
  | [], _, _ :: _, _, h, _ => by simp [Reps] at h
  | _ :: _, _, [], _, h, _ => by simp [Reps] at h
theorem Reps.get : ∀ {vs : List V} {ds : List D} {i : Nat} {d : D}, Reps KF H O vs ds → ds[i]? = some d → ∃ v, vs[i]? = some v ∧ Rep KF H O v d
  | v :: vs, e :: ds, 0, d, h, k => by
    simp only [Reps] at h
    simp at k; subst k
    exact ⟨v, rfl, h.1⟩
  | _ :: vs, _ :: ds, i + 1, d, h, k => by
    simp only [Reps] at h
    simpa using Reps.get (i := i) h.2 (by simpa using k)
  | [], [], _, _, _, k => by simp at k
  | [], _ :: _, _, _, h, _ => by simp [Reps] at h
  | _ :: _, [], _, _, h, _ => by simp [Reps] at h
theorem Reps.set : ∀ {vs : List V} {ds : List D} {v : V} {d : D} (i : Nat), Reps KF H O vs ds → Rep KF H O v d → Reps KF H O (vs.set i v) (ds.set i d)
  | [], [], _, _, _, h, _ => by simp [Reps]
  | _ :: vs, _ :: ds, v, d, 0, h, k => by
    simp only [Reps] at h
    simp only [List.set_cons_zero, Reps]
    exact ⟨k, h.2⟩
  | _ :: vs, _ :: ds, v, d, i + 1, h, k => by
    simp only [Reps] at h
    simp only [List.set_cons_succ, Reps]
    exact ⟨h.1, Reps.set i h.2 k⟩
  | [], _ :: _, _, _, _, h, _ => by simp [Reps] at h
  | _ :: _, [], _, _, _, h, _ => by simp [Reps] at h
theorem Reps.take : ∀ {vs : List V} {ds : List D} (n : Nat), Reps KF H O vs ds → Reps KF H O (vs.take n) (ds.take n)
  | [], [], _, _ => by simp [Reps]
  | _ :: _, _ :: _, 0, _ => by simp [Reps]
  | _ :: vs, _ :: ds, n + 1, h => by
    simp only [Reps] at h
    simp only [List.take_succ_cons, Reps]
    exact ⟨h.1, Reps.take n h.2⟩
  | [], _ :: _, _, h => by simp [Reps] at h
  | _ :: _, [], _, h => by simp [Reps] at h
theorem Reps.drop : ∀ {vs : List V} {ds : List D} (n : Nat), Reps KF H O vs ds → Reps KF H O (vs.drop n) (ds.drop n)
  | [], [], _, _ => by simp [Reps]
  | _ :: _, _ :: _, 0, h => by simpa using h
  | _ :: vs, _ :: ds, n + 1, h => by
    simp only [Reps] at h
    simp only [List.drop_succ_cons]
    exact Reps.drop n h.2
  | [], _ :: _, _, h => by simp [Reps] at h
  | _ :: _, [], _, h => by simp [Reps] at h

/-- owned slots are owned -/
theorem Rel.hitO (r : Rel KF fl O σ H ε) {b : Addr} (h : Hit fl σ b) : O b := by
  obtain ⟨i, h1, h2⟩ := h
  obtain ⟨a, d, _, e2, o, _⟩ := r.ow i h1
  rw [e2] at h2
  cases h2
  exact o
theorem Step.stay (s : Step fl σ O H O' H') (r : Rel KF fl O σ H ε) : Stay H O H' O' :=
  ⟨fun b o e n => s.keep b o e fun z => n (r.hitO z), s.new⟩
theorem Step.refl : Step fl σ O H O H := ⟨fun _ _ e _ => e, fun _ e => e, fun _ h => .inl h, fun _ h _ => h⟩
/-- fl' owns less than fl -/
def Subf (fl fl' : List Fl) : Prop := ∀ i : Nat, (fl'[i]? = some Fl.ow → fl[i]? = some Fl.ow) ∧ (fl'[i]? = some Fl.le → fl[i]? = some Fl.le) ∧ (fl'[i]? = some Fl.dd → fl[i]? = some Fl.dd)
theorem Subf.refl : Subf fl fl := fun _ => ⟨id, id, id⟩
theorem Subf.trans {fl1 fl2 : List Fl} (a : Subf fl fl1) (b : Subf fl1 fl2) : Subf fl fl2 := fun i => ⟨fun h => (a i).1 ((b i).1 h), fun h => (a i).2.1 ((b i).2.1 h), fun h => (a i).2.2 ((b i).2.2 h)⟩
theorem Subf.hit (s : Subf fl fl') {b : Addr} (h : Hit fl' σ b) : Hit fl σ b := by
  obtain ⟨i, h1, h2⟩ := h
  exact ⟨i, (s i).1 h1, h2⟩
theorem Step.trans {O1 O2 : Addr → Prop} {H1 H2 : Hp} (a : Step fl σ O H O1 H1) (b : Step fl' σ O1 H1 O2 H2) (u : Subf fl fl') : Step fl σ O H O2 H2 := by
  refine ⟨fun x o e n => b.keep x o (a.keep x o e n) fun z => n (u.hit z), fun x e => a.dom x (b.dom x e), fun x h => ?_, fun x h n => b.old x (a.old x h n) fun z => n (u.hit z)⟩
  rcases b.new x h with q | q
  · exact a.new x q
  · exact .inr (a.dom x q)
/-- a new thing is laid -/
theorem Stay.laid {p : Addr} {o : HO} (hp : H p = none) : Stay H O (upd H p o) O :=
  ⟨fun b u e _ => by rw [upd_ne (ne_of_none e hp)]; exact e, fun b h => .inl h⟩
theorem Step.laid {p : Addr} {o : HO} (hp : H p = none) : Step fl σ O H O (upd H p o) :=
  ⟨fun b u e _ => by rw [upd_ne (ne_of_none e hp)]; exact e, fun b e => by
    by_cases h : b = p
    · subst h; exact hp
    · rw [upd_ne h] at e; exact e, fun b h => .inl h, fun b h _ => h⟩
theorem Rel.dom_upd {p : Addr} {o : HO} (r : Rel KF fl O σ H ε) : ∀ b, O b → upd H p o b ≠ none := fun b h z => by
  by_cases hb : b = p
  · subst hb; rw [upd_same] at z; cases z
  · rw [upd_ne hb] at z; exact r.dom b h z
theorem Rel.laid {p : Addr} {o : HO} (r : Rel KF fl O σ H ε) (hp : H p = none) : Rel KF fl O σ (upd H p o) ε := by
  have s : Stay H O (upd H p o) O := Stay.laid hp
  have k : ∀ a, O a → upd H p o a = H a := fun a ha => upd_ne fun z => r.dom a ha (z ▸ hp)
  refine ⟨r.len, r.flen, r.dom_upd, fun i d h1 h2 => ?_, fun i h => ?_, fun i h => ?_, fun i d h1 h2 => ?_, r.ap⟩
  · obtain ⟨v, e, q⟩ := r.sh i d h1 h2
    exact ⟨v, e, q.stay s⟩
  · obtain ⟨a, d, e1, e2, o, q⟩ := r.ow i h
    exact ⟨a, d, e1, e2, o, q.stay s (k a o)⟩
  · obtain ⟨a, d, e1, e2, o, q, n⟩ := r.le i h
    exact ⟨a, d, e1, e2, o, q.stay s (k a o), n⟩
  · obtain ⟨v, e, q⟩ := r.ro i d h1 h2
    refine ⟨v, e, ?_⟩
    rcases q with q | ⟨a, e, o, q, n⟩
    · exact .inl (q.stay s)
    · exact .inr ⟨a, e, o, q.stay s (k a o), n⟩
/-- one more address is owned (a new one, in no slot's hand) -/
theorem Rel.own_new {p : Addr} {o : HO} (r : Rel KF fl O σ H ε) (hp : H p = none) : Rel KF fl (fun b => O b ∨ b = p) σ (upd H p o) ε := by
  have s : Stay H O (upd H p o) (fun b => O b ∨ b = p) :=
    ⟨fun b u e _ => by rw [upd_ne (ne_of_none e hp)]; exact e, fun b h => h.elim .inl fun z => .inr (by rw [z]; exact hp)⟩
  have k : ∀ a, O a → upd H p o a = H a := fun a ha => upd_ne fun z => r.dom a ha (z ▸ hp)
  refine ⟨r.len, r.flen, fun b h => ?_, fun i d h1 h2 => ?_, fun i h => ?_, fun i h => ?_, fun i d h1 h2 => ?_, r.ap⟩
  · rcases h with h | h
    · exact r.dom_upd b h
    · subst h; rw [upd_same]; intro z; cases z
  · obtain ⟨v, e, q⟩ := r.sh i d h1 h2
    exact ⟨v, e, q.stay s⟩
  · obtain ⟨a, d, e1, e2, o, q⟩ := r.ow i h
    exact ⟨a, d, e1, e2, .inl o, q.stay s (k a o)⟩
  · obtain ⟨a, d, e1, e2, o, q, n⟩ := r.le i h
    exact ⟨a, d, e1, e2, .inl o, q.stay s (k a o), n⟩
  · obtain ⟨v, e, q⟩ := r.ro i d h1 h2
    refine ⟨v, e, ?_⟩
    rcases q with q | ⟨a, e, o, q, n⟩
    · exact .inl (q.stay s)
    · exact .inr ⟨a, e, .inl o, q.stay s (k a o), n⟩
theorem Step.own_new {p : Addr} {o : HO} (hp : H p = none) : Step fl σ O H (fun b => O b ∨ b = p) (upd H p o) :=
  ⟨fun b u e _ => by rw [upd_ne (ne_of_none e hp)]; exact e, fun b e => by
    by_cases h : b = p
    · subst h; exact hp
    · rw [upd_ne h] at e; exact e, fun b h => h.elim .inl fun z => .inr (by rw [z]; exact hp), fun b h _ => .inl h⟩
end
end L2.VS

/-! What code is worth, over trees; the judgements. -/
namespace L2.VS
open PySem PySem.Spec PyProof.Rows

/-! ### code over trees -/
inductive Opd where
  | val (d : D) | slot (i : Nat)
def look : Slots → Nat → Option D
  | [], _ => none
  | x :: _, 0 => x
  | _ :: r, i + 1 => look r i
theorem look_iff : ∀ {ε : Slots} {i : Nat} {d : D}, look ε i = some d ↔ ε[i]? = some (some d)
  | [], i, d => by simp [look]
  | x :: r, 0, d => by simp [look]
  | x :: r, i + 1, d => by simp only [look, List.getElem?_cons_succ]; exact look_iff
def put : Slots → Nat → D → Slots
  | [], _, _ => []
  | _ :: r, 0, d => some d :: r
  | x :: r, i + 1, d => x :: put r i d
theorem put_eq : ∀ {ε : Slots} {i : Nat} {d : D}, put ε i d = ε.set i (some d)
  | [], i, d => by simp [put]
  | x :: r, 0, d => by simp [put]
  | x :: r, i + 1, d => by simp [put, put_eq]
def Opd.get (o : Opd) (ε : Slots) : Option D := match o with
  | .val d => some d
  | .slot i => look ε i
/-- an expression -/
abbrev M := Slots → Option (Opd × Slots)
/-- a test -/
abbrev T := Slots → Option (Bool × Slots)
inductive Flw where
  | nx | bk | ct | rt (d : D)
/-- a statement, a block -/
abbrev S := Slots → Option (Flw × Slots)
/-- a def: what it gives, and what its own parameters hold behind it -/
abbrev Fn := List D → Option (D × List D)

def eC (d : D) : M := fun ε => some (.val d, ε)
def eV (i : Nat) : M := fun ε => (look ε i).bind fun d => some (.val d, ε)
def eO (i : Nat) : M := fun ε => some (.slot i, ε)
/-- the value of an expression -/
def val (a : M) (ε : Slots) : Option (D × Slots) := (a ε).bind fun p => (p.1.get p.2).bind fun d => some (d, p.2)
def e1 (f : D → Option D) (a : M) : M := fun ε => (a ε).bind fun p => (p.1.get p.2).bind fun x => (f x).bind fun z => some (.val z, p.2)
def e2 (f : D → D → Option D) (a b : M) : M := fun ε => (a ε).bind fun p => (b p.2).bind fun q => (p.1.get q.2).bind fun x => (q.1.get q.2).bind fun y => (f x y).bind fun z => some (.val z, q.2)
def eAnd (a b : M) : M := fun ε => (val a ε).bind fun p => match p.1 with
  | .bl true => b p.2
  | .bl false => some (.val (.bl false), p.2)
  | _ => none
def eOr (a b : M) : M := fun ε => (val a ε).bind fun p => match p.1 with
  | .bl true => some (.val (.bl true), p.2)
  | .bl false => b p.2
  | _ => none
def eIf (t : T) (a b : M) : M := fun ε => (t ε).bind fun p => if p.1 = true then a p.2 else b p.2
/-- a test by an expression that gives a bool -/
def tB (a : M) : T := fun ε => (val a ε).bind fun p => match p.1 with
  | .bl b => some (b, p.2)
  | _ => none
def truth : D → Option Bool
  | .non => some false
  | .bl b => some b
  | .int i => some (i != 0)
  | .str x => if x.length ≤ 16777216 then some (!x.isEmpty) else none
  | .lst xs => some (!xs.isEmpty)
  | .tup xs => some (!xs.isEmpty)
  | .fz xs => some (!xs.isEmpty)
  | _ => none
def tTru (a : M) : T := fun ε => (val a ε).bind fun p => (truth p.1).bind fun b => some (b, p.2)
def tAnd (a b : T) : T := fun ε => (a ε).bind fun p => if p.1 = true then b p.2 else some (false, p.2)
def tOr (a b : T) : T := fun ε => (a ε).bind fun p => if p.1 = true then some (true, p.2) else b p.2
def tNot (a : T) : T := fun ε => (a ε).bind fun p => some (!p.1, p.2)
def vals : List M → Slots → Option (List D × Slots)
  | [], ε => some ([], ε)
  | m :: ms, ε => (val m ε).bind fun p => (vals ms p.2).bind fun q => some (p.1 :: q.1, q.2)
def eLst (ms : List M) : M := fun ε => (vals ms ε).bind fun p => some (.val (.lst p.1), p.2)
def eTup (ms : List M) : M := fun ε => (vals ms ε).bind fun p => some (.val (.tup p.1), p.2)

def sNil : S := fun ε => some (.nx, ε)
def sSeq (a b : S) : S := fun ε => (a ε).bind fun p => match p.1 with
  | .nx => b p.2
  | f => some (f, p.2)
def sSet (i : Nat) (a : M) : S := fun ε => (val a ε).bind fun p => some (.nx, put p.2 i p.1)
def sDo (a : M) : S := fun ε => (val a ε).bind fun p => some (.nx, p.2)
def sRet (a : M) : S := fun ε => (val a ε).bind fun p => some (.rt p.1, p.2)
def sBrk : S := fun ε => some (.bk, ε)
def sCnt : S := fun ε => some (.ct, ε)
def sIf (t : T) (a b : S) : S := fun ε => (t ε).bind fun p => if p.1 = true then a p.2 else b p.2
def whileN (t : T) (b : S) : Nat → S
  | 0, _ => none
  | n + 1, ε => (t ε).bind fun p => if p.1 = true then (b p.2).bind fun q => match q.1 with
      | .nx => whileN t b n q.2
      | .ct => whileN t b n q.2
      | .bk => some (.nx, q.2)
      | .rt d => some (.rt d, q.2)
    else some (.nx, p.2)
/-- a target -/
abbrev G := D → Slots → Option Slots
def gN (i : Nat) : G := fun d ε => some (put ε i d)
def forL (g : G) (b : S) : List D → S
  | [], ε => some (.nx, ε)
  | d :: ds, ε => (g d ε).bind fun ε1 => (b ε1).bind fun q => match q.1 with
      | .nx => forL g b ds q.2
      | .ct => forL g b ds q.2
      | .bk => some (.nx, q.2)
      | .rt r => some (.rt r, q.2)
/-- what is walked: its items -/
abbrev I := Slots → Option (List D × Slots)
def sFor (it : I) (g : G) (b : S) : S := fun ε => (it ε).bind fun p => forL g b p.1 p.2

/-! ### the judgements -/
section
variable (KF : PySem.W.Frag)
def RepO (fl : List Fl) (σ : St) (H : Hp) (O : Addr → Prop) (v : V) : Opd → Prop
  | .val d => Rep KF H O v d
  | .slot i => σ[i]? = some (some v) ∧ fl[i]? ≠ some .dd
/-- an operand -/
def tO (fl fl' : List Fl) (m : M) : TE := fun σ H Q => ∃ ε O o ε', Rel KF fl O σ H ε ∧ m ε = some (o, ε') ∧
  ∀ v H' O', Rel KF fl' O' σ H' ε' → Step fl σ O H O' H' → RepO KF fl' σ H' O' v o → Q v H'
/-- a value that may be kept -/
def tD (fl fl' : List Fl) (m : M) : TE := fun σ H Q => ∃ ε O d ε', Rel KF fl O σ H ε ∧ m ε = some (.val d, ε') ∧
  ∀ v H' O', Rel KF fl' O' σ H' ε' → Step fl σ O H O' H' → Rep KF H' O' v d → Q v H'
/-- a thing at a that no slot holds -/
structure Apart (fl : List Fl) (O : Addr → Prop) (σ : St) (H : Hp) (ε : Slots) (a : Addr) : Prop where
  ow : ¬ Hit fl σ a
  le : ∀ i : Nat, fl[i]? = some .le → σ[i]? ≠ some (some (.ref a))
  ro : ∀ (i : Nat) d, fl[i]? = some .ro → ε[i]? = some (some d) → ∃ v, σ[i]? = some (some v) ∧ (Rep KF H O v d ∨ ∃ b, v = .ref b ∧ O b ∧ Top KF H O b d ∧ ¬ Hit fl σ b ∧ b ≠ a)
/-- a new thing -/
def tF (fl fl' : List Fl) (m : M) : TE := fun σ H Q => ∃ ε O d ε', Rel KF fl O σ H ε ∧ m ε = some (.val d, ε') ∧
  ∀ a H' O', Rel KF fl' O' σ H' ε' → Step fl σ O H O' H' → O' a → Top KF H' O' a d → Apart KF fl' O' σ H' ε' a → (H a = none ∨ Hit fl σ a) → Q (.ref a) H'
def tT (fl fl' : List Fl) (m : T) : TT := fun σ H Q => ∃ ε O b ε', Rel KF fl O σ H ε ∧ m ε = some (b, ε') ∧
  ∀ H' O', Rel KF fl' O' σ H' ε' → Step fl σ O H O' H' → Q b H'
end

structure POD (X : Cx) (fl : List Fl) (e : Expr) (fl' : List Fl) (m : M) : Prop where
  sub : Subf fl fl'
  run : PE X e (tO X.K fl fl' m)
/-- it gives values, no slots -/
def IsV (m : M) : Prop := ∀ ε o ε', m ε = some (o, ε') → ∃ d, o = .val d
structure PED (X : Cx) (fl : List Fl) (e : Expr) (fl' : List Fl) (m : M) : Prop where
  isv : IsV m
  sub : Subf fl fl'
  run : PE X e (tD X.K fl fl' m)
structure PFD (X : Cx) (fl : List Fl) (e : Expr) (fl' : List Fl) (m : M) : Prop where
  isv : IsV m
  sub : Subf fl fl'
  run : PE X e (tF X.K fl fl' m)
structure PTD (X : Cx) (fl : List Fl) (e : Expr) (fl' : List Fl) (m : T) : Prop where
  sub : Subf fl fl'
  run : PT X e (tT X.K fl fl' m)
structure PWD (X : Cx) (fl : List Fl) (e : Expr) (fl' : List Fl) (m : T) : Prop where
  sub : Subf fl fl'
  run : PW X e (tT X.K fl fl' m)

theorem _root_.L2.PE.imp {X : Cx} {e : Expr} {t t' : TE} (h : PE X e t) (i : ∀ σ H Q, t' σ H Q → t σ H Q) : PE X e t' := ⟨fun pins s σ H Q I q => h.run pins s σ H Q I (i σ H Q q)⟩
theorem _root_.L2.PT.imp {X : Cx} {e : Expr} {t t' : TT} (h : PT X e t) (i : ∀ σ H Q, t' σ H Q → t σ H Q) : PT X e t' := ⟨fun pins s σ H Q I q => h.run pins s σ H Q I (i σ H Q q)⟩
theorem _root_.L2.PW.imp {X : Cx} {e : Expr} {t t' : TT} (h : PW X e t) (i : ∀ σ H Q, t' σ H Q → t σ H Q) : PW X e t' := ⟨fun W pins s σ H Q I q => h.run W pins s σ H Q I (i σ H Q q)⟩
theorem _root_.L2.PA.imp {X : Cx} {es : List Expr} {t t' : TA} (h : PA X es t) (i : ∀ σ H Q, t' σ H Q → t σ H Q) : PA X es t' := ⟨fun pos pins s σ H Q I q => h.run pos pins s σ H Q I (i σ H Q q)⟩
theorem _root_.L2.PS.imp {X : Cx} {e : Stmt} {t t' : TS} (h : PS X e t) (i : ∀ D σ H, t' D σ H → t D σ H) : PS X e t' := ⟨fun pins s σ H D I q => h.run pins s σ H D I (i D σ H q)⟩
theorem _root_.L2.PSs.imp {X : Cx} {e : List Stmt} {t t' : TS} (h : PSs X e t) (i : ∀ D σ H, t' D σ H → t D σ H) : PSs X e t' := ⟨fun pins s σ H D I q => h.run pins s σ H D I (i D σ H q)⟩

section
variable {KF : PySem.W.Frag} {H H' : Hp} {O O' : Addr → Prop} {fl fl' fl1 fl2 : List Fl} {σ : St} {ε : Slots} {X : Cx} {e a b c : Expr} {m m' ma mb : M} {pos : Pos}

theorem RepO.step {v : V} {o : Opd} (h : RepO KF fl σ H O v o) (r : Rel KF fl O σ H ε) (s : Step fl σ O H O' H') (u : Subf fl fl') : RepO KF fl' σ H' O' v o := by
  cases o with
  | val d => exact Rep.stay (s.stay r) h
  | slot i => exact ⟨h.1, fun z => h.2 ((u i).2.2 z)⟩
theorem RepO.read {v : V} {o : Opd} {d : D} (h : RepO KF fl σ H O v o) (r : Rel KF fl O σ H ε) (g : o.get ε = some d) : RepR KF H O v d := by
  cases o with
  | val z => cases g; exact .inl h
  | slot i =>
    obtain ⟨h, hdd⟩ : σ[i]? = some (some v) ∧ fl[i]? ≠ some .dd := h
    have g := look_iff.mp g
    have hi : i < fl.length := by
      rw [r.flen]
      exact (List.getElem?_eq_some_iff.mp h).1
    obtain ⟨f, hf⟩ : ∃ f, fl[i]? = some f := ⟨_, List.getElem?_eq_getElem hi⟩
    cases f with
    | dd => exact absurd hf hdd
    | sh =>
      obtain ⟨v', e, q⟩ := r.sh i d hf g
      rw [h] at e; cases e
      exact .inl q
    | ow =>
      obtain ⟨a, d', e1, e2, o, q⟩ := r.ow i hf
      rw [h] at e2; cases e2
      rw [g] at e1; cases e1
      exact .inr ⟨a, rfl, o, q⟩
    | le =>
      obtain ⟨a, d', e1, e2, o, q, _⟩ := r.le i hf
      rw [h] at e2; cases e2
      rw [g] at e1; cases e1
      exact .inr ⟨a, rfl, o, q⟩
    | ro =>
      obtain ⟨v', e, q⟩ := r.ro i d hf g
      rw [h] at e; cases e
      rcases q with q | ⟨a, e, o, q, _⟩
      · exact .inl q
      · exact .inr ⟨a, e, o, q⟩


theorem Rel.same (r : Rel KF fl O σ H ε) (q : Same H H') : Rel KF fl O σ H' ε := by
  have s : Stay H O H' O := ⟨fun b u e _ => q b u e, fun b h => .inl h⟩
  have k : ∀ {a d}, Top KF H O a d → H' a = H a := fun {a d} ht => by
    obtain ⟨o, e⟩ := ht.some_of
    rw [e, q a o e]
  refine ⟨r.len, r.flen, fun b h z => ?_, fun i d h1 h2 => ?_, fun i h => ?_, fun i h => ?_, fun i d h1 h2 => ?_, r.ap⟩
  · exact r.dom b h (q.free z)
  · obtain ⟨v, e, q⟩ := r.sh i d h1 h2
    exact ⟨v, e, q.stay s⟩
  · obtain ⟨a, d, e1, e2, o, q⟩ := r.ow i h
    exact ⟨a, d, e1, e2, o, q.stay s (k q)⟩
  · obtain ⟨a, d, e1, e2, o, q, n⟩ := r.le i h
    exact ⟨a, d, e1, e2, o, q.stay s (k q), n⟩
  · obtain ⟨v, e, q⟩ := r.ro i d h1 h2
    refine ⟨v, e, ?_⟩
    rcases q with q | ⟨a, e, o, q, n⟩
    · exact .inl (q.stay s)
    · exact .inr ⟨a, e, o, q.stay s (k q), n⟩
theorem Step.same (q : Same H H') : Step fl σ O H O H' :=
  ⟨fun b u e _ => q b u e, fun b e => q.free e, fun b h => .inl h, fun b h _ => h⟩
theorem Stay.same (q : Same H H') : Stay H O H' O := ⟨fun b u e _ => q b u e, fun b h => .inl h⟩
theorem same_upd {p : Addr} {o : HO} (h : H p = none) : Same H (upd H p o) := fun b x e => by
  rw [upd_ne (ne_of_none e h)]
  exact e
/-- a new thing, owned -/
theorem Rel.own_same {p : Addr} (r : Rel KF fl O σ H ε) (q : Same H H') (hp : H p = none) (hp' : H' p ≠ none) : Rel KF fl (fun b => O b ∨ b = p) σ H' ε := by
  have s : Stay H O H' (fun b => O b ∨ b = p) := ⟨fun b u e _ => q b u e, fun b h => h.elim .inl fun z => .inr (by rw [z]; exact hp)⟩
  have k : ∀ {a d}, Top KF H O a d → H' a = H a := fun {a d} ht => by
    obtain ⟨o, e⟩ := ht.some_of
    rw [e, q a o e]
  refine ⟨r.len, r.flen, fun b h z => ?_, fun i d h1 h2 => ?_, fun i h => ?_, fun i h => ?_, fun i d h1 h2 => ?_, r.ap⟩
  · rcases h with h | h
    · exact r.dom b h (q.free z)
    · subst h; exact hp' z
  · obtain ⟨v, e, q⟩ := r.sh i d h1 h2
    exact ⟨v, e, q.stay s⟩
  · obtain ⟨a, d, e1, e2, o, q⟩ := r.ow i h
    exact ⟨a, d, e1, e2, .inl o, q.stay s (k q)⟩
  · obtain ⟨a, d, e1, e2, o, q, n⟩ := r.le i h
    exact ⟨a, d, e1, e2, .inl o, q.stay s (k q), n⟩
  · obtain ⟨v, e, q⟩ := r.ro i d h1 h2
    refine ⟨v, e, ?_⟩
    rcases q with q | ⟨a, e, o, q, n⟩
    · exact .inl (q.stay s)
    · exact .inr ⟨a, e, .inl o, q.stay s (k q), n⟩
theorem Step.own_same {p : Addr} (q : Same H H') (hp : H p = none) : Step fl σ O H (fun b => O b ∨ b = p) H' :=
  ⟨fun b u e _ => q b u e, fun b e => q.free e, fun b h => h.elim .inl fun z => .inr (by rw [z]; exact hp), fun b h _ => .inl h⟩
theorem Apart.new {p : Addr} (r : Rel KF fl O σ H ε) (q : Same H H') (hp : H p = none) : Apart KF fl (fun b => O b ∨ b = p) σ H' ε p := by
  have s : Stay H O H' (fun b => O b ∨ b = p) := ⟨fun b u e _ => q b u e, fun b h => h.elim .inl fun z => .inr (by rw [z]; exact hp)⟩
  have k : ∀ {a d}, Top KF H O a d → H' a = H a := fun {a d} ht => by
    obtain ⟨o, e⟩ := ht.some_of
    rw [e, q a o e]
  refine ⟨fun z => r.dom _ (r.hitO z) hp, fun i h z => ?_, fun i d h1 h2 => ?_⟩
  · obtain ⟨a, d, e1, e2, o, q, n⟩ := r.le i h
    rw [z] at e2; cases e2
    exact r.dom _ o hp
  · obtain ⟨v, e, q⟩ := r.ro i d h1 h2
    refine ⟨v, e, ?_⟩
    rcases q with q | ⟨a, e, o, q, n⟩
    · exact .inl (q.stay s)
    · exact .inr ⟨a, e, .inl o, q.stay s (k q), n, fun z => r.dom a o (z ▸ hp)⟩

/-! ### from judgement to judgement -/
theorem pod_of_ped (h : PED X fl e fl' m) : POD X fl e fl' m := ⟨h.sub, h.run.imp fun σ H Q ⟨ε, O, o, ε', r, em, k⟩ => by
  obtain ⟨d, rfl⟩ := h.isv _ _ _ em
  exact ⟨ε, O, d, ε', r, em, k⟩⟩
/-- a new thing is given out of one's hand -/
theorem Rel.let {a : Addr} {d : D} (r : Rel KF fl O σ H ε) (p : Apart KF fl O σ H ε a) (t : Top KF H O a d) :
    Rel KF fl (fun b => O b ∧ b ≠ a) σ H ε ∧ Rep KF H (fun b => O b ∧ b ≠ a) (.ref a) d := by
  have s : Stay H O H (fun b => O b ∧ b ≠ a) := ⟨fun b u e _ => e, fun b h => .inl h.1⟩
  refine ⟨⟨r.len, r.flen, fun b h => r.dom b h.1, fun i d h1 h2 => ?_, fun i h => ?_, fun i h => ?_, fun i d h1 h2 => ?_, r.ap⟩, ?_⟩
  · obtain ⟨v, e, q⟩ := r.sh i d h1 h2
    exact ⟨v, e, q.stay s⟩
  · obtain ⟨b, d, e1, e2, o, q⟩ := r.ow i h
    exact ⟨b, d, e1, e2, ⟨o, fun z => p.ow ⟨i, h, z ▸ e2⟩⟩, q.stay s rfl⟩
  · obtain ⟨b, d, e1, e2, o, q, n⟩ := r.le i h
    exact ⟨b, d, e1, e2, ⟨o, fun z => p.le i h (z ▸ e2)⟩, q.stay s rfl, n⟩
  · obtain ⟨v, e, q⟩ := p.ro i d h1 h2
    refine ⟨v, e, ?_⟩
    rcases q with q | ⟨b, e, o, q, n, ne⟩
    · exact .inl (q.stay s)
    · exact .inr ⟨b, e, ⟨o, ne⟩, q.stay s rfl, n⟩
  · cases d with
    | lst ds =>
      obtain ⟨vs, q, w⟩ := t
      simp only [Rep]
      exact ⟨a, vs, rfl, fun z => z.2 rfl, q, w.stay s⟩
    | dic t ks ds =>
      obtain ⟨vs, o, eo, q, l, w⟩ := t
      simp only [Rep]
      exact ⟨a, vs, o, rfl, fun z => z.2 rfl, eo, .inl q, l, w.stay s⟩
    | _ => exact t.elim
theorem ped_of_pfd (h : PFD X fl e fl' m) : PED X fl e fl' m := ⟨h.isv, h.sub, h.run.imp fun σ H Q ⟨ε, O, d, ε', r, em, k⟩ => by
  refine ⟨ε, O, d, ε', r, em, fun a H' O' r' s' o t p n => ?_⟩
  obtain ⟨r2, q⟩ := r'.let p t
  refine k _ _ _ r2 ⟨s'.keep, s'.dom, fun b h => s'.new b h.1, fun b h nh => ⟨s'.old b h nh, fun z => ?_⟩⟩ q
  subst z
  rcases n with n | n
  · exact r.dom _ h n
  · exact nh n⟩

/-! ### names and constants -/
theorem isv_C {d : D} : IsV (eC d) := fun ε o ε' h => by
  cases h; exact ⟨_, rfl⟩
theorem isv_V {i : Nat} : IsV (eV i) := fun ε o ε' h => by
  unfold eV at h
  cases q : look ε i with
  | none => rw [q] at h; cases h
  | some d => rw [q] at h; cases h; exact ⟨_, rfl⟩
theorem isv_e1 {f : D → Option D} : IsV (e1 f m) := fun ε o ε' h => by
  simp only [e1, Option.bind_eq_some_iff] at h
  obtain ⟨_, _, _, _, _, _, h⟩ := h
  cases h; exact ⟨_, rfl⟩
theorem isv_e2 {f : D → D → Option D} : IsV (e2 f ma mb) := fun ε o ε' h => by
  simp only [e2, Option.bind_eq_some_iff] at h
  obtain ⟨_, _, _, _, _, _, _, _, _, _, h⟩ := h
  cases h; exact ⟨_, rfl⟩
theorem ped_c {d : D} {v : V} (hp : PE X e (tC v)) (hr : ∀ H O, Rep X.K H O v d) : PED X fl e fl (eC d) := ⟨isv_C, Subf.refl, hp.imp fun σ H Q ⟨ε, O, d', ε', r, em, k⟩ => by
  cases em
  exact k v H O r Step.refl (hr H O)⟩
theorem ped_int {i : Int} {j : Nat} : PED X fl (.Constant (.int i) j pos) fl (eC (.int i)) := ped_c pe_int fun H O => by simp [Rep]
theorem ped_bl {b : Bool} {j : Nat} : PED X fl (.Constant (.bool b) j pos) fl (eC (.bl b)) := ped_c pe_bl fun H O => by simp [Rep]
theorem ped_non {j : Nat} : PED X fl (.Constant .none j pos) fl (eC .non) := ped_c pe_non fun H O => by simp [Rep]
theorem ped_str {x : Str} {j : Nat} (y : List Nat) (h : x = ⟨y.toArray⟩ := by decide +kernel) (ok : strOkL y = true := by decide +kernel) : PED X fl (.Constant (.str x) j pos) fl (eC (.str y)) :=
  ped_c pe_str fun H O => by simp only [Rep]; exact ⟨by rw [h], ok⟩
/-- a name whose value is shared -/
theorem ped_v (i : Nat) {x : Str} (hf : fl[i]? = some .sh := by rfl) (hN : X.N[i]? = some x := by rfl) (hv : Vis X.env.scope x := by first | exact Or.inl rfl | exact Or.inr (Or.inl rfl) | exact Or.inr (Or.inr rfl)) (hd : (x == ("__debug__" : Str)) = false := by decide)
    (hcd : (x == ("__classdict__" : Str)) = false := by decide) : PED X fl (.Name x pos) fl (eV i) := ⟨isv_V, Subf.refl, (pv i hN hv hd hcd).imp fun σ H Q ⟨ε, O, d, ε', r, em, k⟩ => by
  unfold eV at em
  cases q : look ε i with
  | none => rw [q] at em; cases em
  | some z =>
    rw [q] at em; cases em
    obtain ⟨v, e, h⟩ := r.sh i d hf (look_iff.mp q)
    exact ⟨v, e, k v H O r Step.refl h⟩⟩
/-- a name as an operand, whatever it holds -/
theorem pod_v (i : Nat) {x : Str} (hf : fl[i]? = some .ow ∨ fl[i]? = some .le := by decide) (hN : X.N[i]? = some x := by rfl) (hv : Vis X.env.scope x := by first | exact Or.inl rfl | exact Or.inr (Or.inl rfl) | exact Or.inr (Or.inr rfl)) (hd : (x == ("__debug__" : Str)) = false := by decide)
    (hcd : (x == ("__classdict__" : Str)) = false := by decide) : POD X fl (.Name x pos) fl (eO i) := ⟨Subf.refl, (pv i hN hv hd hcd).imp fun σ H Q ⟨ε, O, o, ε', r, em, k⟩ => by
  cases em
  obtain ⟨v, e⟩ : ∃ v, σ[i]? = some (some v) := by
    rcases hf with q | q
    · obtain ⟨a, d, _, e, _⟩ := r.ow i q; exact ⟨_, e⟩
    · obtain ⟨a, d, _, e, _⟩ := r.le i q; exact ⟨_, e⟩
  exact ⟨v, e, k v H O r Step.refl ⟨e, fun z => by
    rcases hf with q | q
    · rw [q] at z; cases z
    · rw [q] at z; cases z⟩⟩⟩
/-- a read-only parameter as an operand -/
def eR (i : Nat) : M := fun ε => (look ε i).bind fun _ => some (.slot i, ε)
theorem pod_r (i : Nat) {x : Str} (hf : fl[i]? = some .ro := by rfl) (hN : X.N[i]? = some x := by rfl) (hv : Vis X.env.scope x := by first | exact Or.inl rfl | exact Or.inr (Or.inl rfl) | exact Or.inr (Or.inr rfl)) (hd : (x == ("__debug__" : Str)) = false := by decide)
    (hcd : (x == ("__classdict__" : Str)) = false := by decide) : POD X fl (.Name x pos) fl (eR i) := ⟨Subf.refl, (pv i hN hv hd hcd).imp fun σ H Q ⟨ε, O, o, ε', r, em, k⟩ => by
  unfold eR at em
  cases q : look ε i with
  | none => rw [q] at em; cases em
  | some z =>
    rw [q] at em; cases em
    obtain ⟨v, e, _⟩ := r.ro i z hf (look_iff.mp q)
    exact ⟨v, e, k v H O r Step.refl ⟨e, fun z => by rw [hf] at z; cases z⟩⟩⟩

/-! ### one, two operands -/
def Dom (H : Hp) (O : Addr → Prop) : Prop := ∀ b, O b → H b ≠ none
theorem un_imp {r : V → Hp → VK → Prop} {f : D → Option D}
    (hr : ∀ v d z H O Q, Dom H O → RepR KF H O v d → f d = some z → (∀ v' H', Same H H' → Rep KF H' O v' z → Q v' H') → r v H Q) {σ : St} {H : Hp} {Q : VK}
    (h : tD KF fl fl' (e1 f m) σ H Q) : tO KF fl fl' m σ H fun x H1 => r x H1 Q := by
  obtain ⟨ε, O, d, ε', r, em, k⟩ := h
  simp only [e1, Option.bind_eq_some_iff] at em
  obtain ⟨⟨o, ε1⟩, e1, x, g, z, ef, h⟩ := em
  cases h
  refine ⟨ε, O, o, ε1, r, e1, fun v H1 O1 r1 s1 w => ?_⟩
  refine hr v x _ H1 O1 Q r1.dom (w.read r1 g) ef fun v' H' q w' => ?_
  exact k v' H' O1 (r1.same q) (s1.trans (Step.same (fl := fl) q) Subf.refl) w'
theorem bin_imp {r : R2} {f : D → D → Option D} (sub : Subf fl fl1) (sub2 : Subf fl1 fl2)
    (hr : ∀ v u d e z H O Q, Dom H O → RepR KF H O v d → RepR KF H O u e → f d e = some z → (∀ v' H', Same H H' → Rep KF H' O v' z → Q v' H') → r v u H Q) {σ : St} {H : Hp} {Q : VK}
    (h : tD KF fl fl2 (e2 f ma mb) σ H Q) : tO KF fl fl1 ma σ H fun x H1 => tO KF fl1 fl2 mb σ H1 fun y H2 => r x y H2 Q := by
  obtain ⟨ε, O, d, ε', r, em, k⟩ := h
  simp only [e2, Option.bind_eq_some_iff] at em
  obtain ⟨⟨o, ε1⟩, e1, ⟨o2, ε2⟩, e2, x, g1, y, g2, z, ef, h⟩ := em
  cases h
  refine ⟨ε, O, o, ε1, r, e1, fun v H1 O1 r1 s1 w => ?_⟩
  refine ⟨ε1, O1, o2, ε2, r1, e2, fun u H2 O2 r2 s2 w2 => ?_⟩
  refine hr v u x y _ H2 O2 Q r2.dom ((w.step r1 s2 sub2).read r2 g1) (w2.read r2 g2) ef fun v' H' q w' => ?_
  exact k v' H' O2 (r2.same q) ((s1.trans s2 sub).trans (Step.same (fl := fl) q) Subf.refl) w'
/-- the same, where a new thing comes -/
theorem un_impF {r : V → Hp → VK → Prop} {f : D → Option D}
    (hr : ∀ v d z H O Q, Dom H O → RepR KF H O v d → f d = some z → (∀ p H', H p = none → Same H H' → Top KF H' (fun b => O b ∨ b = p) p z → Q (.ref p) H') → r v H Q) {σ : St} {H : Hp} {Q : VK}
    (h : tF KF fl fl' (e1 f m) σ H Q) : tO KF fl fl' m σ H fun x H1 => r x H1 Q := by
  obtain ⟨ε, O, d, ε', r, em, k⟩ := h
  simp only [e1, Option.bind_eq_some_iff] at em
  obtain ⟨⟨o, ε1⟩, e1, x, g, z, ef, h⟩ := em
  cases h
  refine ⟨ε, O, o, ε1, r, e1, fun v H1 O1 r1 s1 w => ?_⟩
  refine hr v x _ H1 O1 Q r1.dom (w.read r1 g) ef fun p H' hp q w' => ?_
  obtain ⟨_, ht⟩ := w'.some_of
  refine k p H' _ (r1.own_same q hp (by rw [ht]; intro z; cases z)) (s1.trans (Step.own_same (fl := fl) q hp) Subf.refl) (.inr rfl) w' (Apart.new r1 q hp) (.inl (s1.dom p hp))
theorem bin_impF {r : R2} {f : D → D → Option D} (sub : Subf fl fl1) (sub2 : Subf fl1 fl2)
    (hr : ∀ v u d e z H O Q, Dom H O → RepR KF H O v d → RepR KF H O u e → f d e = some z → (∀ p H', H p = none → Same H H' → Top KF H' (fun b => O b ∨ b = p) p z → Q (.ref p) H') → r v u H Q) {σ : St} {H : Hp} {Q : VK}
    (h : tF KF fl fl2 (e2 f ma mb) σ H Q) : tO KF fl fl1 ma σ H fun x H1 => tO KF fl1 fl2 mb σ H1 fun y H2 => r x y H2 Q := by
  obtain ⟨ε, O, d, ε', r, em, k⟩ := h
  simp only [e2, Option.bind_eq_some_iff] at em
  obtain ⟨⟨o, ε1⟩, e1, ⟨o2, ε2⟩, e2, x, g1, y, g2, z, ef, h⟩ := em
  cases h
  refine ⟨ε, O, o, ε1, r, e1, fun v H1 O1 r1 s1 w => ?_⟩
  refine ⟨ε1, O1, o2, ε2, r1, e2, fun u H2 O2 r2 s2 w2 => ?_⟩
  refine hr v u x y _ H2 O2 Q r2.dom ((w.step r1 s2 sub2).read r2 g1) (w2.read r2 g2) ef fun p H' hp q w' => ?_
  obtain ⟨_, ht⟩ := w'.some_of
  exact k p H' _ (r2.own_same q hp (by rw [ht]; intro z; cases z)) ((s1.trans s2 sub).trans (Step.own_same (fl := fl) q hp) Subf.refl) (.inr rfl) w' (Apart.new r2 q hp) (.inl (s1.dom p (s2.dom p hp)))
end
end L2.VS

/-! Statements, loops over trees. -/
namespace L2.VS
open PySem PySem.Spec PyProof.Rows

/-- where one came from: what may be changed, and what stood -/
structure Gm where
  B : Addr → Prop
  O0 : Addr → Prop
  H0 : Hp
  σ0 : St
structure SRel (KF : PySem.W.Frag) (ownp : List Nat) (Γ : Gm) (fl : List Fl) (O : Addr → Prop) (σ : St) (H : Hp) (ε : Slots) : Prop where
  rel : Rel KF fl O σ H ε
  dom0 : ∀ b, Γ.O0 b → Γ.H0 b ≠ none
  keep : ∀ b o, Γ.H0 b = some o → ¬ Γ.B b → H b = some o
  dom : ∀ b, H b = none → Γ.H0 b = none
  new : ∀ b, O b → Γ.O0 b ∨ Γ.H0 b = none
  old : ∀ b, Γ.O0 b → ¬ Γ.B b → O b
  hit : ∀ b, Hit fl σ b → Γ.B b ∨ Γ.H0 b = none
  own : ∀ i ∈ ownp, σ[i]? = Γ.σ0[i]?
  lk : ∀ i : Nat, fl[i]? = some .le → σ[i]? = Γ.σ0[i]?
structure RetOk (KF : PySem.W.Frag) (ownp : List Nat) (fr : Bool) (Γ : Gm) (O : Addr → Prop) (H : Hp) (ε : Slots) (v : V) (d : D) : Prop where
  dom1 : ∀ b, O b → H b ≠ none
  keep : ∀ b o, Γ.H0 b = some o → ¬ Γ.B b → H b = some o
  dom : ∀ b, H b = none → Γ.H0 b = none
  new : ∀ b, O b → Γ.O0 b ∨ Γ.H0 b = none
  old : ∀ b, Γ.O0 b → ¬ Γ.B b → O b
  own : ∀ i ∈ ownp, ∃ a d', Γ.σ0[i]? = some (some (.ref a)) ∧ look ε i = some d' ∧ O a ∧ Top KF H O a d'
  res : if fr = true then ∃ a, v = .ref a ∧ O a ∧ Top KF H O a d ∧ (Γ.B a ∨ Γ.H0 a = none) ∧ ∀ i ∈ ownp, Γ.σ0[i]? ≠ some (some (.ref a)) else Rep KF H O v d
structure Sg where
  ownp : List Nat
  fr : Bool
  flB : List Fl
  flC : List Fl
def SEnd (KF : PySem.W.Frag) (sg : Sg) (Γ : Gm) (fl' : List Fl) (D : Ends) (ε' : Slots) : Flw → Prop
  | .nx => ∀ σ' H' O', SRel KF sg.ownp Γ fl' O' σ' H' ε' → D.nx σ' H'
  | .bk => ∀ σ' H' O', SRel KF sg.ownp Γ sg.flB O' σ' H' ε' → D.bk σ' H'
  | .ct => ∀ σ' H' O', SRel KF sg.ownp Γ sg.flC O' σ' H' ε' → D.ct σ' H'
  | .rt d => ∀ v H' O', RetOk KF sg.ownp sg.fr Γ O' H' ε' v d → D.rt v H'
def tS (KF : PySem.W.Frag) (sg : Sg) (fl fl' : List Fl) (m : S) : TS := fun D σ H => ∃ Γ ε O w ε', SRel KF sg.ownp Γ fl O σ H ε ∧ m ε = some (w, ε') ∧ SEnd KF sg Γ fl' D ε' w
structure PSD (X : Cx) (sg : Sg) (fl : List Fl) (st : Stmt) (fl' : List Fl) (m : S) : Prop where
  run : PS X st (tS X.K sg fl fl' m)
structure PSDs (X : Cx) (sg : Sg) (fl : List Fl) (st : List Stmt) (fl' : List Fl) (m : S) : Prop where
  run : PSs X st (tS X.K sg fl fl' m)

section
variable {KF : PySem.W.Frag} {H H' : Hp} {O O' : Addr → Prop} {fl fl' fl1 fl2 flH flT flE : List Fl} {σ : St} {ε : Slots} {X : Cx} {e a b c : Expr} {m m' ma mb : M} {pos pos' : Pos} {ownp : List Nat} {Γ : Gm} {sg : Sg}

/-! ### slots -/
theorem set_at {α : Type} {l : List α} {i j : Nat} {x y : α} (h : (l.set i x)[j]? = some y) : (j = i ∧ y = x) ∨ (j ≠ i ∧ l[j]? = some y) := by
  rw [List.getElem?_set] at h
  split at h
  · rename_i e
    split at h
    · exact .inl ⟨e.symm, (Option.some.inj h).symm⟩
    · cases h
  · rename_i e
    exact .inr ⟨fun z => e z.symm, h⟩
theorem set_ne {α : Type} {l : List α} {i j : Nat} {x : α} (h : j ≠ i) : (l.set i x)[j]? = l[j]? := by
  rw [List.getElem?_set]
  rw [if_neg (fun z => h z.symm)]
theorem set_eq {α : Type} {l : List α} {i : Nat} {x : α} (h : i < l.length) : (l.set i x)[i]? = some x := by
  rw [List.getElem?_set, if_pos rfl, if_pos h]
theorem Rel.lt (r : Rel KF fl O σ H ε) {i : Nat} {f : Fl} (h : fl[i]? = some f) : i < σ.length := by
  rw [← r.flen]
  exact (List.getElem?_eq_some_iff.mp h).1
theorem hit_set {f : Fl} {v : Option V} {i : Nat} {b : Addr} (h : Hit (fl.set i f) (σ.set i v) b) : (f = .ow ∧ v = some (.ref b)) ∨ Hit fl σ b := by
  obtain ⟨j, h1, h2⟩ := h
  rcases set_at h1 with ⟨e, e1⟩ | ⟨n, h1⟩
  · rcases set_at h2 with ⟨_, e2⟩ | ⟨n, _⟩
    · exact .inl ⟨e1.symm, e2.symm⟩
    · exact absurd e n
  · rw [set_ne n] at h2
    exact .inr ⟨j, h1, h2⟩
/-- a shared value is stored -/
theorem Rel.setSh {i : Nat} {v : V} {d : D} (r : Rel KF fl O σ H ε) (w : Rep KF H O v d) : Rel KF (fl.set i .sh) O (σ.set i (some v)) H (ε.set i (some d)) := by
  have nh : ∀ {b}, Hit (fl.set i .sh) (σ.set i (some v)) b → Hit fl σ b := fun {b} h => by
    rcases hit_set h with ⟨z, _⟩ | h
    · cases z
    · exact h
  refine ⟨by simp [r.len], by simp [r.flen], r.dom, fun j e h1 h2 => ?_, fun j h => ?_, fun j h => ?_, fun j e h1 h2 => ?_, fun j k a n h1 h2 h3 h4 => ?_⟩
  · by_cases hj : j = i
    · subst hj
      rcases set_at h2 with ⟨_, e2⟩ | ⟨n, _⟩
      · cases e2
        have hl : j < σ.length := by
          have := (List.getElem?_eq_some_iff.mp h1).1
          rw [List.length_set, r.flen] at this
          exact this
        exact ⟨v, set_eq hl, w⟩
      · exact absurd rfl n
    · rw [set_ne hj] at h1 h2 ⊢
      exact r.sh j e h1 h2
  · rcases set_at h with ⟨_, z⟩ | ⟨hj, h⟩
    · cases z
    · rw [set_ne hj, set_ne hj]
      exact r.ow j h
  · rcases set_at h with ⟨_, z⟩ | ⟨hj, h⟩
    · cases z
    · rw [set_ne hj, set_ne hj]
      obtain ⟨a, d, e1, e2, o, t, n⟩ := r.le j h
      exact ⟨a, d, e1, e2, o, t, fun z => n (nh z)⟩
  · rcases set_at h1 with ⟨_, z⟩ | ⟨hj, h1⟩
    · cases z
    · rw [set_ne hj] at h2 ⊢
      obtain ⟨v, e1, q⟩ := r.ro j e h1 h2
      exact ⟨v, e1, q.imp id fun ⟨a, x, o, t, n⟩ => ⟨a, x, o, t, fun z => n (nh z)⟩⟩
  · rcases set_at h1 with ⟨_, z⟩ | ⟨hj, h1⟩
    · cases z
    · rcases set_at h2 with ⟨_, z⟩ | ⟨hk, h2⟩
      · cases z
      · rw [set_ne hj] at h3
        rw [set_ne hk] at h4
        exact r.ap j k a n h1 h2 h3 h4
/-- a thing that no one else holds is stored -/
theorem Rel.setOw {i : Nat} {p : Addr} {d : D} (r : Rel KF fl O σ H ε) (o : O p) (t : Top KF H O p d) (ap : Apart KF fl O σ H ε p) (hi : i < fl.length) : Rel KF (fl.set i .ow) O (σ.set i (some (.ref p))) H (ε.set i (some d)) := by
  have nh : ∀ {b}, Hit (fl.set i .ow) (σ.set i (some (.ref p))) b → b = p ∨ Hit fl σ b := fun {b} h => by
    rcases hit_set h with ⟨_, z⟩ | h
    · cases z; exact .inl rfl
    · exact .inr h
  have hs : i < σ.length := by rw [← r.flen]; exact hi
  have he : i < ε.length := by rw [r.len]; exact hs
  refine ⟨by simp [r.len], by simp [r.flen], r.dom, fun j e h1 h2 => ?_, fun j h => ?_, fun j h => ?_, fun j e h1 h2 => ?_, fun j k a n h1 h2 h3 h4 => ?_⟩
  · rcases set_at h1 with ⟨_, z⟩ | ⟨hj, h1⟩
    · cases z
    · rw [set_ne hj] at h2 ⊢
      exact r.sh j e h1 h2
  · rcases set_at h with ⟨z, _⟩ | ⟨hj, h⟩
    · subst z
      exact ⟨p, d, set_eq he, set_eq hs, o, t⟩
    · rw [set_ne hj, set_ne hj]
      exact r.ow j h
  · rcases set_at h with ⟨_, z⟩ | ⟨hj, h⟩
    · cases z
    · rw [set_ne hj, set_ne hj]
      obtain ⟨a, d, e1, e2, o, t, n⟩ := r.le j h
      exact ⟨a, d, e1, e2, o, t, fun z => (nh z).elim (fun q => ap.le j h (q ▸ e2)) n⟩
  · rcases set_at h1 with ⟨_, z⟩ | ⟨hj, h1⟩
    · cases z
    · rw [set_ne hj] at h2 ⊢
      obtain ⟨v, e1, q⟩ := ap.ro j e h1 h2
      exact ⟨v, e1, q.imp id fun ⟨a, x, o, t, n, ne⟩ => ⟨a, x, o, t, fun z => (nh z).elim ne n⟩⟩
  · rcases set_at h1 with ⟨z1, _⟩ | ⟨hj, y1⟩
    · rcases set_at h2 with ⟨z2, _⟩ | ⟨hk, y2⟩
      · exact n (z1.trans z2.symm)
      · rw [z1, set_eq hs] at h3
        cases h3
        rw [set_ne hk] at h4
        exact ap.ow ⟨k, y2, h4⟩
    · rw [set_ne hj] at h3
      rcases set_at h2 with ⟨z2, _⟩ | ⟨hk, y2⟩
      · rw [z2, set_eq hs] at h4
        cases h4
        exact ap.ow ⟨j, y1, h3⟩
      · rw [set_ne hk] at h4
        exact r.ap j k a n y1 y2 h3 h4

/-! ### fewer claims -/
def Wk (fl fl' : List Fl) : Prop := fl'.length = fl.length ∧ ∀ i : Nat, fl'[i]? = fl[i]? ∨ (fl[i]? = some .ow ∧ fl'[i]? = some .sh) ∨ fl'[i]? = some .dd
def wkB : List Fl → List Fl → Bool
  | [], [] => true
  | x :: r, y :: s => (decide (y = x) || (decide (x = .ow) && decide (y = .sh)) || decide (y = .dd)) && wkB r s
  | [], _ :: _ => false
  | _ :: _, [] => false
theorem wk_of : ∀ {fl fl' : List Fl}, wkB fl fl' = true → Wk fl fl'
  | [], [], _ => ⟨rfl, fun _ => .inl rfl⟩
  | x :: r, y :: s, h => by
    simp only [wkB, Bool.and_eq_true, Bool.or_eq_true, decide_eq_true_eq] at h
    obtain ⟨h1, h2⟩ := wk_of h.2
    refine ⟨by simp [h1], fun i => ?_⟩
    cases i with
    | zero =>
      simp only [List.getElem?_cons_zero]
      rcases h.1 with (e | ⟨e1, e2⟩) | e
      · exact .inl (by rw [e])
      · exact .inr (.inl ⟨by rw [e1], by rw [e2]⟩)
      · exact .inr (.inr (by rw [e]))
    | succ i => simpa using h2 i
  | [], _ :: _, h => by simp [wkB] at h
  | _ :: _, [], h => by simp [wkB] at h
theorem Wk.refl : Wk fl fl := ⟨rfl, fun _ => .inl rfl⟩
theorem Wk.ow (w : Wk fl fl') {i : Nat} (h : fl'[i]? = some .ow) : fl[i]? = some .ow := by
  rcases w.2 i with e | ⟨_, e⟩ | e
  · rw [← e]; exact h
  · rw [h] at e; cases e
  · rw [h] at e; cases e
theorem Wk.le (w : Wk fl fl') {i : Nat} (h : fl'[i]? = some .le) : fl[i]? = some .le := by
  rcases w.2 i with e | ⟨_, e⟩ | e
  · rw [← e]; exact h
  · rw [h] at e; cases e
  · rw [h] at e; cases e
theorem Wk.ro (w : Wk fl fl') {i : Nat} (h : fl'[i]? = some .ro) : fl[i]? = some .ro := by
  rcases w.2 i with e | ⟨_, e⟩ | e
  · rw [← e]; exact h
  · rw [h] at e; cases e
  · rw [h] at e; cases e
theorem Wk.hit (w : Wk fl fl') {b : Addr} (h : Hit fl' σ b) : Hit fl σ b := by
  obtain ⟨i, h1, h2⟩ := h
  exact ⟨i, w.ow h1, h2⟩
theorem Rel.weak (r : Rel KF fl O σ H ε) (w : Wk fl fl') : Rel KF fl' (fun b => O b ∧ ¬ ∃ i : Nat, fl[i]? = some .ow ∧ fl'[i]? = some .sh ∧ σ[i]? = some (some (.ref b))) σ H ε := by
  have s : Stay H O H (fun b => O b ∧ ¬ ∃ i : Nat, fl[i]? = some .ow ∧ fl'[i]? = some .sh ∧ σ[i]? = some (some (.ref b))) := ⟨fun b u e _ => e, fun b h => .inl h.1⟩
  refine ⟨r.len, by rw [w.1, r.flen], fun b h => r.dom b h.1, fun i d h1 h2 => ?_, fun i h => ?_, fun i h => ?_, fun i d h1 h2 => ?_, fun i j a n h1 h2 => r.ap i j a n (w.ow h1) (w.ow h2)⟩
  · rcases w.2 i with e | ⟨e1, e2⟩ | e
    · obtain ⟨v, e1, q⟩ := r.sh i d (by rw [← e]; exact h1) h2
      exact ⟨v, e1, q.stay s⟩
    rotate_left
    · rw [h1] at e; cases e
    · obtain ⟨a, d', q1, q2, o, t⟩ := r.ow i e1
      rw [h2] at q1; cases q1
      refine ⟨.ref a, q2, ?_⟩
      have no : ¬ (O a ∧ ¬ ∃ i : Nat, fl[i]? = some .ow ∧ fl'[i]? = some .sh ∧ σ[i]? = some (some (.ref a))) := fun z => z.2 ⟨i, e1, e2, q2⟩
      cases d with
      | lst ds =>
        obtain ⟨vs, q, y⟩ := t
        simp only [Rep]
        exact ⟨a, vs, rfl, no, q, y.stay s⟩
      | dic t ks ds =>
        obtain ⟨vs, o, eo, q, l, y⟩ := t
        simp only [Rep]
        exact ⟨a, vs, o, rfl, no, eo, .inl q, l, y.stay s⟩
      | _ => exact t.elim
  · obtain ⟨a, d, e1, e2, o, t⟩ := r.ow i (w.ow h)
    refine ⟨a, d, e1, e2, ⟨o, fun ⟨j, j1, j2, j3⟩ => ?_⟩, t.stay s rfl⟩
    by_cases hij : i = j
    · subst hij
      rw [h] at j2; cases j2
    · exact r.ap i j a hij (w.ow h) j1 e2 j3
  · obtain ⟨a, d, e1, e2, o, t, n⟩ := r.le i (w.le h)
    exact ⟨a, d, e1, e2, ⟨o, fun ⟨j, j1, j2, j3⟩ => n ⟨j, j1, j3⟩⟩, t.stay s rfl, fun z => n (w.hit z)⟩
  · obtain ⟨v, e1, q⟩ := r.ro i d (w.ro h1) h2
    refine ⟨v, e1, ?_⟩
    rcases q with q | ⟨a, x, o, t, n⟩
    · exact .inl (q.stay s)
    · exact .inr ⟨a, x, ⟨o, fun ⟨j, j1, j2, j3⟩ => n ⟨j, j1, j3⟩⟩, t.stay s rfl, fun z => n (w.hit z)⟩
theorem SRel.weak' (r : SRel KF ownp Γ fl O σ H ε) (w : Wk fl fl') : ∃ O', ((∀ b, O' b → O b) ∧ ∀ b, O b → ¬ Hit fl σ b → O' b) ∧ SRel KF ownp Γ fl' O' σ H ε :=
  ⟨_, ⟨fun b h => h.1, fun b h n => ⟨h, fun ⟨j, j1, j2, j3⟩ => n ⟨j, j1, j3⟩⟩⟩, r.rel.weak w, r.dom0, r.keep, r.dom, fun b h => r.new b h.1, fun b h n => ⟨r.old b h n, fun ⟨i, h1, h2, h3⟩ => by
    rcases r.hit b ⟨i, h1, h3⟩ with z | z
    · exact n z
    · exact r.dom0 b h z⟩, fun b h => r.hit b (w.hit h), r.own, fun i h => r.lk i (w.le h)⟩
theorem SRel.weak (r : SRel KF ownp Γ fl O σ H ε) (w : Wk fl fl') : ∃ O', SRel KF ownp Γ fl' O' σ H ε :=
  let ⟨O', _, h⟩ := r.weak' w
  ⟨O', h⟩
/-- behind an expression -/
theorem SRel.step (r : SRel KF ownp Γ fl O σ H ε) {ε' : Slots} (r' : Rel KF fl' O' σ H' ε') (s : Step fl σ O H O' H') (u : Subf fl fl') : SRel KF ownp Γ fl' O' σ H' ε' := by
  refine ⟨r', r.dom0, fun b o e n => s.keep b o (r.keep b o e n) fun z => ?_, fun b e => r.dom b (s.dom b e), fun b h => ?_, fun b h n => s.old b (r.old b h n) fun z => ?_, fun b h => r.hit b (u.hit h), r.own, fun i h => r.lk i ((u i).2.1 h)⟩
  · rcases r.hit b z with q | q
    · exact n q
    · rw [e] at q; cases q
  · rcases s.new b h with q | q
    · exact r.new b q
    · exact .inr (r.dom b q)
  · rcases r.hit b z with q | q
    · exact n q
    · exact r.dom0 b h q
end
end L2.VS

/-! Statements and loops: the rules. -/
namespace L2.VS
open PySem PySem.Spec PyProof.Rows

/-- what stays while a loop turns -/
structure Kp (fl : List Fl) (σ : St) (O : Addr → Prop) (H : Hp) (O' : Addr → Prop) (H' : Hp) : Prop where
  keep : ∀ b o, H b = some o → ¬ Hit fl σ b → H' b = some o
  new : ∀ b, O' b → O b ∨ H b = none
/-- J walks over these items -/
def Walks (KF : PySem.W.Frag) (fl : List Fl) (σ : St) (J : It) (ds : List D) (H : Hp) (O : Addr → Prop) : Prop :=
  ∀ (i : Nat) H2 O2, Kp fl σ O H O2 H2 → Dom H2 O2 → (∀ d, ds[i]? = some d → J.go i H2 ∧ ∀ x H3, J.yld i H2 x H3 → Same H2 H3 ∧ Rep KF H3 O2 x d) ∧ (i = ds.length → J.stop i H2)
def tI (KF : PySem.W.Frag) (fl fl' : List Fl) (it : I) : TI := fun σ H R => ∃ ε O ds ε', Rel KF fl O σ H ε ∧ it ε = some (ds, ε') ∧
  ∀ J H' O', Rel KF fl' O' σ H' ε' → Step fl σ O H O' H' → Walks KF fl' σ J ds H' O' → R J H'
structure PID (X : Cx) (fl : List Fl) (tg iter : Expr) (fl' : List Fl) (it : I) : Prop where
  sub : Subf fl fl'
  run : ∃ wi, PI X tg iter wi ∧ ∀ σ H R, tI X.K fl fl' it σ H R → wi σ H R
/-- all but the slots ws are as they were -/
def Only (ws : List Nat) (σ σ' : St) : Prop := σ'.length = σ.length ∧ ∀ j, j ∉ ws → σ'[j]? = σ[j]?
def tG (KF : PySem.W.Frag) (ownp : List Nat) (fl fl' : List Fl) (ws : List Nat) (g : G) : TG := fun v σ H Q => ∃ Γ ε O d ε', SRel KF ownp Γ fl O σ H ε ∧ Rep KF H O v d ∧ g d ε = some ε' ∧
  ∀ σ' O', SRel KF ownp Γ fl' O' σ' H ε' → Only ws σ σ' → (∀ b, O' b ↔ O b) → Q σ' H
structure PGD (X : Cx) (ownp : List Nat) (fl : List Fl) (tg : Expr) (fl' : List Fl) (ws : List Nat) (g : G) : Prop where
  run : PG X tg (tG X.K ownp fl fl' ws g)
theorem _root_.L2.PG.imp {X : Cx} {e : Expr} {t t' : TG} (h : PG X e t) (i : ∀ v σ H Q, t' v σ H Q → t v σ H Q) : PG X e t' := ⟨fun pins s σ H v u Q I r q => h.run pins s σ H v u Q I r (i v σ H Q q)⟩
theorem _root_.L2.PGs.imp {X : Cx} {e : List Expr} {t t' : TGs} (h : PGs X e t) (i : ∀ v σ H Q, t' v σ H Q → t v σ H Q) : PGs X e t' := ⟨fun pins s σ H v u Q I r q => h.run pins s σ H v u Q I r (i v σ H Q q)⟩

section
variable {KF : PySem.W.Frag} {H H' H1 H2 : Hp} {O O' O1 O2 : Addr → Prop} {fl fl' fl1 fl2 flH flT flE flX : List Fl} {σ σ1 σ2 : St} {ε ε1 ε2 : Slots} {X : Cx} {e a b c : Expr} {m m' ma mb : M} {t : T} {sa sb : S} {st : Stmt} {sts as bs : List Stmt} {pos pos' : Pos} {ownp : List Nat} {Γ Γ' : Gm} {sg : Sg}

theorem IsV.val (h : IsV m) {d : D} {ε' : Slots} (e : val m ε = some (d, ε')) : m ε = some (.val d, ε') := by
  simp only [VS.val, Option.bind_eq_some_iff] at e
  obtain ⟨⟨o, ε1⟩, e1, d', g, e2⟩ := e
  cases e2
  obtain ⟨z, rfl⟩ := h _ _ _ e1
  cases g
  exact e1

/-! ### stores of slots -/
theorem SRel.setSh {i : Nat} {v : V} {d : D} (r : SRel KF ownp Γ fl O σ H ε) (w : Rep KF H O v d) (ho : i ∉ ownp) : SRel KF ownp Γ (fl.set i .sh) O (σ.set i (some v)) H (put ε i d) := by
  rw [put_eq]
  refine ⟨r.rel.setSh w, r.dom0, r.keep, r.dom, r.new, r.old, fun b h => ?_, fun j h => ?_, fun j h => ?_⟩
  · rcases hit_set h with ⟨z, _⟩ | h
    · cases z
    · exact r.hit b h
  · rw [set_ne (fun z : j = i => ho (by rw [← z]; exact h))]
    exact r.own j h
  · rcases set_at h with ⟨_, z⟩ | ⟨hj, y⟩
    · cases z
    · rw [set_ne hj]
      exact r.lk j y
theorem SRel.setOw {i : Nat} {p : Addr} {d : D} (r : SRel KF ownp Γ fl O σ H ε) (o : O p) (t : Top KF H O p d) (ap : Apart KF fl O σ H ε p) (hi : i < fl.length) (n : Γ.B p ∨ Γ.H0 p = none) (ho : i ∉ ownp) : SRel KF ownp Γ (fl.set i .ow) O (σ.set i (some (.ref p))) H (put ε i d) := by
  rw [put_eq]
  refine ⟨r.rel.setOw o t ap hi, r.dom0, r.keep, r.dom, r.new, r.old, fun b h => ?_, fun j h => ?_, fun j h => ?_⟩
  · rcases hit_set h with ⟨_, z⟩ | h
    · cases z; exact n
    · exact r.hit b h
  · rw [set_ne (fun z : j = i => ho (by rw [← z]; exact h))]
    exact r.own j h
  · rcases set_at h with ⟨_, z⟩ | ⟨hj, y⟩
    · cases z
    · rw [set_ne hj]
      exact r.lk j y

/-! ### blocks -/
theorem psds_nil : PSDs X sg fl [] fl sNil := ⟨pss_nil.imp fun D σ H ⟨Γ, ε, O, w, ε', r, em, k⟩ => by
  cases em
  exact k σ H O r⟩
theorem psds_one (h : PSD X sg fl st fl' sa) : PSDs X sg fl [st] fl' sa := ⟨pss_one h.run⟩
theorem psds_cons (h : PSD X sg fl st fl1 sa) (h2 : PSDs X sg fl1 sts fl2 sb) : PSDs X sg fl (st :: sts) fl2 (sSeq sa sb) := ⟨(pss_cons h.run h2.run).imp fun D σ H ⟨Γ, ε, O, w, ε', r, em, k⟩ => by
  simp only [sSeq, Option.bind_eq_some_iff] at em
  obtain ⟨⟨w1, ε1⟩, e1, em⟩ := em
  cases w1 with
  | nx => exact ⟨Γ, ε, O, .nx, ε1, r, e1, fun σ' H' O' r' => ⟨Γ, ε1, O', w, ε', r', em, k⟩⟩
  | bk => cases em; exact ⟨Γ, ε, O, .bk, _, r, e1, k⟩
  | ct => cases em; exact ⟨Γ, ε, O, .ct, _, r, e1, k⟩
  | rt d => cases em; exact ⟨Γ, ε, O, .rt d, _, r, e1, k⟩⟩
theorem SEnd.wk {D : Ends} {ε' : Slots} {w : Flw} (k : SEnd KF sg Γ fl2 D ε' w) (h : Wk fl1 fl2) : SEnd KF sg Γ fl1 D ε' w := by
  cases w with
  | nx =>
    intro σ' H' O' r
    obtain ⟨O2, r2⟩ := r.weak h
    exact k σ' H' O2 r2
  | bk => exact k
  | ct => exact k
  | rt d => exact k
theorem psd_wk (fl2 : List Fl) (h : PSD X sg fl st fl1 sa) (w : wkB fl1 fl2 = true := by rfl) : PSD X sg fl st fl2 sa := ⟨h.run.imp fun D σ H ⟨Γ, ε, O, w', ε', r, em, k⟩ => ⟨Γ, ε, O, w', ε', r, em, k.wk (wk_of w)⟩⟩
theorem psds_wk (fl2 : List Fl) (h : PSDs X sg fl sts fl1 sa) (w : wkB fl1 fl2 = true := by rfl) : PSDs X sg fl sts fl2 sa := ⟨h.run.imp fun D σ H ⟨Γ, ε, O, w', ε', r, em, k⟩ => ⟨Γ, ε, O, w', ε', r, em, k.wk (wk_of w)⟩⟩

/-! ### plain statements -/
theorem psd_pass : PSD X sg fl (.Pass pos) fl sNil := ⟨ps_pass.imp fun D σ H ⟨Γ, ε, O, w, ε', r, em, k⟩ => by
  cases em
  exact k σ H O r⟩
theorem psd_doc {x : Str} {j : Nat} : PSD X sg fl (.Expr (.Constant (.str x) j pos) pos') fl sNil := ⟨ps_doc.imp fun D σ H ⟨Γ, ε, O, w, ε', r, em, k⟩ => by
  cases em
  exact k σ H O r⟩
theorem psd_brk (w : wkB fl sg.flB = true := by rfl) : PSD X sg fl (.Break pos) fl' sBrk := ⟨ps_break.imp fun D σ H ⟨Γ, ε, O, w', ε', r, em, k⟩ => by
  cases em
  obtain ⟨O2, r2⟩ := r.weak (wk_of w)
  exact k σ H O2 r2⟩
theorem psd_cnt (w : wkB fl sg.flC = true := by rfl) : PSD X sg fl (.Continue pos) fl' sCnt := ⟨ps_continue.imp fun D σ H ⟨Γ, ε, O, w', ε', r, em, k⟩ => by
  cases em
  obtain ⟨O2, r2⟩ := r.weak (wk_of w)
  exact k σ H O2 r2⟩
/-- x = e, a value -/
theorem psd_set (i : Nat) {x : Str} (nd : X.N.Nodup) (h : PED X fl e fl1 m) (ho : i ∉ sg.ownp := by decide) (hi : X.N[i]? = some x := by rfl) (hx : Loc X.env.scope x := by first | exact .inl rfl | exact .inr rfl)
    (hs : swapsWith e (some (.Name x pos')) pos.line X.env = pure false := by rfl) (hf : X.fn x = true ∨ X.env.scope.names.lookup x = some .local := by first | exact .inl rfl | exact .inr rfl) :
    PSD X sg fl (.Assign [.Name x pos'] e pos) (fl1.set i .sh) (sSet i m) := ⟨(ps_set nd hi hx h.run hs hf).imp fun D σ H ⟨Γ, ε, O, w, ε', r, em, k⟩ => by
  simp only [sSet, Option.bind_eq_some_iff] at em
  obtain ⟨⟨d, ε1⟩, e1, em⟩ := em
  cases em
  refine ⟨ε, O, d, ε1, r.rel, h.isv.val e1, fun v H' O' r' s w => ?_⟩
  exact k _ _ _ ((r.step r' s h.sub).setSh w ho)⟩
/-- x = e, a new thing -/
theorem psd_setO (i : Nat) {x : Str} (nd : X.N.Nodup) (h : PFD X fl e fl1 m) (ho : i ∉ sg.ownp := by decide) (hl : i < fl1.length := by decide) (hi : X.N[i]? = some x := by rfl) (hx : Loc X.env.scope x := by first | exact .inl rfl | exact .inr rfl)
    (hs : swapsWith e (some (.Name x pos')) pos.line X.env = pure false := by rfl) (hf : X.fn x = true ∨ X.env.scope.names.lookup x = some .local := by first | exact .inl rfl | exact .inr rfl) :
    PSD X sg fl (.Assign [.Name x pos'] e pos) (fl1.set i .ow) (sSet i m) := ⟨(ps_set nd hi hx h.run hs hf).imp fun D σ H ⟨Γ, ε, O, w, ε', r, em, k⟩ => by
  simp only [sSet, Option.bind_eq_some_iff] at em
  obtain ⟨⟨d, ε1⟩, e1, em⟩ := em
  cases em
  refine ⟨ε, O, d, ε1, r.rel, h.isv.val e1, fun p H' O' r' s o t ap n => ?_⟩
  refine k _ _ _ ((r.step r' s h.sub).setOw o t ap hl ?_ ho)
  rcases n with n | n
  · exact .inr (r.dom p n)
  · exact r.hit p n⟩
theorem psd_do (h : PED X fl e fl1 m) (hs : swapsWith e none pos.line X.env = pure false := by rfl) : PSD X sg fl (.Expr e pos) fl1 (sDo m) := ⟨(ps_expr h.run hs).imp fun D σ H ⟨Γ, ε, O, w, ε', r, em, k⟩ => by
  simp only [sDo, Option.bind_eq_some_iff] at em
  obtain ⟨⟨d, ε1⟩, e1, em⟩ := em
  cases em
  exact ⟨ε, O, d, ε1, r.rel, h.isv.val e1, fun v H' O' r' s w => k _ _ _ (r.step r' s h.sub)⟩⟩
theorem SRel.ret {v : V} {d : D} (r : SRel KF ownp Γ fl O σ H ε) (ho : ∀ i ∈ ownp, fl[i]? = some .ow) (w : Rep KF H O v d) : RetOk KF ownp false Γ O H ε v d :=
  ⟨r.rel.dom, r.keep, r.dom, r.new, r.old, fun i hi => by
    obtain ⟨a, d', e1, e2, o, t⟩ := r.rel.ow i (ho i hi)
    exact ⟨a, d', by rw [← r.own i hi]; exact e2, look_iff.mpr e1, o, t⟩, by rw [if_neg (by decide)]; exact w⟩
theorem SRel.retF {a : Addr} {d : D} (r : SRel KF ownp Γ fl O σ H ε) (ho : ∀ i ∈ ownp, fl[i]? = some .ow) (o : O a) (t : Top KF H O a d) (ap : ¬ Hit fl σ a) (n : Γ.B a ∨ Γ.H0 a = none) : RetOk KF ownp true Γ O H ε (.ref a) d :=
  ⟨r.rel.dom, r.keep, r.dom, r.new, r.old, fun i hi => by
    obtain ⟨a, d', e1, e2, o, t⟩ := r.rel.ow i (ho i hi)
    exact ⟨a, d', by rw [← r.own i hi]; exact e2, look_iff.mpr e1, o, t⟩, by
    rw [if_pos rfl]
    refine ⟨a, rfl, o, t, n, fun i hi z => ap ⟨i, ho i hi, ?_⟩⟩
    rw [r.own i hi]; exact z⟩
theorem psd_ret (h : PED X fl e fl1 m) (hr : sg.fr = false := by rfl) (ho : ∀ i ∈ sg.ownp, fl1[i]? = some .ow := by decide) : PSD X sg fl (.Return (some e) pos) fl' (sRet m) := ⟨(ps_ret h.run).imp fun D σ H ⟨Γ, ε, O, w, ε', r, em, k⟩ => by
  simp only [sRet, Option.bind_eq_some_iff] at em
  obtain ⟨⟨d, ε1⟩, e1, em⟩ := em
  cases em
  refine ⟨ε, O, d, ε1, r.rel, h.isv.val e1, fun v H' O' r' s w => k v H' O' ?_⟩
  rw [hr]
  exact (r.step r' s h.sub).ret ho w⟩
theorem psd_retF (h : PFD X fl e fl1 m) (hr : sg.fr = true := by rfl) (ho : ∀ i ∈ sg.ownp, fl1[i]? = some .ow := by decide) : PSD X sg fl (.Return (some e) pos) fl' (sRet m) := ⟨(ps_ret h.run).imp fun D σ H ⟨Γ, ε, O, w, ε', r, em, k⟩ => by
  simp only [sRet, Option.bind_eq_some_iff] at em
  obtain ⟨⟨d, ε1⟩, e1, em⟩ := em
  cases em
  refine ⟨ε, O, d, ε1, r.rel, h.isv.val e1, fun p H' O' r' s o t ap n => k _ H' O' ?_⟩
  rw [hr]
  refine (r.step r' s h.sub).retF ho o t ap.ow ?_
  rcases n with n | n
  · exact .inr (r.dom p n)
  · exact r.hit p n⟩
theorem psd_retN (hr : sg.fr = false := by rfl) (ho : ∀ i ∈ sg.ownp, fl[i]? = some .ow := by decide) : PSD X sg fl (.Return none pos) fl' (sRet (eC .non)) := ⟨ps_retN.imp fun D σ H ⟨Γ, ε, O, w, ε', r, em, k⟩ => by
  cases em
  refine k .non H O ?_
  rw [hr]
  exact r.ret ho (by simp [Rep])⟩
theorem psd_if (hc : PTD X fl c fl1 t) (ha : PSDs X sg fl1 as fl2 sa) (hb : PSDs X sg fl1 bs fl2 sb) : PSD X sg fl (.If c as bs pos) fl2 (sIf t sa sb) := ⟨(ps_if hc.run ha.run hb.run).imp fun D σ H ⟨Γ, ε, O, w, ε', r, em, k⟩ => by
  simp only [sIf, Option.bind_eq_some_iff] at em
  obtain ⟨⟨d, ε1⟩, e1, em⟩ := em
  refine ⟨ε, O, d, ε1, r.rel, e1, fun H' O' r' s => ?_⟩
  cases d with
  | true =>
    rw [if_pos rfl] at em
    refine iteT ?_
    exact ⟨Γ, ε1, O', w, ε', r.step r' s hc.sub, em, k⟩
  | false =>
    rw [if_neg Bool.false_ne_true] at em
    refine iteF ?_
    exact ⟨Γ, ε1, O', w, ε', r.step r' s hc.sub, em, k⟩⟩

/-! ### loops -/
def Sg.inl (sg : Sg) (flB flC : List Fl) : Sg := ⟨sg.ownp, sg.fr, flB, flC⟩
theorem psd_while (n : Nat) (flH : List Fl) (hc : PTD X flH c flT t) (hb : PSDs X (sg.inl flT flH) flT bs flE sb) (w0 : wkB fl flH = true := by rfl) (w1 : wkB flE flH = true := by rfl)
    (hp : PassesOwn (model X.prog X.w) X.A X.env X.xe := by exact PassesOwn.never) : PSD X sg fl (.While c bs [] pos) flT (whileN t sb n) := ⟨(ps_while hp hc.run hb.run).imp fun D σ H ⟨Γ, ε, O, w, ε', r, em, k⟩ => by
  obtain ⟨O1, r1⟩ := r.weak (wk_of w0)
  refine ⟨fun m σ H => ∃ ε O, SRel X.K sg.ownp Γ flH O σ H ε ∧ whileN t sb m ε = some (w, ε'), ⟨n, ε, O1, r1, em⟩, ?_⟩
  rintro m σ H ⟨ε, O, r, em⟩
  cases m with
  | zero => cases em
  | succ m =>
    simp only [whileN, Option.bind_eq_some_iff] at em
    obtain ⟨⟨d, ε1⟩, e1, em⟩ := em
    refine ⟨ε, O, d, ε1, r.rel, e1, fun H' O' r' s => ?_⟩
    have r2 := r.step r' s hc.sub
    cases d with
    | false =>
      rw [if_neg Bool.false_ne_true] at em
      refine iteF ?_
      cases em
      exact k σ H' O' r2
    | true =>
      rw [if_pos rfl] at em
      simp only [Option.bind_eq_some_iff] at em
      obtain ⟨⟨w2, ε2⟩, e2, em⟩ := em
      refine iteT ?_
      refine ⟨fun σ H => ∃ ε O, SRel X.K sg.ownp Γ flH O σ H ε ∧ whileN t sb m ε = some (w, ε'), fun σ' H' h => ⟨m, Nat.lt_succ_self m, h⟩, Γ, ε1, O', w2, ε2, r2, e2, ?_⟩
      cases w2 with
      | nx =>
        intro σ' H' O' r'
        obtain ⟨O2, r3⟩ := r'.weak (wk_of w1)
        exact ⟨ε2, O2, r3, em⟩
      | ct => exact fun σ' H' O' r' => ⟨ε2, O', r', em⟩
      | bk => cases em; exact fun σ' H' O' r' => k σ' H' O' r'
      | rt d => cases em; exact fun v H' O' r' => k v H' O' r'⟩
/-- the way back out of a loop -/
theorem SRel.comp {O1' : Addr → Prop} (r : SRel KF ownp Γ flH O1 σ1 H1 ε1) (q : SRel KF ownp ⟨Hit flH σ1, O1, H1, σ1⟩ flX O2 σ2 H2 ε2) (hl : ∀ i : Nat, flX[i]? = some .le → flH[i]? = some .le) : SRel KF ownp Γ flX O2 σ2 H2 ε2 := by
  refine ⟨q.rel, r.dom0, fun b o e n => q.keep b o (r.keep b o e n) fun z => ?_, fun b e => r.dom b (q.dom b e), fun b h => ?_, fun b h n => q.old b (r.old b h n) fun z => ?_, fun b h => ?_, fun i h => (q.own i h).trans (r.own i h), fun i h => (q.lk i h).trans (r.lk i (hl i h))⟩
  · rcases r.hit b z with q | q
    · exact n q
    · rw [e] at q; cases q
  · rcases q.new b h with z | z
    · exact r.new b z
    · exact .inr (r.dom b z)
  · rcases r.hit b z with q | q
    · exact n q
    · exact r.dom0 b h q
  · rcases q.hit b h with z | z
    · exact r.hit b z
    · exact .inr (r.dom b z)
theorem RetOk.comp {fr : Bool} {v : V} {d : D} (r : SRel KF ownp Γ flH O1 σ1 H1 ε1) (q : RetOk KF ownp fr ⟨Hit flH σ1, O1, H1, σ1⟩ O2 H2 ε2 v d) : RetOk KF ownp fr Γ O2 H2 ε2 v d := by
  refine ⟨q.dom1, fun b o e n => q.keep b o (r.keep b o e n) fun z => ?_, fun b e => r.dom b (q.dom b e), fun b h => ?_, fun b h n => q.old b (r.old b h n) fun z => ?_, fun i hi => ?_, ?_⟩
  · rcases r.hit b z with q | q
    · exact n q
    · rw [e] at q; cases q
  · rcases q.new b h with z | z
    · exact r.new b z
    · exact .inr (r.dom b z)
  · rcases r.hit b z with q | q
    · exact n q
    · exact r.dom0 b h q
  · obtain ⟨a, d', e1, e2⟩ := q.own i hi
    exact ⟨a, d', by rw [← r.own i hi]; exact e1, e2⟩
  · have q2 := q.res
    cases fr with
    | false => exact q2
    | true =>
      rw [if_pos rfl] at q2 ⊢
      obtain ⟨a, e, o, t, n, z⟩ := q2
      refine ⟨a, e, o, t, ?_, fun i hi => by rw [← r.own i hi]; exact z i hi⟩
      rcases n with n | n
      · exact r.hit a n
      · exact .inr (r.dom a n)
theorem psd_for {tg iter : Expr} {it : I} {g : G} {ws : List Nat} (flH : List Fl) (hi : PID X fl tg iter fl1 it) (hg : PGD X sg.ownp flH tg flT ws g) (hb : PSDs X (sg.inl flH flH) flT bs flE sb) (w0 : wkB fl1 flH = true := by rfl) (w1 : wkB flE flH = true := by rfl)
    (hc : X.calm = true := by rfl) (hs : ∀ x, foldedSetIterable iter X.env x = pure x := by intro _; rfl)
    (hp : PassesOwn (model X.prog X.w) X.A X.env X.xe := by exact PassesOwn.never) : PSD X sg fl (.For tg iter bs [] pos) flH (sFor it g sb) := by
  obtain ⟨wi, hw, hq⟩ := hi.run
  refine ⟨(ps_for hp hc hw hg.run hb.run hs).imp fun D σ H ⟨Γ, ε, O, w, ε', r, em, k⟩ => ?_⟩
  simp only [sFor, Option.bind_eq_some_iff] at em
  obtain ⟨⟨ds, ε1⟩, e1, em⟩ := em
  refine hq _ _ _ ⟨ε, O, ds, ε1, r.rel, e1, fun J H1 O1 r1 s1 wk => ?_⟩
  obtain ⟨O1', ⟨so, _⟩, rh⟩ := (r.step r1 s1 hi.sub).weak' (wk_of w0)
  have kp : ∀ {flY : List Fl} {O2 : Addr → Prop} {σ2 : St} {H2 : Hp} {ε2 : Slots}, SRel X.K sg.ownp ⟨Hit flH σ, O1', H1, σ⟩ flY O2 σ2 H2 ε2 → Kp fl1 σ O1 H1 O2 H2 := fun q =>
    ⟨fun b o e n => q.keep b o e fun z => n ((wk_of w0).hit z), fun b h => (q.new b h).imp (so b) id⟩
  refine ⟨fun i m σ2 H2 => m = ds.length - i ∧ i ≤ ds.length ∧ ∃ ε2 O2, SRel X.K sg.ownp ⟨Hit flH σ, O1', H1, σ⟩ flH O2 σ2 H2 ε2 ∧ forL g sb (ds.drop i) ε2 = some (w, ε'), ?_, ?_⟩
  · refine ⟨_, rfl, Nat.zero_le _, ε1, O1', ⟨rh.rel, rh.rel.dom, fun b o e _ => e, fun b e => e, fun b h => .inl h, fun b h _ => h, fun b h => .inl h, fun i _ => rfl, fun i _ => rfl⟩, em⟩
  · rintro i m σ2 H2 ⟨rfl, hle, ε2, O2, r2, em2⟩
    obtain ⟨hgo, hstop⟩ := wk i H2 O2 (kp r2) r2.rel.dom
    by_cases hlt : i < ds.length
    · obtain ⟨d, hd⟩ : ∃ d, ds[i]? = some d := ⟨_, List.getElem?_eq_getElem hlt⟩
      obtain ⟨go, yl⟩ := hgo d hd
      refine .inr ⟨go, fun σ3 H3 => i + 1 ≤ ds.length ∧ ∃ ε3 O3, SRel X.K sg.ownp ⟨Hit flH σ, O1', H1, σ⟩ flH O3 σ3 H3 ε3 ∧ forL g sb (ds.drop (i + 1)) ε3 = some (w, ε'), fun σ3 H3 h => ⟨ds.length - (i + 1), by omega, rfl, h.1, h.2⟩, fun x H3 hy => ?_⟩
      obtain ⟨sm, rx⟩ := yl x H3 hy
      have hdrop : ds.drop i = d :: ds.drop (i + 1) := by
        rw [List.drop_eq_getElem_cons hlt]
        rw [List.getElem?_eq_getElem hlt] at hd
        cases hd
        rfl
      rw [hdrop] at em2
      simp only [forL, Option.bind_eq_some_iff] at em2
      obtain ⟨ε3, g3, ⟨w4, ε4⟩, b4, em4⟩ := em2
      refine ⟨⟨Hit flH σ, O1', H1, σ⟩, ε2, O2, d, ε3, r2.step (r2.rel.same sm) (Step.same sm) Subf.refl, rx, g3, fun σ4 O4 r4 _ _ => ?_⟩
      refine ⟨⟨Hit flH σ, O1', H1, σ⟩, ε3, O4, w4, ε4, r4, b4, ?_⟩
      cases w4 with
      | nx =>
        intro σ5 H5 O5 r5
        obtain ⟨O6, r6⟩ := r5.weak (wk_of w1)
        exact ⟨hlt, ε4, O6, r6, em4⟩
      | ct => exact fun σ5 H5 O5 r5 => ⟨hlt, ε4, O5, r5, em4⟩
      | bk =>
        cases em4
        exact fun σ5 H5 O5 r5 => k σ5 H5 O5 (rh.comp (O1' := O1') r5 fun _ h => h)
      | rt d =>
        cases em4
        exact fun v H5 O5 r5 => k v H5 O5 (RetOk.comp rh r5)
    · have hi : i = ds.length := by omega
      refine .inl ⟨hstop hi, ?_⟩
      rw [hi, List.drop_length] at em2
      cases em2
      exact k σ2 H2 O2 (rh.comp (O1' := O1') r2 fun _ h => h)
end
end L2.VS

/-! Moves, targets, what is walked, list comprehensions. -/
namespace L2.VS
open PySem PySem.Spec PyProof.Rows

section
variable {KF : PySem.W.Frag} {H H' H1 H2 : Hp} {O O' O1 O2 : Addr → Prop} {fl fl' fl1 fl2 flH flT flE flX : List Fl} {σ σ1 σ2 : St} {ε ε1 ε2 : Slots} {X : Cx} {e a b c tg : Expr} {m m' ma mb : M} {t : T} {sa sb : S} {st : Stmt} {sts as bs : List Stmt} {pos pos' : Pos} {ownp : List Nat} {Γ Γ' : Gm} {sg : Sg}

/-! ### an owned thing is given away -/
theorem wk_sub {i : Nat} (h : fl[i]? = some .ow) : Wk fl (fl.set i .sh) ∧ Subf fl (fl.set i .sh) := by
  refine ⟨⟨by simp, fun j => ?_⟩, fun j => ⟨fun q => ?_, fun q => ?_, fun q => ?_⟩⟩
  · by_cases hj : j = i
    · subst hj
      exact .inr (.inl ⟨h, set_eq (List.getElem?_eq_some_iff.mp h).1⟩)
    · exact .inl (set_ne hj)
  all_goals
    rcases set_at q with ⟨_, z⟩ | ⟨_, z⟩
    · cases z
    · exact z
theorem ped_mv (i : Nat) {x : Str} (hf : fl[i]? = some .ow := by rfl) (hN : X.N[i]? = some x := by rfl) (hv : Vis X.env.scope x := by first | exact Or.inl rfl | exact Or.inr (Or.inl rfl) | exact Or.inr (Or.inr rfl)) (hd : (x == ("__debug__" : Str)) = false := by decide)
    (hcd : (x == ("__classdict__" : Str)) = false := by decide) : PED X fl (.Name x pos) (fl.set i .sh) (eV i) := ⟨isv_V, (wk_sub hf).2, (pv i hN hv hd hcd).imp fun σ H Q ⟨ε, O, d, ε', r, em, k⟩ => by
  unfold eV at em
  cases q : look ε i with
  | none => rw [q] at em; cases em
  | some z =>
    rw [q] at em; cases em
    have r2 := r.weak (wk_sub hf).1
    obtain ⟨a, d', e1, e2, o, t⟩ := r.ow i hf
    obtain ⟨v, e3, w⟩ := r2.sh i d (set_eq (List.getElem?_eq_some_iff.mp hf).1) (look_iff.mp q)
    refine ⟨v, e3, k v H _ r2 ⟨fun _ _ e _ => e, fun _ e => e, fun b h => .inl h.1, fun b h n => ⟨h, fun ⟨j, j1, j2, j3⟩ => n ⟨j, j1, j3⟩⟩⟩ w⟩⟩
/-- return x, x owned -/
theorem psd_retO (i : Nat) {x : Str} (hr : sg.fr = true := by rfl) (hf : fl[i]? = some .ow := by rfl) (hi : i ∉ sg.ownp := by decide) (ho : ∀ i ∈ sg.ownp, fl[i]? = some .ow := by decide) (hN : X.N[i]? = some x := by rfl) (hv : Vis X.env.scope x := by first | exact Or.inl rfl | exact Or.inr (Or.inl rfl) | exact Or.inr (Or.inr rfl)) (hd : (x == ("__debug__" : Str)) = false := by decide)
    (hcd : (x == ("__classdict__" : Str)) = false := by decide) : PSD X sg fl (.Return (some (.Name x pos)) pos') fl' (sRet (eV i)) := ⟨(ps_ret (pv i hN hv hd hcd)).imp fun D σ H ⟨Γ, ε, O, w, ε', r, em, k⟩ => by
  obtain ⟨a, d, e1, e2, o, t⟩ := r.rel.ow i hf
  have e3 : look ε i = some d := look_iff.mpr e1
  simp only [sRet, VS.val, eV, e3, Opd.get, Option.bind_some] at em
  cases em
  refine ⟨.ref a, e2, k (.ref a) H O ?_⟩
  rw [hr]
  refine ⟨r.rel.dom, r.keep, r.dom, r.new, r.old, fun j hj => ?_, ?_⟩
  · obtain ⟨a, d', e1, e2, o, t⟩ := r.rel.ow j (ho j hj)
    exact ⟨a, d', by rw [← r.own j hj]; exact e2, look_iff.mpr e1, o, t⟩
  · rw [if_pos rfl]
    refine ⟨a, rfl, o, t, r.hit a ⟨i, hf, e2⟩, fun j hj z => ?_⟩
    rw [← r.own j hj] at z
    exact r.rel.ap i j a (fun q => hi (q ▸ hj)) hf (ho j hj) e2 z⟩

/-! ### targets -/
theorem only_set {ws : List Nat} {i : Nat} {v : Option V} (h : i ∈ ws) : Only ws σ (σ.set i v) := ⟨by simp, fun j hj => set_ne fun z => hj (by rw [z]; exact h)⟩
theorem Only.trans {ws ws' : List Nat} {σ3 : St} (a : Only ws σ σ1) (b : Only ws' σ1 σ3) : Only (ws ++ ws') σ σ3 := ⟨b.1.trans a.1, fun j hj => by
  rw [List.mem_append] at hj
  exact (b.2 j fun z => hj (.inr z)).trans (a.2 j fun z => hj (.inl z))⟩
theorem pgd_n (i : Nat) {x : Str} (nd : X.N.Nodup) (ho : i ∉ ownp := by decide) (hi : X.N[i]? = some x := by rfl) (hx : Loc X.env.scope x := by first | exact .inl rfl | exact .inr rfl) (hf : X.fn x = true ∨ X.env.scope.names.lookup x = some .local := by first | exact .inl rfl | exact .inr rfl) :
    PGD X ownp fl (.Name x pos) (fl.set i .sh) [i] (gN i) := ⟨(pg_name nd hi hx hf).imp fun v σ H Q ⟨Γ, ε, O, d, ε', r, w, g, k⟩ => by
  cases g
  exact k _ _ (r.setSh w ho) (only_set (by simp)) fun _ => Iff.rfl⟩
/-- targets in a row, for the items of a tuple -/
def gTs : List G → List D → Slots → Option Slots
  | [], [], ε => some ε
  | g :: gs, d :: ds, ε => (g d ε).bind fun ε1 => gTs gs ds ε1
  | _, _, _ => none
def gT (gs : List G) : G := fun d ε => match d with
  | .tup ds => gTs gs ds ε
  | _ => none
def tGs (KF : PySem.W.Frag) (ownp : List Nat) (fl fl' : List Fl) (ws : List Nat) (gs : List G) : TGs := fun vs σ H Q => ∃ Γ ε O ds ε', SRel KF ownp Γ fl O σ H ε ∧ Reps KF H O vs ds ∧ gTs gs ds ε = some ε' ∧
  ∀ σ' O', SRel KF ownp Γ fl' O' σ' H ε' → Only ws σ σ' → (∀ b, O' b ↔ O b) → Q σ' H
structure PGDs (X : Cx) (ownp : List Nat) (fl : List Fl) (ts : List Expr) (fl' : List Fl) (ws : List Nat) (gs : List G) : Prop where
  run : PGs X ts (tGs X.K ownp fl fl' ws gs)
theorem pgds_nil : PGDs X ownp fl [] fl [] [] := ⟨pgs_nil.imp fun vs σ H Q ⟨Γ, ε, O, ds, ε', r, w, g, k⟩ => by
  cases ds with
  | cons d ds => cases g
  | nil =>
    cases g
    cases vs with
    | cons v vs => simp [Reps] at w
    | nil => exact ⟨rfl, k σ O r ⟨rfl, fun _ _ => rfl⟩ fun _ => Iff.rfl⟩⟩
theorem pgds_n (i : Nat) {x : Str} {ts : List Expr} {gs : List G} {ws : List Nat} (nd : X.N.Nodup) (h2 : PGDs X ownp (fl.set i .sh) ts fl' ws gs) (ho : i ∉ ownp := by decide) (hi : X.N[i]? = some x := by rfl) (hx : Loc X.env.scope x := by first | exact .inl rfl | exact .inr rfl) (hf : X.fn x = true ∨ X.env.scope.names.lookup x = some .local := by first | exact .inl rfl | exact .inr rfl)
    (hs : (assignEach (.Name x pos :: ts) X.env).map (·.2) = assign (.Name x pos) X.env :: (assignEach ts X.env).map (·.2) := by rfl) : PGDs X ownp fl (.Name x pos :: ts) fl' (i :: ws) (gN i :: gs) :=
  ⟨(pgs_cons (pg_name nd hi hx hf) h2.run hs).imp fun vs σ H Q ⟨Γ, ε, O, ds, ε', r, w, g, k⟩ => by
    cases ds with
    | nil => cases g
    | cons d ds =>
      cases vs with
      | nil => simp [Reps] at w
      | cons v vs =>
        simp only [Reps] at w
        simp only [gTs, gN, Option.bind_some] at g
        exact ⟨v, vs, rfl, Γ, put ε i d, O, ds, ε', r.setSh w.1 ho, w.2, g, fun σ' O' r' o' q => k σ' O' r' ((only_set (ws := [i]) (by simp)).trans o') q⟩⟩
theorem pgd_t {es : List Expr} {k : Nat} {gs : List G} {n : Nat} {ws : List Nat} (h : PGDs X ownp fl es fl' ws gs) (hl : gs.length = n := by rfl) (hc : X.calm = true := by rfl)
    (hn : (assignEach es X.env).length = n := by rfl) (hst : (assignEach es X.env).findIdx? (·.1) = none := by rfl) : PGD X ownp fl (.Tuple es k pos) fl' ws (gT gs) :=
  ⟨(pg_tup hc h.run hn hst).imp fun v σ H Q ⟨Γ, ε, O, d, ε', r, w, g, k⟩ => by
    cases d with
    | tup ds =>
      simp only [Rep] at w
      obtain ⟨a, vs, e, q, ws⟩ := w
      refine ⟨a, vs, e, q.seq, ?_, Γ, ε, O, ds, ε', r, ws, g, k⟩
      rw [ws.length, ← hl]
      have lem : ∀ (gs : List G) (ds : List D) (ε ε' : Slots), gTs gs ds ε = some ε' → ds.length = gs.length := by
        intro gs
        induction gs with
        | nil => intro ds ε ε' h; cases ds with
          | nil => rfl
          | cons => cases h
        | cons g gs ih => intro ds ε ε' h; cases ds with
          | nil => cases h
          | cons d ds =>
            simp only [gTs, Option.bind_eq_some_iff] at h
            obtain ⟨ε1, _, h⟩ := h
            simp [ih ds ε1 ε' h]
      exact lem gs ds ε ε' g
    | _ => cases g⟩
/-- targets = e -/
def sAsg (g : G) (a : M) : S := fun ε => (val a ε).bind fun p => (g p.1 p.2).bind fun ε' => some (.nx, ε')
theorem psd_asg {g : G} {ws : List Nat} (h : PED X fl e fl1 m) (hg : PGD X sg.ownp fl1 tg fl2 ws g) (hs : swapsWithSole [tg] e pos.line X.env = pure false := by rfl) (hw : swappedStores [tg] e X.env = pure none := by rfl)
    (h1 : (assignEach [tg] X.env).map (·.2) = [assign tg X.env] := by rfl) : PSD X sg fl (.Assign [tg] e pos) fl2 (sAsg g m) := ⟨(ps_asg h.run hg.run hs hw h1).imp fun D σ H ⟨Γ, ε, O, w, ε', r, em, k⟩ => by
  simp only [sAsg, Option.bind_eq_some_iff] at em
  obtain ⟨⟨d, ε1⟩, e1, ε2, g2, em⟩ := em
  cases em
  exact ⟨ε, O, d, ε1, r.rel, h.isv.val e1, fun v H' O' r' s w => ⟨Γ, ε1, O', d, _, r.step r' s h.sub, w, g2, fun σ' O' r' _ _ => k σ' _ O' r'⟩⟩⟩
/-- a, b = e1, e2 -/
def sPar (i j : Nat) (a b : M) : S := fun ε => (val a ε).bind fun p => (val b p.2).bind fun q => some (.nx, put (put q.2 i p.1) j q.1)
theorem psd_par (i j : Nat) {x y : Str} {px py pt : Pos} {kt k2 : Nat} {pt2 : Pos} (nd : X.N.Nodup) (ha : PED X fl a fl1 ma) (hb : PED X fl1 b fl2 mb) (hoi : i ∉ sg.ownp := by decide) (hoj : j ∉ sg.ownp := by decide) (hi : X.N[i]? = some x := by rfl) (hj : X.N[j]? = some y := by rfl) (hij : i ≠ j := by decide)
    (hx : X.env.scope.names.lookup x = some .local := by rfl) (hy : X.env.scope.names.lookup y = some .local := by rfl) (hc : X.calm = true := by rfl)
    (hse : starEach [a, b] X.env = (false, eval a X.env) :: starEach [b] X.env := by rfl) (hse2 : starEach [b] X.env = (false, eval b X.env) :: starEach [] X.env := by rfl)
    (hw : swappedStores [.Tuple [.Name x px, .Name y py] kt pt] (.Tuple [a, b] k2 pt2) X.env = pure (some [x, y]) := by rfl) (hs : swapsWithSole [.Tuple [.Name x px, .Name y py] kt pt] (.Tuple [a, b] k2 pt2) pos.line X.env = pure false := by rfl) :
    PSD X sg fl (.Assign [.Tuple [.Name x px, .Name y py] kt pt] (.Tuple [a, b] k2 pt2) pos) ((fl2.set i .sh).set j .sh) (sPar i j ma mb) := ⟨(ps_par hc nd hi hj hij hx hy (pa_cons ha.run (pa_cons hb.run pa_nil hse2) hse) hw hs).imp fun D σ H ⟨Γ, ε, O, w, ε', r, em, k⟩ => by
  simp only [sPar, Option.bind_eq_some_iff] at em
  obtain ⟨⟨d, ε1⟩, e1, ⟨d2, ε2⟩, e2, em⟩ := em
  cases em
  refine ⟨ε, O, d, ε1, r.rel, ha.isv.val e1, fun v H1 O1 r1 s1 w1 => ⟨ε1, O1, d2, ε2, r1, hb.isv.val e2, fun u H2 O2 r2 s2 w2 => ⟨v, u, rfl, ?_⟩⟩⟩
  exact k _ _ _ ((((r.step r1 s1 ha.sub).step r2 s2 hb.sub).setSh (w1.stay (s2.stay r1)) hoi).setSh w2 hoj)⟩

/-! ### what is walked -/
theorem Kp.stay (r : Rel KF fl O σ H ε) (k : Kp fl σ O H O' H') : Stay H O H' O' := ⟨fun b o e n => k.keep b o e fun z => n (r.hitO z), k.new⟩
theorem walks_list {a : Addr} {vs : List V} {ds : List D} (r : Rel KF fl O σ H ε) (q : SqLO KF H O a vs) (w : Reps KF H O vs ds) : Walks KF fl σ (Itl KF a) ds H O := fun i H2 O2 kp dm => by
  have st := kp.stay r
  have q2 : SqL KF H2 a vs := by
    rcases q with ⟨n, q⟩ | q
    · exact .inl (st.rd n q).2
    · exact .inr q
  refine ⟨fun d hd => ?_, fun hi => ⟨vs, q2, by rw [w.length]; exact Nat.le_of_eq hi.symm⟩⟩
  obtain ⟨v, hv, rv⟩ := w.get hd
  refine ⟨⟨vs, v, q2, hv⟩, fun x H3 hy => ?_⟩
  obtain ⟨e, hx⟩ := hy
  subst e
  have := hx vs q2
  rw [hv] at this
  cases this
  exact ⟨Same.refl _, rv.stay st⟩
theorem walks_tup {a : Addr} {vs : List V} {ds : List D} (r : Rel KF fl O σ H ε) (q : SqTO KF H O a vs) (w : Reps KF H O vs ds) : Walks KF fl σ (Itt KF a) ds H O := fun i H2 O2 kp dm => by
  have st := kp.stay r
  have q2 : SqT KF H2 a vs := .inl (.inl (st.keep _ _ q.2 q.1))
  refine ⟨fun d hd => ?_, fun hi => ⟨vs, q2, by rw [w.length]; exact Nat.le_of_eq hi.symm⟩⟩
  obtain ⟨v, hv, rv⟩ := w.get hd
  refine ⟨⟨vs, v, q2, hv⟩, fun x H3 hy => ?_⟩
  obtain ⟨e, hx⟩ := hy
  subst e
  have := hx vs q2
  rw [hv] at this
  cases this
  exact ⟨Same.refl _, rv.stay st⟩
/-- what a value is walked as -/
def dIter : D → Option (List D)
  | .lst ds => some ds
  | .fz ds => some ds
  | .tup ds => some ds
  | .str x => some (x.map fun c => .str [c])
  | _ => none
def iAnyT (K : PySem.W.Frag) (tl : TE) : TI := fun σ H R => tl σ H fun x H1 => (∃ a, x = .ref a ∧ (∃ xs, SqL K H1 a xs) ∧ R (Itl K a) H1) ∨ (∃ a, x = .ref a ∧ (∃ xs, SqT K H1 a xs) ∧ R (Itt K a) H1) ∨ ∃ z, x = .str z ∧ R (Its z) H1
theorem pi_any {l : Expr} {tl : TE} (hl : PE X l tl) : PI X tg l (iAnyT X.K tl) := by
  refine ⟨fun pins s σ H R I h => ?_⟩
  refine thn (hl.run pins s σ H _ I h) fun v s1 ⟨x, H1, I1, r1, q1⟩ => ?_
  rcases q1 with ⟨a, e, ⟨xs, hq⟩, q⟩ | ⟨a, e, ⟨xs, hq⟩, q⟩ | ⟨z, e, q⟩
  · subst e
    cases r1
    obtain ⟨its, rv, p, hz⟩ := I1.list hq
    exact wpAny_pyIter_list p.isList (pi_one (tk := s1.toks) I1 _ (turn_list a _) ⟨_, Heap.get?_push_size _ rfl, rfl, rfl⟩ q)
  · subst e
    cases r1
    obtain ⟨its, rv, p, hz⟩ := I1.tuple hq
    exact wpAny_pyIter_tuple (show s1.heap.IsTuple a its.toArray from p) (pi_one (tk := s1.toks) I1 _ (turn_tuple a _) ⟨_, Heap.get?_push_size _ rfl, rfl, rfl⟩ q)
  · subst e
    obtain ⟨t, rfl⟩ := r1
    cases ha : z.cps.all (· < 128)
    · exact wpAny_pyIter_wide ha (pi_one (tk := s1.toks) I1 _ (turn_str _ z t "str_iterator" (.inr rfl)) ⟨_, Heap.get?_push_size _ rfl, rfl, rfl⟩ q)
    · exact wpAny_pyIter_ascii ha (pi_one (tk := s1.toks) I1 _ (turn_str _ z t "str_ascii_iterator" (.inl rfl)) ⟨_, Heap.get?_push_size _ rfl, rfl, rfl⟩ q)
theorem walks_str {x : List Nat} (ok : strOkL x = true) : Walks KF fl σ (Its ⟨x.toArray⟩) (x.map fun c => D.str [c]) H O := fun i H2 O2 kp dm => by
  refine ⟨fun d hd => ?_, fun hi => ?_⟩
  · rw [List.getElem?_map] at hd
    cases hc : x[i]? with
    | none => rw [hc] at hd; cases hd
    | some c =>
      rw [hc] at hd
      cases hd
      have hlt := (List.getElem?_eq_some_iff.mp hc).1
      refine ⟨show i < x.toArray.size by simpa using hlt, fun v H3 hy => ?_⟩
      obtain ⟨e, c', hc', hv⟩ := hy
      subst e
      have e3 : c' = c := by
        have q : x[i]? = some c' := by simpa using hc'
        rw [hc] at q
        exact (Option.some.inj q).symm
      subst e3
      refine ⟨Same.refl _, ?_⟩
      simp only [Rep]
      refine ⟨hv, ?_⟩
      have := (List.all_eq_true.mp ok) c' (List.mem_of_getElem? hc)
      simpa [strOkL] using this
  · have : i = x.length := by simpa using hi
    show (x.toArray).size ≤ i
    simp [this]
/-- for x in e -/
def iA (a : M) : I := fun ε => (val a ε).bind fun p => (dIter p.1).bind fun ds => some (ds, p.2)
theorem pid_a (h : PED X fl e fl1 m) : PID X fl tg e fl1 (iA m) := ⟨h.sub, _, pi_any h.run, fun σ H R ⟨ε, O, ds, ε', r, em, k⟩ => by
  simp only [iA, Option.bind_eq_some_iff] at em
  obtain ⟨⟨d, ε1⟩, e1, ds', e2, em⟩ := em
  cases em
  refine ⟨ε, O, d, _, r, h.isv.val e1, fun v H1 O1 r1 s1 w => ?_⟩
  cases d with
  | lst ds2 =>
    cases e2
    simp only [Rep] at w
    obtain ⟨a, vs, e, n, q, ws⟩ := w
    exact .inl ⟨a, e, ⟨vs, .of q⟩, k _ H1 O1 r1 s1 (walks_list r1 (.inl ⟨n, .inl q⟩) ws)⟩
  | fz ds2 =>
    cases e2
    simp only [Rep] at w
    obtain ⟨a, vs, e, q, ws⟩ := w
    exact .inl ⟨a, e, ⟨vs, q.seq⟩, k _ H1 O1 r1 s1 (walks_list r1 q ws)⟩
  | tup ds2 =>
    cases e2
    simp only [Rep] at w
    obtain ⟨a, vs, e, q, ws⟩ := w
    exact .inr (.inl ⟨a, e, ⟨vs, q.seq⟩, k _ H1 O1 r1 s1 (walks_tup r1 q ws)⟩)
  | str x =>
    cases e2
    simp only [Rep] at w
    exact .inr (.inr ⟨_, w.1, k _ H1 O1 r1 s1 (walks_str w.2)⟩)
  | _ => cases e2⟩

def NoStar (e : Expr) : Prop := ∀ es env, starEach (e :: es) env = (false, eval e env) :: starEach es env
def rangeL (lo c : Int) (n : Nat) : List D := (List.range n).map fun i => .int (lo + (i : Nat) * c)
def inB (i : Int) : Bool := decide (-4611686018427387904 ≤ i) && decide (i < 4611686018427387904)
theorem rangeL_get {lo c : Int} {n i : Nat} {d : D} (h : (rangeL lo c n)[i]? = some d) : i < n ∧ d = .int (lo + (i : Nat) * c) := by
  unfold rangeL at h
  rw [List.getElem?_map] at h
  by_cases hi : i < n
  · rw [List.getElem?_range hi] at h
    exact ⟨hi, (Option.some.inj h).symm⟩
  · rw [List.getElem?_eq_none (by simpa using Nat.le_of_not_lt hi)] at h
    cases h
theorem rangeL_len {lo c : Int} {n : Nat} : (rangeL lo c n).length = n := by simp [rangeL]
theorem walks_range {lo : Int} {n : Nat} : Walks KF fl σ (Itr lo n) (rangeL lo 1 n) H O := fun i H2 O2 kp dm => by
  refine ⟨fun d hd => ?_, fun hi => ?_⟩
  · obtain ⟨h1, h2⟩ := rangeL_get hd
    refine ⟨h1, fun x H3 hy => ?_⟩
    obtain ⟨e, hx⟩ := hy
    subst e hx h2
    refine ⟨Same.refl _, ?_⟩
    simp only [Rep]
    rw [Int.mul_one]
  · rw [rangeL_len] at hi
    exact Nat.le_of_eq hi.symm
theorem walks_rangeC {lo c : Int} {n : Nat} : Walks KF fl σ (Itc lo c n) (rangeL lo c n) H O := fun i H2 O2 kp dm => by
  refine ⟨fun d hd => ?_, fun hi => ?_⟩
  · obtain ⟨h1, h2⟩ := rangeL_get hd
    refine ⟨h1, fun x H3 hy => ?_⟩
    obtain ⟨e, hx⟩ := hy
    subst e hx h2
    refine ⟨Same.refl _, ?_⟩
    simp only [Rep]
  · rw [rangeL_len] at hi
    exact Nat.le_of_eq hi.symm
def iR1 (a : M) : I := fun ε => (val a ε).bind fun p => match p.1 with
  | .int j => if inB j = true then some (rangeL 0 1 j.toNat, p.2) else none
  | _ => none
theorem inB_of {i : Int} (h : inB i = true) : -(2 ^ 62) ≤ i ∧ i < 2 ^ 62 := by
  simp only [inB, Bool.and_eq_true, decide_eq_true_eq] at h
  exact ⟨by omega, by omega⟩
theorem pid_r1 {p : Pos} (h : PED X fl e fl1 m) (hm : X.mg "range" = none) (hg : Gl X "range" := by rfl) (na : NoStar e := by intro _ _; rfl) : PID X fl tg (.Call (.Name "range" p) [e] [] pos) fl1 (iR1 m) :=
  ⟨h.sub, _, pi_range1 hg hm (pa_cons h.run pa_nil (na _ _)) (na _ _), fun σ H R ⟨ε, O, ds, ε', r, em, k⟩ => by
    simp only [iR1, Option.bind_eq_some_iff] at em
    obtain ⟨⟨d, ε1⟩, e1, em⟩ := em
    refine ⟨ε, O, d, ε1, r, h.isv.val e1, fun v H1 O1 r1 s1 w => ?_⟩
    cases d with
    | int j =>
      simp only at em
      split at em
      · rename_i hb
        cases em
        simp only [Rep] at w
        subst w
        exact ⟨j, rfl, (inB_of hb).1, (inB_of hb).2, k _ H1 O1 r1 s1 walks_range⟩
      · cases em
    | _ => cases em⟩
def iR2 (a b : M) : I := fun ε => (val a ε).bind fun p => (val b p.2).bind fun q => match p.1, q.1 with
  | .int i, .int j => if (inB i && inB j) = true then some (rangeL i 1 (j - i).toNat, q.2) else none
  | _, _ => none
theorem pid_r2 {p : Pos} (h : PED X fl a fl1 ma) (h2 : PED X fl1 b fl2 mb) (hm : X.mg "range" = none) (hg : Gl X "range" := by rfl) (na : NoStar a := by intro _ _; rfl) (nb : NoStar b := by intro _ _; rfl) :
    PID X fl tg (.Call (.Name "range" p) [a, b] [] pos) fl2 (iR2 ma mb) :=
  ⟨h.sub.trans h2.sub, _, pi_range2 hg hm (pa_cons h.run (pa_cons h2.run pa_nil (nb _ _)) (na _ _)) (by rw [na, nb]; rfl) (nb _ _), fun σ H R ⟨ε, O, ds, ε', r, em, k⟩ => by
    simp only [iR2, Option.bind_eq_some_iff] at em
    obtain ⟨⟨d, ε1⟩, e1, ⟨d2, ε2⟩, e2, em⟩ := em
    refine ⟨ε, O, d, ε1, r, h.isv.val e1, fun v H1 O1 r1 s1 w => ⟨ε1, O1, d2, ε2, r1, h2.isv.val e2, fun u H2 O2 r2 s2 w2 => ?_⟩⟩
    cases d with
    | int i =>
      cases d2 with
      | int j =>
        simp only at em
        split at em
        · rename_i hb
          rw [Bool.and_eq_true] at hb
          cases em
          simp only [Rep] at w w2
          subst w w2
          exact ⟨i, j, rfl, ⟨(inB_of hb.1).1, (inB_of hb.1).2, (inB_of hb.2).1, (inB_of hb.2).2⟩, k _ H2 O2 r2 (s1.trans s2 h.sub) walks_range⟩
        · cases em
      | _ => cases em
    | _ => cases em⟩
def rangeSz (i j c : Int) : Int := Builtin.Range.rangeSize i j c
def rangeOk (i j c : Int) : Bool := decide (c ≠ 0) && decide (c.natAbs < 1073741824) && Builtin.Range.small i j c && decide (0 ≤ rangeSz i j c)
def iR3 (a b c : M) : I := fun ε => (val a ε).bind fun p => (val b p.2).bind fun q => (val c q.2).bind fun r => match p.1, q.1, r.1 with
  | .int i, .int j, .int c => if rangeOk i j c = true then some (rangeL i c (rangeSz i j c).toNat, r.2) else none
  | _, _, _ => none
theorem pid_r3 {p : Pos} {fl3 : List Fl} {mc : M} (h : PED X fl a fl1 ma) (h2 : PED X fl1 b fl2 mb) (h3 : PED X fl2 c fl3 mc) (hm : X.mg "range" = none) (hg : Gl X "range" := by rfl) (na : NoStar a := by intro _ _; rfl) (nb : NoStar b := by intro _ _; rfl) (nc : NoStar c := by intro _ _; rfl) :
    PID X fl tg (.Call (.Name "range" p) [a, b, c] [] pos) fl3 (iR3 ma mb mc) :=
  ⟨(h.sub.trans h2.sub).trans h3.sub, _, pi_range3 hg hm (pa_cons h.run (pa_cons h2.run (pa_cons h3.run pa_nil (nc _ _)) (nb _ _)) (na _ _)) (na _ _) (by rw [nb, nc]; rfl), fun σ H R ⟨ε, O, ds, ε', r, em, k⟩ => by
    simp only [iR3, Option.bind_eq_some_iff] at em
    obtain ⟨⟨d, ε1⟩, e1, ⟨d2, ε2⟩, e2, ⟨d3, ε3⟩, e3, em⟩ := em
    refine ⟨ε, O, d, ε1, r, h.isv.val e1, fun v H1 O1 r1 s1 w => ⟨ε1, O1, d2, ε2, r1, h2.isv.val e2, fun u H2 O2 r2 s2 w2 => ⟨ε2, O2, d3, ε3, r2, h3.isv.val e3, fun u3 H3 O3 r3 s3 w3 => ?_⟩⟩⟩
    cases d with
    | int i =>
      cases d2 with
      | int j =>
        cases d3 with
        | int c =>
          simp only at em
          split at em
          · rename_i hb
            simp only [rangeOk, Bool.and_eq_true, decide_eq_true_eq] at hb
            cases em
            simp only [Rep] at w w2 w3
            subst w w2 w3
            exact ⟨i, j, c, (rangeSz i j c).toNat, rfl, ⟨hb.1.1.1, hb.1.1.2, hb.1.2, by have := hb.2; unfold rangeSz at *; omega⟩, k _ H3 O3 r3 ((s1.trans s2 h.sub).trans s3 (h.sub.trans h2.sub)) walks_rangeC⟩
          · cases em
        | _ => cases em
      | _ => cases em
    | _ => cases em⟩
/-- for i, x in enumerate(xs) -/
def enumL : Nat → List D → List D
  | _, [] => []
  | i, d :: ds => .tup [.int (i : Nat), d] :: enumL (i + 1) ds
theorem enumL_get : ∀ {ds : List D} {n i : Nat} {d : D}, (enumL n ds)[i]? = some d → ∃ x, ds[i]? = some x ∧ d = .tup [.int ((n + i : Nat) : Int), x]
  | [], _, _, _, h => by simp [enumL] at h
  | x :: ds, n, 0, d, h => by
    simp [enumL] at h
    exact ⟨x, rfl, by rw [← h]; rfl⟩
  | x :: ds, n, i + 1, d, h => by
    simp only [enumL, List.getElem?_cons_succ] at h
    obtain ⟨y, h1, h2⟩ := enumL_get h
    exact ⟨y, by simpa using h1, by rw [h2, Nat.add_right_comm]; rfl⟩
theorem enumL_len : ∀ {ds : List D} {n : Nat}, (enumL n ds).length = ds.length
  | [], _ => rfl
  | x :: ds, n => by simp [enumL, enumL_len]
theorem rep_tup2 {x y : V} {d e : D} {p : Addr} (hp : H p = none) (dm : Dom H O) (hx : Rep KF H O x d) (hy : Rep KF H O y e) : Same H (upd H p (.tup [x, y])) ∧ Rep KF (upd H p (.tup [x, y])) O (.ref p) (.tup [d, e]) := by
  have sm := same_upd (o := .tup [x, y]) hp
  refine ⟨sm, ?_⟩
  simp only [Rep]
  refine ⟨p, [x, y], rfl, ⟨fun z => dm p z hp, upd_same⟩, ?_⟩
  simp only [Reps]
  exact ⟨hx.stay (Stay.same sm), hy.stay (Stay.same sm), trivial⟩
def iEn (a : M) : I := fun ε => (val a ε).bind fun p => match p.1 with
  | .lst ds => some (enumL 0 ds, p.2)
  | .fz ds => some (enumL 0 ds, p.2)
  | _ => none
theorem walks_enum {a : Addr} {vs : List V} {ds : List D} (r : Rel KF fl O σ H ε) (q : SqLO KF H O a vs) (w : Reps KF H O vs ds) : Walks KF fl σ (Ite KF a) (enumL 0 ds) H O := fun i H2 O2 kp dm => by
  have st := kp.stay r
  have q2 : SqL KF H2 a vs := by
    rcases q with ⟨n, q⟩ | q
    · exact .inl (st.rd n q).2
    · exact .inr q
  refine ⟨fun d hd => ?_, fun hi => ⟨vs, q2, by rw [w.length]; rw [enumL_len] at hi; exact Nat.le_of_eq hi.symm⟩⟩
  obtain ⟨y, hy, rfl⟩ := enumL_get hd
  obtain ⟨v, hv, rv⟩ := w.get hy
  refine ⟨⟨vs, v, q2, hv⟩, fun x H3 hy => ?_⟩
  obtain ⟨T, x, e1, hT, e2, hx⟩ := hy
  subst e1 e2
  have := hx vs q2
  rw [hv] at this
  cases this
  have z := rep_tup2 (KF := KF) (x := .int (i : Nat)) (d := .int ((0 + i : Nat) : Int)) hT dm (by simp [Rep]) (rv.stay st)
  exact z
theorem pid_en {elts : List Expr} {kk : Nat} {tpos p : Pos} (h : PED X fl e fl1 m) (hm : X.mg "enumerate" = none) (hg : Gl X "enumerate" := by rfl) (na : NoStar e := by intro _ _; rfl) : PID X fl (.Tuple elts kk tpos) (.Call (.Name "enumerate" p) [e] [] pos) fl1 (iEn m) :=
  ⟨h.sub, _, pi_enum hg hm (pa_cons h.run pa_nil (na _ _)) (na _ _), fun σ H R ⟨ε, O, ds, ε', r, em, k⟩ => by
    simp only [iEn, Option.bind_eq_some_iff] at em
    obtain ⟨⟨d, ε1⟩, e1, em⟩ := em
    refine ⟨ε, O, d, ε1, r, h.isv.val e1, fun v H1 O1 r1 s1 w => ?_⟩
    cases d with
    | lst ds2 =>
      cases em
      simp only [Rep] at w
      obtain ⟨a, vs, e, n, q, ws⟩ := w
      exact ⟨a, vs, by rw [e], .of q, k _ H1 O1 r1 s1 (walks_enum r1 (.inl ⟨n, .inl q⟩) ws)⟩
    | fz ds2 =>
      cases em
      simp only [Rep] at w
      obtain ⟨a, vs, e, q, ws⟩ := w
      exact ⟨a, vs, by rw [e], q.seq, k _ H1 O1 r1 s1 (walks_enum r1 q ws)⟩
    | _ => cases em⟩

/-! ### list comprehensions -/
def wipeE (ε : Slots) : List Nat → Slots
  | [] => ε
  | v :: vs => (wipeE ε vs).set v none
/-- the slots' values as they were, at vs -/
def backE (ε0 ε : Slots) : List Nat → Slots
  | [] => ε
  | v :: vs => (backE ε0 ε vs).set v ((ε0[v]?).getD none)
def compL (g : G) (t : T) (elt : M) (vs : List Nat) : List D → List D → Slots → Option (List D × Slots)
  | [], acc, ε => some (acc, ε)
  | d :: ds, acc, ε => (g d ε).bind fun ε1 => (t ε1).bind fun p => if p.1 = true then (val elt p.2).bind fun q => compL g t elt vs ds (acc ++ [q.1]) (wipeE q.2 vs) else compL g t elt vs ds acc (wipeE p.2 vs)
/-- [elt for g in it if t] -/
def eComp (it : I) (g : G) (t : T) (elt : M) (vs : List Nat) : M := fun ε => (it ε).bind fun p => (compL g t elt vs p.1 [] (wipeE p.2 vs)).bind fun q => if q.1.length ≤ 16777216 then some (.val (.lst q.1), backE p.2 q.2 vs) else none
def tYesD : T := fun ε => some (true, ε)
theorem wipeE_len : ∀ {vs : List Nat}, (wipeE ε vs).length = ε.length
  | [] => rfl
  | v :: vs => by simp [wipeE, wipeE_len]
theorem wipeE_out {j : Nat} : ∀ {vs : List Nat}, j ∉ vs → (wipeE ε vs)[j]? = ε[j]?
  | [], _ => rfl
  | v :: vs, h => by
    simp only [List.mem_cons, not_or] at h
    simp only [wipeE]
    rw [set_ne h.1]
    exact wipeE_out h.2
theorem wipeE_in {j : Nat} {d : D} : ∀ {vs : List Nat}, j ∈ vs → (wipeE ε vs)[j]? ≠ some (some d)
  | v :: vs, h => by
    simp only [wipeE]
    by_cases hj : j = v
    · intro z
      rcases set_at z with ⟨_, e⟩ | ⟨n, _⟩
      · cases e
      · exact n hj
    · rw [set_ne hj]
      exact wipeE_in (List.mem_of_ne_of_mem hj h)
theorem backE_len {ε0 : Slots} : ∀ {vs : List Nat}, (backE ε0 ε vs).length = ε.length
  | [] => rfl
  | v :: vs => by simp [backE, backE_len]
theorem backE_out {ε0 : Slots} {j : Nat} : ∀ {vs : List Nat}, j ∉ vs → (backE ε0 ε vs)[j]? = ε[j]?
  | [], _ => rfl
  | v :: vs, h => by
    simp only [List.mem_cons, not_or] at h
    simp only [backE]
    rw [set_ne h.1]
    exact backE_out h.2
theorem backE_in {ε0 : Slots} {j : Nat} {d : D} : ∀ {vs : List Nat}, j ∈ vs → (backE ε0 ε vs)[j]? = some (some d) → ε0[j]? = some (some d)
  | v :: vs, h, e => by
    simp only [backE] at e
    by_cases hj : j = v
    · rcases set_at e with ⟨_, z⟩ | ⟨n, _⟩
      · rw [hj]
        cases q : ε0[v]? with
        | none => rw [q] at z; cases z
        | some x => rw [q] at z; exact congrArg some z.symm
      · exact absurd hj n
    · rw [set_ne hj] at e
      exact backE_in (List.mem_of_ne_of_mem hj h) e
theorem wipe_out {j : Nat} : ∀ {vs : List Nat}, j ∉ vs → (wipe σ vs)[j]? = σ[j]?
  | [], _ => rfl
  | v :: vs, h => by
    simp only [List.mem_cons, not_or] at h
    simp only [wipe]
    rw [set_ne h.1]
    exact wipe_out h.2
theorem wipe_in {j : Nat} {x : Option V} : ∀ {vs : List Nat}, j ∈ vs → (wipe σ vs)[j]? = some x → x = none
  | v :: vs, h, z => by
    simp only [wipe] at z
    by_cases hj : j = v
    · rcases set_at z with ⟨_, e⟩ | ⟨n, _⟩
      · exact e
      · exact absurd hj n
    · rw [set_ne hj] at z
      exact wipe_in (List.mem_of_ne_of_mem hj h) z
theorem wipe_only {vs : List Nat} (h : Only vs (wipe σ vs) σ1) : wipe σ1 vs = wipe σ vs := by
  have hl : σ1.length = σ.length := by rw [h.1, wipe_length]
  apply List.ext_getElem?
  intro j
  by_cases hj : j ∈ vs
  · by_cases hlt : j < σ.length
    · obtain ⟨x, hx⟩ : ∃ x, (wipe σ1 vs)[j]? = some x := ⟨_, List.getElem?_eq_getElem (by rw [wipe_length, hl]; exact hlt)⟩
      obtain ⟨y, hy⟩ : ∃ y, (wipe σ vs)[j]? = some y := ⟨_, List.getElem?_eq_getElem (by rw [wipe_length]; exact hlt)⟩
      rw [hx, hy, wipe_in hj hx, wipe_in hj hy]
    · rw [List.getElem?_eq_none (by rw [wipe_length, hl]; omega), List.getElem?_eq_none (by rw [wipe_length]; omega)]
  · rw [wipe_out hj, h.2 j hj]
/-- into a block -/
theorem Rel.wipe {vs : List Nat} (r : Rel KF fl O σ H ε) (hv : ∀ j ∈ vs, fl[j]? = some .sh) : Rel KF fl O (L2.wipe σ vs) H (wipeE ε vs) := by
  have nv : ∀ {j f}, fl[j]? = some f → f ≠ .sh → j ∉ vs := fun {j f} h n hj => by
    have := hv j hj
    rw [h] at this
    cases this
    exact n rfl
  have hh : ∀ {b}, Hit fl (L2.wipe σ vs) b → Hit fl σ b := fun {b} ⟨j, h1, h2⟩ => ⟨j, h1, by rw [wipe_out (nv h1 (by decide))] at h2; exact h2⟩
  refine ⟨by rw [wipeE_len, wipe_length, r.len], by rw [wipe_length, r.flen], r.dom, fun i d h1 h2 => ?_, fun i h => ?_, fun i h => ?_, fun i d h1 h2 => ?_, fun i j a n h1 h2 h3 h4 => ?_⟩
  · by_cases hi : i ∈ vs
    · exact absurd h2 (wipeE_in hi)
    · rw [wipeE_out hi] at h2
      rw [wipe_out hi]
      exact r.sh i d h1 h2
  · rw [wipeE_out (nv h (by decide)), wipe_out (nv h (by decide))]
    exact r.ow i h
  · rw [wipeE_out (nv h (by decide)), wipe_out (nv h (by decide))]
    obtain ⟨a, d, e1, e2, o, t, n⟩ := r.le i h
    exact ⟨a, d, e1, e2, o, t, fun z => n (hh z)⟩
  · rw [wipeE_out (nv h1 (by decide))] at h2
    rw [wipe_out (nv h1 (by decide))]
    obtain ⟨v, e1, q⟩ := r.ro i d h1 h2
    exact ⟨v, e1, q.imp id fun ⟨a, x, o, t, n⟩ => ⟨a, x, o, t, fun z => n (hh z)⟩⟩
  · rw [wipe_out (nv h1 (by decide))] at h3
    rw [wipe_out (nv h2 (by decide))] at h4
    exact r.ap i j a n h1 h2 h3 h4
/-- out of a block -/
theorem Rel.back {vs : List Nat} (r : Rel KF fl O σ H ε) (s : Stay H O H' O') (q : Rel KF fl O' (L2.wipe σ vs) H' ε1) (hv : ∀ j ∈ vs, fl[j]? = some .sh) : Rel KF fl O' σ H' (backE ε ε1 vs) := by
  have nv : ∀ {j f}, fl[j]? = some f → f ≠ .sh → j ∉ vs := fun {j f} h n hj => by
    have := hv j hj
    rw [h] at this
    cases this
    exact n rfl
  have hh : ∀ {b}, Hit fl σ b → Hit fl (L2.wipe σ vs) b := fun {b} ⟨j, h1, h2⟩ => ⟨j, h1, by rw [wipe_out (nv h1 (by decide))]; exact h2⟩
  refine ⟨by rw [backE_len, q.len, wipe_length], r.flen, q.dom, fun i d h1 h2 => ?_, fun i h => ?_, fun i h => ?_, fun i d h1 h2 => ?_, fun i j a n h1 h2 h3 h4 => ?_⟩
  · by_cases hi : i ∈ vs
    · obtain ⟨v, e, w⟩ := r.sh i d h1 (backE_in hi h2)
      exact ⟨v, e, w.stay s⟩
    · rw [backE_out hi] at h2
      obtain ⟨v, e, w⟩ := q.sh i d h1 h2
      rw [wipe_out hi] at e
      exact ⟨v, e, w⟩
  · rw [backE_out (nv h (by decide))]
    obtain ⟨a, d, e1, e2, o, t⟩ := q.ow i h
    rw [wipe_out (nv h (by decide))] at e2
    exact ⟨a, d, e1, e2, o, t⟩
  · rw [backE_out (nv h (by decide))]
    obtain ⟨a, d, e1, e2, o, t, n⟩ := q.le i h
    rw [wipe_out (nv h (by decide))] at e2
    exact ⟨a, d, e1, e2, o, t, fun z => n (hh z)⟩
  · rw [backE_out (nv h1 (by decide))] at h2
    obtain ⟨v, e1, w⟩ := q.ro i d h1 h2
    rw [wipe_out (nv h1 (by decide))] at e1
    exact ⟨v, e1, w.imp id fun ⟨a, x, o, t, n⟩ => ⟨a, x, o, t, fun z => n (hh z)⟩⟩
  · refine q.ap i j a n h1 h2 ?_ ?_
    · rw [wipe_out (nv h1 (by decide))]; exact h3
    · rw [wipe_out (nv h2 (by decide))]; exact h4
structure PTsD (X : Cx) (fl : List Fl) (ifs : List Expr) (fl' : List Fl) (m : T) : Prop where
  sub : Subf fl fl'
  run : PTs X ifs (tT X.K fl fl' m)
theorem _root_.L2.PTs.imp {X : Cx} {e : List Expr} {t t' : TT} (h : PTs X e t) (i : ∀ σ H Q, t' σ H Q → t σ H Q) : PTs X e t' := ⟨fun pins s σ H Q I q => h.run pins s σ H Q I (i σ H Q q)⟩
theorem ptsd_nil : PTsD X fl [] fl tYesD := ⟨Subf.refl, pts_nil.imp fun σ H Q ⟨ε, O, b, ε', r, em, k⟩ => by
  cases em
  exact k H O r Step.refl⟩
theorem ptsd_one (h : PTD X fl c fl1 t) : PTsD X fl [c] fl1 t := ⟨h.sub, pts_one h.run⟩
theorem compL_len {g : G} {elt : M} {vs : List Nat} : ∀ {ds acc accF : List D} {ε εF : Slots}, compL g t elt vs ds acc ε = some (accF, εF) → acc.length ≤ accF.length
  | [], acc, accF, ε, εF, h => by cases h; exact Nat.le_refl _
  | d :: ds, acc, accF, ε, εF, h => by
    simp only [compL, Option.bind_eq_some_iff] at h
    obtain ⟨ε1, _, ⟨b, ε2⟩, _, h⟩ := h
    split at h
    · simp only [Option.bind_eq_some_iff] at h
      obtain ⟨⟨x, ε3⟩, _, h⟩ := h
      have := compL_len h
      simp at this
      omega
    · exact compL_len h
theorem isv_comp {it : I} {g : G} {elt : M} {vs : List Nat} : IsV (eComp it g t elt vs) := fun ε o ε' h => by
  simp only [eComp, Option.bind_eq_some_iff] at h
  obtain ⟨_, _, _, _, h⟩ := h
  split at h
  · cases h; exact ⟨_, rfl⟩
  · cases h
theorem wipe_hit {vs : List Nat} {b : Addr} (hv : ∀ j ∈ vs, fl[j]? = some .sh) : Hit fl (wipe σ vs) b ↔ Hit fl σ b := by
  have nv : ∀ {j}, fl[j]? = some .ow → j ∉ vs := fun {j} h hj => by
    have := hv j hj
    rw [h] at this
    cases this
  constructor
  · rintro ⟨j, h1, h2⟩
    rw [wipe_out (nv h1)] at h2
    exact ⟨j, h1, h2⟩
  · rintro ⟨j, h1, h2⟩
    exact ⟨j, h1, by rw [wipe_out (nv h1)]; exact h2⟩
theorem SRel.wipe {vs : List Nat} {σ4 : St} (r : SRel KF [] Γ fl O σ4 H ε) (hw : L2.wipe σ4 vs = L2.wipe σ vs) (hv : ∀ j ∈ vs, fl[j]? = some .sh) : SRel KF [] Γ fl O (L2.wipe σ vs) H (wipeE ε vs) := by
  rw [← hw]
  refine ⟨r.rel.wipe hv, r.dom0, r.keep, r.dom, r.new, r.old, fun b h => r.hit b ((wipe_hit hv).mp h), fun i h => (by cases h), fun i h => ?_⟩
  rw [wipe_out fun hj => by have := hv i hj; rw [h] at this; cases this]
  exact r.lk i h
def owChk (flT flH : List Fl) (vs : List Nat) : Bool := (List.range flT.length).all fun j => decide (flT[j]? = some .ow → flH[j]? = some .ow ∧ j ∉ vs)
theorem owChk_of {vs : List Nat} (h : owChk flT flH vs = true) {j : Nat} (e : flT[j]? = some .ow) : flH[j]? = some .ow ∧ j ∉ vs := by
  have hj := (List.getElem?_eq_some_iff.mp e).1
  have := List.all_eq_true.mp h j (List.mem_range.mpr hj)
  exact (of_decide_eq_true this) e
/-- a new list in one's hand grows -/
theorem SRel.grow {p : Addr} {vs : List V} (r : SRel KF [] Γ fl O σ H ε) (o : O p) (nh : ¬ Hit fl σ p) (nl : ∀ i : Nat, fl[i]? = some .le → σ[i]? ≠ some (some (.ref p))) (nr : ∀ i : Nat, fl[i]? ≠ some .ro) (hb : Γ.B p) : SRel KF [] Γ fl O σ (upd H p (.lst vs)) ε := by
  have s : Stay H O (upd H p (.lst vs)) O := ⟨fun b u e n => by rw [upd_ne (fun z => n (by rw [z]; exact o))]; exact e, fun b h => .inl h⟩
  refine ⟨⟨r.rel.len, r.rel.flen, fun b h => ?_, fun i d h1 h2 => ?_, fun i h => ?_, fun i h => ?_, fun i d h1 h2 => absurd h1 (nr i), r.rel.ap⟩, r.dom0, fun b u e n => ?_, fun b e => ?_, r.new, r.old, r.hit, r.own, r.lk⟩
  · by_cases hp : b = p
    · rw [hp, upd_same]; intro z; cases z
    · rw [upd_ne hp]; exact r.rel.dom b h
  · obtain ⟨v, e, w⟩ := r.rel.sh i d h1 h2
    exact ⟨v, e, w.stay s⟩
  · obtain ⟨a, d, e1, e2, oa, t⟩ := r.rel.ow i h
    exact ⟨a, d, e1, e2, oa, t.stay s (upd_ne fun z => nh ⟨i, h, z ▸ e2⟩)⟩
  · obtain ⟨a, d, e1, e2, oa, t, n⟩ := r.rel.le i h
    exact ⟨a, d, e1, e2, oa, t.stay s (upd_ne fun z => nl i h (z ▸ e2)), n⟩
  · rw [upd_ne (fun z => n (by rw [z]; exact hb))]
    exact r.keep b u e n
  · by_cases hp : b = p
    · rw [hp, upd_same] at e; cases e
    · rw [upd_ne hp] at e; exact r.dom b e
/-- the reading of a comprehension -/
theorem comp_imp {wi : TI} {it : I} {g : G} {elt : M} {vs ws : List Nat} {fl3 flT : List Fl} (sub : Subf fl fl1) (hq : ∀ σ H R, tI KF fl fl1 it σ H R → wi σ H R) (s1 : Subf flT fl2) (s2 : Subf fl2 fl3) (iv : IsV elt) (w0 : wkB fl1 flH = true) (w3 : wkB fl3 flH = true) (w2 : wkB fl2 flH = true)
    (hv : ∀ j ∈ vs, flH[j]? = some .sh) (hro : ∀ i : Nat, flH[i]? ≠ some .ro) (hws : ∀ j ∈ ws, j ∈ vs) (how : owChk flT flH vs = true) {σ : St} {H : Hp} {Q : VK}
    (h : tF KF fl flH (eComp it g t elt vs) σ H Q) : tLc wi (tG KF [] flH flT ws g) (tT KF flT fl2 t) (tD KF fl2 fl3 elt) vs σ H Q := by
  obtain ⟨ε, O, d, ε', r, em, k⟩ := h
  simp only [eComp, Option.bind_eq_some_iff] at em
  obtain ⟨⟨ds, ε1⟩, e1, ⟨accF, εF⟩, e2, em⟩ := em
  split at em
  rotate_left
  · cases em
  rename_i hlen
  have hlen : accF.length ≤ 16777216 := hlen
  cases em
  refine hq _ _ _ ⟨ε, O, ds, ε1, r, e1, fun J H1 O1 r1 st1 wk p hp => ?_⟩
  have g0 : SRel KF [] ⟨Hit fl σ, O, H, σ⟩ fl O σ H ε := ⟨r, r.dom, fun b o e _ => e, fun b e => e, fun b h => .inl h, fun b h _ => h, fun b h => .inl h, fun i _ => rfl, fun i _ => rfl⟩
  obtain ⟨O1', ⟨so, _⟩, rh⟩ := (g0.step r1 st1 sub).weak' (wk_of w0)
  have r1p : Rel KF flH (fun b => O1' b ∨ b = p) σ (upd H1 p (.lst [])) ε1 := rh.rel.own_same (same_upd hp) hp (by rw [upd_same]; intro z; cases z)
  have nhp : ¬ Hit flH σ p := fun z => rh.rel.dom p (rh.rel.hitO z) hp
  have nhw : ¬ Hit flH (L2.wipe σ vs) p := fun z => nhp ((wipe_hit hv).mp z)
  have nlp : ∀ i : Nat, flH[i]? = some .le → σ[i]? ≠ some (some (.ref p)) := fun i h z => by
    obtain ⟨a, d, _, e2, oa, _⟩ := rh.rel.le i h
    rw [z] at e2; cases e2
    exact rh.rel.dom p oa hp
  have nlw : ∀ i : Nat, flH[i]? = some .le → (L2.wipe σ vs)[i]? ≠ some (some (.ref p)) := fun i h => by
    rw [wipe_out fun hj => by have := hv i hj; rw [h] at this; cases this]
    exact nlp i h
  have hr0 : SRel KF [] ⟨fun b => Hit flH σ b ∨ b = p, fun b => O1' b ∨ b = p, upd H1 p (.lst []), L2.wipe σ vs⟩ flH (fun b => O1' b ∨ b = p) (L2.wipe σ vs) (upd H1 p (.lst [])) (wipeE ε1 vs) :=
    ⟨r1p.wipe hv, r1p.dom, fun b o e _ => e, fun b e => e, fun b h => .inl h, fun b h _ => h, fun b h => .inl (.inl ((wipe_hit hv).mp h)), fun i h => (by cases h), fun i _ => rfl⟩
  have kp : ∀ {O2 : Addr → Prop} {H2 : Hp} {ε2 : Slots}, SRel KF [] ⟨fun b => Hit flH σ b ∨ b = p, fun b => O1' b ∨ b = p, upd H1 p (.lst []), L2.wipe σ vs⟩ flH O2 (L2.wipe σ vs) H2 ε2 → (∀ b o, H1 b = some o → ¬ Hit flH σ b → H2 b = some o) ∧ (∀ b, O2 b → O1' b ∨ H1 b = none) := fun q => by
    refine ⟨fun b o e n => ?_, fun b h => ?_⟩
    · have hb : b ≠ p := ne_of_none e hp
      exact q.keep b o (by show upd H1 p _ b = _; rw [upd_ne hb]; exact e) fun z => z.elim n hb
    · rcases q.new b h with (z | z) | z
      · exact .inl z
      · exact .inr (by rw [z]; exact hp)
      · have z : upd H1 p (.lst []) b = none := z
        by_cases hb : b = p
        · exact .inr (by rw [hb]; exact hp)
        · rw [upd_ne hb] at z; exact .inr z
  refine ⟨fun i m H2 => m = ds.length - i ∧ i ≤ ds.length ∧ ∃ ε2 O2 acc accV, SRel KF [] ⟨fun b => Hit flH σ b ∨ b = p, fun b => O1' b ∨ b = p, upd H1 p (.lst []), L2.wipe σ vs⟩ flH O2 (L2.wipe σ vs) H2 ε2 ∧
    O2 p ∧ H2 p = some (.lst accV) ∧ Reps KF H2 O2 accV acc ∧ compL g t elt vs (ds.drop i) acc ε2 = some (accF, εF), ?_, ?_⟩
  · exact ⟨_, rfl, Nat.zero_le _, _, _, [], [], hr0, .inr rfl, upd_same, by simp [Reps], e2⟩
  · rintro i m H2 ⟨rfl, hle, ε2, O2, acc, accV, q2, o2, hp2, rp2, em2⟩
    obtain ⟨kk, kn⟩ := kp q2
    obtain ⟨hgo, hstop⟩ := wk i H2 O2 ⟨fun b o e n => kk b o e fun z => n ((wk_of w0).hit z), fun b h => (kn b h).imp (so b) id⟩ q2.rel.dom
    by_cases hlt : i < ds.length
    · obtain ⟨d, hd⟩ : ∃ d, ds[i]? = some d := ⟨_, List.getElem?_eq_getElem hlt⟩
      obtain ⟨go, yl⟩ := hgo d hd
      refine .inr ⟨go, fun H3 => ∃ ε2 O2 acc accV, SRel KF [] ⟨fun b => Hit flH σ b ∨ b = p, fun b => O1' b ∨ b = p, upd H1 p (.lst []), L2.wipe σ vs⟩ flH O2 (L2.wipe σ vs) H3 ε2 ∧
        O2 p ∧ H3 p = some (.lst accV) ∧ Reps KF H3 O2 accV acc ∧ compL g t elt vs (ds.drop (i + 1)) acc ε2 = some (accF, εF), fun H3 h => ⟨ds.length - (i + 1), by omega, rfl, hlt, h⟩, fun x H3 hy => ?_⟩
      obtain ⟨sm, rx⟩ := yl x H3 hy
      have hdrop : ds.drop i = d :: ds.drop (i + 1) := by
        rw [List.drop_eq_getElem_cons hlt]
        rw [List.getElem?_eq_getElem hlt] at hd
        cases hd
        rfl
      rw [hdrop] at em2
      simp only [compL, Option.bind_eq_some_iff] at em2
      obtain ⟨ε3, g3, ⟨b, ε5⟩, t5, em2⟩ := em2
      refine ⟨_, ε2, O2, d, ε3, q2.step (q2.rel.same sm) (Step.same sm) Subf.refl, rx, g3, fun σ4 O4 r4 on4 oe => ?_⟩
      have hw4 : L2.wipe σ4 vs = L2.wipe σ vs := wipe_only ⟨on4.1, fun j hj => on4.2 j fun z => hj (hws j z)⟩
      have nhT : ¬ Hit flT σ4 p := fun ⟨j, h1, h2⟩ => by
        obtain ⟨h3, h4⟩ := owChk_of how h1
        rw [on4.2 j fun z => h4 (hws j z)] at h2
        exact nhw ⟨j, h3, h2⟩
      refine ⟨hw4, ε3, O4, b, ε5, r4.rel, t5, fun H5 O5 r5 s5 => ?_⟩
      have q5 := r4.step r5 s5 s1
      have hp3 : H3 p = some (.lst accV) := sm p _ hp2
      have hp5 : H5 p = some (.lst accV) := s5.keep p _ hp3 nhT
      have o4 : O4 p := (oe p).mpr o2
      have o5 : O5 p := s5.old p o4 nhT
      have rp4 : Reps KF H3 O4 accV acc := rp2.stay ⟨fun b o e _ => sm b o e, fun b h => .inl ((oe b).mp h)⟩
      have rp5 : Reps KF H5 O5 accV acc := rp4.stay (s5.stay r4.rel)
      cases b with
      | false =>
        refine iteF ?_
        rw [if_neg Bool.false_ne_true] at em2
        obtain ⟨O6, ⟨so6, so6'⟩, q6⟩ := q5.weak' (wk_of w2)
        exact ⟨_, O6, acc, accV, q6.wipe hw4 hv, so6' p o5 fun z => nhT (s1.hit z), hp5, rp5.stay ⟨fun b o e _ => e, fun b h => .inl (so6 b h)⟩, em2⟩
      | true =>
        refine iteT ?_
        rw [if_pos rfl] at em2
        simp only [Option.bind_eq_some_iff] at em2
        obtain ⟨⟨dy, ε6⟩, e6, em2⟩ := em2
        refine ⟨ε5, O5, dy, ε6, r5, iv.val e6, fun y H6 O6 r6 s6 w6 => ?_⟩
        have nh5 : ¬ Hit fl2 σ4 p := fun z => nhT (s1.hit z)
        have hp6 : H6 p = some (.lst accV) := s6.keep p _ hp5 nh5
        have hlen2 := compL_len em2
        rw [List.length_append, List.length_singleton] at hlen2
        refine ⟨accV, hp6, by rw [rp2.length, sizeLine_eq]; omega, ?_⟩
        have q6 := q5.step r6 s6 s2
        obtain ⟨O7, ⟨so7, so7'⟩, q7⟩ := q6.weak' (wk_of w3)
        have q8 := q7.wipe hw4 hv
        have o7 : O7 p := so7' p (s6.old p o5 nh5) fun z => nh5 (s2.hit z)
        have rp7 : Reps KF H6 O7 (accV ++ [y]) (acc ++ [dy]) := by
          have a1 : Reps KF H6 O7 accV acc := (rp5.stay (s6.stay r5)).stay ⟨fun b o e _ => e, fun b h => .inl (so7 b h)⟩
          refine a1.append ?_
          simp only [Reps]
          exact ⟨w6.stay ⟨fun b o e _ => e, fun b h => .inl (so7 b h)⟩, trivial⟩
        refine ⟨_, O7, acc ++ [dy], accV ++ [y], q8.grow o7 nhw nlw hro (.inr rfl), o7, upd_same, rp7.stay ⟨fun b u e n => by rw [upd_ne (fun z => n (by rw [z]; exact o7))]; exact e, fun b h => .inl h⟩, em2⟩
    · have hi : i = ds.length := by omega
      refine .inl ⟨hstop hi, ?_⟩
      rw [hi, List.drop_length] at em2
      cases em2
      have fin : Rel KF flH O2 σ H2 (backE ε1 _ vs) := rh.rel.back ⟨fun b o e n => kk b o e fun z => n (rh.rel.hitO z), fun b h => kn b h⟩ q2.rel hv
      refine k p H2 O2 fin ⟨fun b o e n => ?_, fun b e => ?_, fun b h => ?_, fun b h n => ?_⟩ o2 ⟨accV, hp2, rp2⟩ ⟨nhp, nlp, fun i d h _ => absurd h (hro i)⟩ (.inl (rh.dom p hp))
      · refine kk b o (rh.keep b o e n) fun z => ?_
        rcases rh.hit b z with q | q
        · exact n q
        · have q : H b = none := q
          rw [e] at q; cases q
      · have z := q2.dom b e
        have z : upd H1 p (.lst []) b = none := z
        by_cases hb : b = p
        · rw [hb, upd_same] at z; cases z
        · rw [upd_ne hb] at z; exact rh.dom b z
      · rcases kn b h with z | z
        · exact rh.new b z
        · exact .inr (rh.dom b z)
      · refine q2.old b (.inl (rh.old b h n)) fun z => ?_
        rcases z with z | z
        · rcases rh.hit b z with q | q
          · exact n q
          · exact r.dom b h q
        · exact rh.rel.dom b (rh.old b h n) (by rw [z]; exact hp)
theorem pfd_comp {iter elt : Expr} {ifs : List Expr} {scope : Scope} {it : I} {g : G} {me : M} {ws : List Nat} {flT fl3 : List Fl} (own : List (Str × Nat)) (flH : List Fl) (nd : X.N.Nodup) (hi : PID X fl tg iter fl1 it)
    (hg : ∀ (s : Shared) (H : Hp) (C : Addr) (cl : List (Str × Addr)) (fp : List Addr), PGD (X.blk s H scope (compEnvC scope cl C X.env) fp) [] flH tg flT ws g)
    (ht : ∀ (s : Shared) (H : Hp) (C : Addr) (cl : List (Str × Addr)) (fp : List Addr), PTsD (X.blk s H scope (compEnvC scope cl C X.env) fp) flT ifs fl2 t)
    (he : ∀ (s : Shared) (H : Hp) (C : Addr) (cl : List (Str × Addr)) (fp : List Addr), PED (X.blk s H scope (compEnvC scope cl C X.env) fp) fl2 elt fl3 me)
    (ok : BlkOk X.N X.env.scope scope own := by exact blkOk_by (by kernel_rfl))
    (w0 : wkB fl1 flH = true := by rfl) (w2 : wkB fl2 flH = true := by rfl) (w3 : wkB fl3 flH = true := by rfl) (hv : ∀ j ∈ own.map (·.2), flH[j]? = some .sh := by decide) (hro : flH.all (fun f => decide (f ≠ .ro)) = true := by rfl) (hws : ∀ j ∈ ws, j ∈ own.map (·.2) := by decide) (how : owChk flT flH (own.map (·.2)) = true := by rfl)
    (sb : Subf fl flH) (hc : X.calm = true := by rfl) (hs : ∀ x, foldedSetIterable iter X.env x = pure x := by intro _; rfl) :
    PFD X fl (.ListComp elt [⟨tg, iter, ifs, 0⟩] scope pos) flH (eComp it g t me (own.map (·.2))) := by
  obtain ⟨wi, hw, hq⟩ := hi.run
  have e0 : ∀ (s : Shared) (H : Hp) (C : Addr) (cl : List (Str × Addr)) (fp : List Addr), IsV me ∧ Subf flT fl2 ∧ Subf fl2 fl3 := fun s H C cl fp => ⟨(he s H C cl fp).isv, (ht s H C cl fp).sub, (he s H C cl fp).sub⟩
  refine ⟨isv_comp, sb, ⟨fun pins s σ H Q I h => ?_⟩⟩
  obtain ⟨iv, s1, s2⟩ := e0 s H 0 [] []
  exact (pe_lc hc nd hw ok (fun s H C cl fp => (hg s H C cl fp).run) (fun s H C cl fp => (ht s H C cl fp).run) (fun s H C cl fp => (he s H C cl fp).run) hs).run pins s σ H Q I
    (comp_imp hi.sub hq s1 s2 iv w0 w3 w2 hv (fun i z => by
      have := List.all_eq_true.mp hro _ (List.mem_of_getElem? z)
      simp at this) hws how h)
end
end L2.VS

/-! Calls of defs, what a def promises, from a body to its promise. -/
namespace L2.VS
open PySem PySem.Spec PyProof.Rows

inductive Md where
  | sh | ro | ow
  deriving DecidableEq
def Md.fl : Md → Fl
  | .sh => .sh
  | .ro => .ro
  | .ow => .ow
/-- the addresses that a call may change -/
def WAt (ms : List Md) (vs : List V) (b : Addr) : Prop := ∃ i : Nat, ms[i]? = some .ow ∧ vs[i]? = some (.ref b)
def ArgOk (KF : PySem.W.Frag) (H : Hp) (O : Addr → Prop) (W : Addr → Prop) : Md → V → D → Prop
  | .sh, v, d => Rep KF H O v d
  | .ro, v, d => Rep KF H O v d ∨ ∃ a, v = .ref a ∧ O a ∧ Top KF H O a d ∧ ¬ W a
  | .ow, v, d => ∃ a, v = .ref a ∧ O a ∧ Top KF H O a d
structure ArgsOk (KF : PySem.W.Frag) (H : Hp) (O : Addr → Prop) (ms : List Md) (vs : List V) (ds : List D) : Prop where
  len1 : vs.length = ms.length
  len2 : ds.length = ms.length
  dom : Dom H O
  at_ : ∀ (i : Nat) md v d, ms[i]? = some md → vs[i]? = some v → ds[i]? = some d → ArgOk KF H O (WAt ms vs) md v d
  ap : ∀ (i j : Nat) a, i ≠ j → ms[i]? = some .ow → ms[j]? = some .ow → vs[i]? = some (.ref a) → vs[j]? ≠ some (.ref a)
structure RetC (KF : PySem.W.Frag) (ms : List Md) (ownp : List Nat) (fr : Bool) (vs : List V) (H : Hp) (O : Addr → Prop) (H' : Hp) (O' : Addr → Prop) (v : V) (d : D) (ws : List D) : Prop where
  dom1 : Dom H' O'
  keep : ∀ b o, H b = some o → ¬ WAt ms vs b → H' b = some o
  dom : ∀ b, H' b = none → H b = none
  new : ∀ b, O' b → O b ∨ H b = none
  old : ∀ b, O b → ¬ WAt ms vs b → O' b
  own : ∀ (k i : Nat), ownp[k]? = some i → ∃ a w, vs[i]? = some (.ref a) ∧ ws[k]? = some w ∧ O' a ∧ Top KF H' O' a w
  res : if fr = true then ∃ a, v = .ref a ∧ O' a ∧ Top KF H' O' a d ∧ H a = none else Rep KF H' O' v d
/-- what a def promises: fn over trees -/
def spD (KF : PySem.W.Frag) (ms : List Md) (ownp : List Nat) (fr : Bool) (fn : Fn) : Sp := fun vs H Q _ => ∃ O ds d ws, ArgsOk KF H O ms vs ds ∧ fn ds = some (d, ws) ∧ ∀ v H' O', RetC KF ms ownp fr vs H O H' O' v d ws → Q v H'
def looks (ε : Slots) : List Nat → Option (List D)
  | [] => some []
  | i :: is => (look ε i).bind fun d => (looks ε is).bind fun ds => some (d :: ds)
def startE (n : Nat) (ds : List D) : Slots := ds.map some ++ List.replicate (n - ds.length) none
/-- a def's body at work -/
def runDef (n : Nat) (ownp : List Nat) (body : S) : Fn := fun ds => (body (startE n ds)).bind fun p => match p.1 with
  | .rt d => (looks p.2 ownp).bind fun ws => some (d, ws)
  | .nx => (looks p.2 ownp).bind fun ws => some (.non, ws)
  | _ => none
theorem looks_at : ∀ {is : List Nat} {ε : Slots} {ws : List D} {k i : Nat}, looks ε is = some ws → is[k]? = some i → ∃ w, ws[k]? = some w ∧ look ε i = some w
  | [], _, _, _, _, _, h => by simp at h
  | j :: is, ε, ws, k, i, e, h => by
    simp only [looks, Option.bind_eq_some_iff] at e
    obtain ⟨d, h1, ds, h2, h3⟩ := e
    cases h3
    cases k with
    | zero =>
      simp at h
      subst h
      exact ⟨d, rfl, h1⟩
    | succ k =>
      obtain ⟨w, a, b⟩ := looks_at h2 (by simpa using h)
      exact ⟨w, by simpa using a, b⟩
theorem startE_get {n : Nat} {ds : List D} {i : Nat} {d : D} (h : (startE n ds)[i]? = some (some d)) : ds[i]? = some d := by
  unfold startE at h
  by_cases hi : i < ds.length
  · rw [List.getElem?_append_left (by simpa using hi), List.getElem?_map] at h
    cases e : ds[i]? with
    | none => rw [e] at h; cases h
    | some x => rw [e] at h; cases h; rfl
  · rw [List.getElem?_append_right (by simpa using hi), List.getElem?_replicate] at h
    split at h <;> cases h
theorem startE_at {n : Nat} {ds : List D} {i : Nat} {d : D} (h : ds[i]? = some d) : (startE n ds)[i]? = some (some d) := by
  unfold startE
  have hi := (List.getElem?_eq_some_iff.mp h).1
  rw [List.getElem?_append_left (by simpa using hi), List.getElem?_map, h]
  rfl
theorem start_at {N : List Str} {vs : List V} {i : Nat} {v : V} (h : vs[i]? = some v) : (start N vs)[i]? = some (some v) := by
  unfold start
  have hi := (List.getElem?_eq_some_iff.mp h).1
  rw [List.getElem?_append_left (by simpa using hi), List.getElem?_map, h]
  rfl
theorem start_get {N : List Str} {vs : List V} {i : Nat} {v : V} (h : (start N vs)[i]? = some (some v)) : vs[i]? = some v := by
  unfold start at h
  by_cases hi : i < vs.length
  · rw [List.getElem?_append_left (by simpa using hi), List.getElem?_map] at h
    cases e : vs[i]? with
    | none => rw [e] at h; cases h
    | some x => rw [e] at h; cases h; rfl
  · rw [List.getElem?_append_right (by simpa using hi), List.getElem?_replicate] at h
    split at h <;> cases h
def startF (n : Nat) (ms : List Md) : List Fl := ms.map Md.fl ++ List.replicate (n - ms.length) .sh
theorem startF_at {n : Nat} {ms : List Md} {i : Nat} {f : Fl} (h : (startF n ms)[i]? = some f) (hf : f ≠ .sh) : ∃ md, ms[i]? = some md ∧ md.fl = f := by
  unfold startF at h
  by_cases hi : i < ms.length
  · rw [List.getElem?_append_left (by simpa using hi), List.getElem?_map] at h
    cases e : ms[i]? with
    | none => rw [e] at h; cases h
    | some x => rw [e] at h; cases h; exact ⟨x, rfl, rfl⟩
  · rw [List.getElem?_append_right (by simpa using hi), List.getElem?_replicate] at h
    split at h
    · cases h; exact absurd rfl hf
    · cases h
theorem startF_sh {n : Nat} {ms : List Md} {i : Nat} (h : (startF n ms)[i]? = some .sh) : ms[i]? = some .sh ∨ ms.length ≤ i := by
  unfold startF at h
  by_cases hi : i < ms.length
  · rw [List.getElem?_append_left (by simpa using hi), List.getElem?_map] at h
    cases e : ms[i]? with
    | none => rw [e] at h; cases h
    | some x =>
      rw [e] at h
      cases x with
      | sh => exact .inl rfl
      | ro => cases h
      | ow => cases h
  · exact .inr (Nat.le_of_not_lt hi)

section
variable {KF : PySem.W.Frag} {H H' H1 H2 : Hp} {O O' O1 O2 : Addr → Prop} {fl fl' fl1 fl2 flE : List Fl} {σ : St} {ε ε1 : Slots} {X : Cx} {e : Expr} {es : List Expr} {m : M} {pos p : Pos} {Γ : Gm} {sg : Sg} {body : S} {ms : List Md} {ownp : List Nat} {fr : Bool} {fn : Fn} {vs : List V} {ds : List D}

theorem ow_fl {md : Md} (h : md.fl = .ow) : md = .ow := by cases md <;> first | rfl | cases h
theorem ro_fl {md : Md} (h : md.fl = .ro) : md = .ro := by cases md <;> first | rfl | cases h
theorem hit_start {N : List Str} {b : Addr} : Hit (startF N.length ms) (start N vs) b → WAt ms vs b := by
  rintro ⟨i, h1, h2⟩
  obtain ⟨md, e1, e2⟩ := startF_at h1 (by decide)
  exact ⟨i, by rw [e1, ow_fl e2], start_get h2⟩
theorem rel_start {N : List Str} (A : ArgsOk KF H O ms vs ds) (hN : ms.length ≤ N.length) : Rel KF (startF N.length ms) O (start N vs) H (startE N.length ds) := by
  have l1 := A.len1
  have l2 := A.len2
  have get : ∀ {i : Nat} {md : Md}, ms[i]? = some md → ∃ v d, vs[i]? = some v ∧ ds[i]? = some d := fun {i md} h => by
    have hi := (List.getElem?_eq_some_iff.mp h).1
    exact ⟨_, _, List.getElem?_eq_getElem (by omega), List.getElem?_eq_getElem (by omega)⟩
  refine ⟨by simp [startE, start, l1, l2], by simp [startF, start, l1], A.dom, fun i d h1 h2 => ?_, fun i h => ?_, fun i h => ?_, fun i d h1 h2 => ?_, fun i j a n h1 h2 h3 h4 => ?_⟩
  · have h2 := startE_get h2
    rcases startF_sh h1 with h1 | h1
    · obtain ⟨v, d', e1, e2⟩ := get h1
      rw [h2] at e2; cases e2
      exact ⟨v, start_at e1, A.at_ i _ v d h1 e1 h2⟩
    · have := (List.getElem?_eq_some_iff.mp h2).1
      omega
  · obtain ⟨md, e1, e2⟩ := startF_at h (by decide)
    rw [ow_fl e2] at e1
    obtain ⟨v, d, q1, q2⟩ := get e1
    obtain ⟨a, rfl, o, t⟩ := A.at_ i _ v d e1 q1 q2
    exact ⟨a, d, startE_at q2, start_at q1, o, t⟩
  · obtain ⟨md, e1, e2⟩ := startF_at h (by decide)
    cases md <;> cases e2
  · have h2 := startE_get h2
    obtain ⟨md, e1, e2⟩ := startF_at h1 (by decide)
    rw [ro_fl e2] at e1
    obtain ⟨v, d', q1, q2⟩ := get e1
    rw [h2] at q2; cases q2
    refine ⟨v, start_at q1, ?_⟩
    rcases A.at_ i _ v d e1 q1 h2 with w | ⟨a, e, o, t, n⟩
    · exact .inl w
    · exact .inr ⟨a, e, o, t, fun z => n (hit_start z)⟩
  · obtain ⟨md, e1, e2⟩ := startF_at h1 (by decide)
    rw [ow_fl e2] at e1
    obtain ⟨md', e3, e4⟩ := startF_at h2 (by decide)
    rw [ow_fl e4] at e3
    exact A.ap i j a n e1 e3 (start_get h3) (start_get h4)

/-- THE RULE: a def by its body -/
theorem def_ok {P : Program} {w : World} {mg : Str → Option Value} {base : Heap} {x qual : Str} {st : Stmt} {f : Addr} {fd : FuncData} {N ps : List Str} {k : Nat} (F : Fun KF x qual st f fd) (S : FnScope N ps (defScope st)) (ms : List Md) (ownp : List Nat) (fr : Bool) (flE : List Fl)
    (hl : ms.length = ps.length) (how : ∀ i : Nat, ms[i]? = some .ow ↔ i ∈ ownp) (hN : ms.length ≤ N.length)
    (hE : fr = true ∨ ∀ i ∈ ownp, flE[i]? = some .ow) (hfall : fr = true → ∀ ε ε', body ε ≠ some (.nx, ε'))
    (hb : ∀ (cdv : Value) (A : Around) (outer : List Env) (s : Shared) (H : Hp) (E : XK), Room k (A.deeper (envOfC qual (defScope st) s.heap.objs.size f cdv)) → PSDs (cxOf CX0 P w KF mg base N qual (defScope st) f cdv A outer s H E).nox ⟨ownp, fr, [], []⟩ (startF N.length ms) (defBody st) flE body) :
    FnOk P w KF mg base CX0 (k + 1) f fd ps (spD KF ms ownp fr (runDef N.length ownp body)) := by
  refine F.ok S (fun vs H Q E ⟨O, ds, d, ws, A, _⟩ => by rw [A.len1, hl]) (fun cdv A outer s H vs Q E hr ⟨O, ds, d, ws, A0, ef, kk⟩ => ?_)
  refine ⟨_, (hb cdv A outer s H E hr).run, ?_⟩
  have rel := rel_start A0 hN
  simp only [runDef, Option.bind_eq_some_iff] at ef
  obtain ⟨⟨w1, ε1⟩, e1, ef⟩ := ef
  refine ⟨⟨WAt ms vs, O, H, start N vs⟩, startE N.length ds, O, w1, ε1, ⟨rel, A0.dom, fun b o e _ => e, fun b e => e, fun b h => .inl h, fun b h _ => h, fun b h => .inl (hit_start h), fun i _ => rfl, fun i _ => rfl⟩, e1, ?_⟩
  have fin : ∀ {v : V} {H' : Hp} {O' : Addr → Prop} {r : D} {ws : List D}, looks ε1 ownp = some ws → RetOk KF ownp fr ⟨WAt ms vs, O, H, start N vs⟩ O' H' ε1 v r → RetC KF ms ownp fr vs H O H' O' v r ws := fun {v H' O' r ws} hl R => by
    refine ⟨R.dom1, R.keep, R.dom, R.new, R.old, fun k i hk => ?_, ?_⟩
    · obtain ⟨w, h1, h2⟩ := looks_at hl hk
      obtain ⟨a, d', q1, q2, o, t⟩ := R.own i (List.mem_of_getElem? hk)
      rw [h2] at q2; cases q2
      exact ⟨a, w, start_get q1, h1, o, t⟩
    · have q := R.res
      cases fr with
      | false => exact q
      | true =>
        rw [if_pos rfl] at q ⊢
        obtain ⟨a, e, o, t, n, z⟩ := q
        refine ⟨a, e, o, t, ?_⟩
        rcases n with ⟨i, n1, n2⟩ | n
        · exact absurd (start_at n2) (z i ((how i).mp n1))
        · exact n
  cases w1 with
  | bk => cases ef
  | ct => cases ef
  | rt r =>
    simp only [Option.bind_eq_some_iff] at ef
    obtain ⟨ws', hl', ef⟩ := ef
    cases ef
    exact fun v H' O' R => kk v H' O' (fin hl' R)
  | nx =>
    simp only [Option.bind_eq_some_iff] at ef
    obtain ⟨ws', hl', ef⟩ := ef
    cases ef
    intro σ' H' O' R
    cases fr with
    | true => exact absurd e1 (hfall rfl _ _)
    | false =>
      have hE' : ∀ i ∈ ownp, flE[i]? = some .ow := hE.elim (fun z => by cases z) id
      exact kk .non H' O' (fin hl' (R.ret hE' (by simp [Rep])))

/-! ### arguments -/
inductive Arg where
  | v (m : M) | w (i : Nat)
def evalArgs : List Arg → Slots → Option (List Opd × Slots)
  | [], ε => some ([], ε)
  | .v m :: as, ε => (m ε).bind fun p => (evalArgs as p.2).bind fun q => some (p.1 :: q.1, q.2)
  | .w i :: as, ε => (evalArgs as ε).bind fun q => some (.slot i :: q.1, q.2)
def gets : List Opd → Slots → Option (List D)
  | [], _ => some []
  | o :: os, ε => (o.get ε).bind fun d => (gets os ε).bind fun ds => some (d :: ds)
/-- what the argument's reading tells of it, by its mode -/
def OpdOk (KF : PySem.W.Frag) (fl : List Fl) (W : List Nat) (σ : St) (H : Hp) (O : Addr → Prop) : Md → V → Opd → Prop
  | .sh, v, .val d => Rep KF H O v d
  | .ro, v, .val d => Rep KF H O v d
  | .ro, v, .slot i => σ[i]? = some (some v) ∧ fl[i]? ≠ some .dd ∧ i ∉ W
  | .ow, v, .slot i => σ[i]? = some (some v) ∧ fl[i]? = some .ow ∧ i ∈ W
  | _, _, _ => False
def OpdsOk (KF : PySem.W.Frag) (fl : List Fl) (W : List Nat) (σ : St) (H : Hp) (O : Addr → Prop) : List Md → List V → List Opd → Prop
  | [], [], [] => True
  | md :: ms, v :: vs, o :: os => OpdOk KF fl W σ H O md v o ∧ OpdsOk KF fl W σ H O ms vs os
  | _, _, _ => False
def tAs (KF : PySem.W.Frag) (W : List Nat) (fl fl' : List Fl) (ms : List Md) (as : List Arg) : TA := fun σ H Q => ∃ ε O os ε', Rel KF fl O σ H ε ∧ evalArgs as ε = some (os, ε') ∧
  ∀ vs H' O', Rel KF fl' O' σ H' ε' → Step fl σ O H O' H' → OpdsOk KF fl' W σ H' O' ms vs os → Q vs H'
structure PAD (X : Cx) (W : List Nat) (fl : List Fl) (es : List Expr) (fl' : List Fl) (ms : List Md) (as : List Arg) : Prop where
  sub : Subf fl fl'
  run : PA X es (tAs X.K W fl fl' ms as)
theorem pad_nil {W : List Nat} : PAD X W fl [] fl [] [] := ⟨Subf.refl, pa_nil.imp fun σ H Q ⟨ε, O, os, ε', r, em, k⟩ => by
  cases em
  exact k [] H O r Step.refl trivial⟩
/-- a shared argument -/
theorem pad_v {W : List Nat} {as : List Arg} (h : PED X fl e fl1 m) (h2 : PAD X W fl1 es fl2 ms as) (na : NoStar e := by intro _ _; rfl) : PAD X W fl (e :: es) fl2 (.sh :: ms) (.v m :: as) := ⟨h.sub.trans h2.sub, (pa_cons h.run h2.run (na _ _)).imp fun σ H Q ⟨ε, O, os, ε', r, em, k⟩ => by
  simp only [evalArgs, Option.bind_eq_some_iff] at em
  obtain ⟨⟨o, ε1⟩, e1, ⟨os2, ε2⟩, e2, em⟩ := em
  cases em
  obtain ⟨d, rfl⟩ := h.isv _ _ _ e1
  exact ⟨ε, O, d, ε1, r, e1, fun v H1 O1 r1 s1 w => ⟨ε1, O1, os2, ε2, r1, e2, fun vs H2 O2 r2 s2 w2 => k (v :: vs) H2 O2 r2 (s1.trans s2 h.sub) ⟨w.stay (s2.stay r1), w2⟩⟩⟩⟩
/-- an argument that is only read -/
theorem pad_o {W : List Nat} {as : List Arg} (h : POD X fl e fl1 m) (h2 : PAD X W fl1 es fl2 ms as) (hw : ∀ ε i ε', m ε = some (.slot i, ε') → i ∉ W) (na : NoStar e := by intro _ _; rfl) : PAD X W fl (e :: es) fl2 (.ro :: ms) (.v m :: as) := ⟨h.sub.trans h2.sub, (pa_cons h.run h2.run (na _ _)).imp fun σ H Q ⟨ε, O, os, ε', r, em, k⟩ => by
  simp only [evalArgs, Option.bind_eq_some_iff] at em
  obtain ⟨⟨o, ε1⟩, e1, ⟨os2, ε2⟩, e2, em⟩ := em
  cases em
  refine ⟨ε, O, o, ε1, r, e1, fun v H1 O1 r1 s1 w => ⟨ε1, O1, os2, ε2, r1, e2, fun vs H2 O2 r2 s2 w2 => k (v :: vs) H2 O2 r2 (s1.trans s2 h.sub) ⟨?_, w2⟩⟩⟩
  have w' := w.step r1 s2 h2.sub
  cases o with
  | val d => exact w'
  | slot i => exact ⟨w'.1, w'.2, hw _ _ _ e1⟩⟩
theorem pad_p {W : List Nat} {as : List Arg} (h : PED X fl e fl1 m) (h2 : PAD X W fl1 es fl2 ms as) (na : NoStar e := by intro _ _; rfl) : PAD X W fl (e :: es) fl2 (.ro :: ms) (.v m :: as) :=
  pad_o (pod_of_ped h) h2 (fun ε i ε' e1 => by obtain ⟨d, z⟩ := h.isv _ _ _ e1; cases z) na
/-- an argument that the callee may change -/
theorem pad_w {W : List Nat} {as : List Arg} (i : Nat) {x : Str} (h2 : PAD X W fl es fl2 ms as) (hf2 : fl2[i]? = some .ow := by rfl) (hw : i ∈ W := by decide) (hf : fl[i]? = some .ow := by rfl) (hN : X.N[i]? = some x := by rfl) (hv : Vis X.env.scope x := by first | exact Or.inl rfl | exact Or.inr (Or.inl rfl) | exact Or.inr (Or.inr rfl)) (hd : (x == ("__debug__" : Str)) = false := by decide)
    (hcd : (x == ("__classdict__" : Str)) = false := by decide) (na : NoStar (.Name x pos) := by intro _ _; rfl) : PAD X W fl (.Name x pos :: es) fl2 (.ow :: ms) (.w i :: as) := ⟨h2.sub, (pa_cons (pv i hN hv hd hcd) h2.run (na _ _)).imp fun σ H Q ⟨ε, O, os, ε', r, em, k⟩ => by
  simp only [evalArgs, Option.bind_eq_some_iff] at em
  obtain ⟨⟨os2, ε2⟩, e2, em⟩ := em
  cases em
  obtain ⟨a, d, q1, q2, o, t⟩ := r.ow i hf
  exact ⟨.ref a, q2, ε, O, os2, ε2, r, e2, fun vs H2 O2 r2 s2 w2 => k (.ref a :: vs) H2 O2 r2 s2 ⟨⟨q2, hf2, hw⟩, w2⟩⟩⟩
/-! ### calls -/
theorem opds_at {W : List Nat} : ∀ {ms : List Md} {vs : List V} {os : List Opd}, OpdsOk KF fl W σ H O ms vs os → vs.length = ms.length ∧ os.length = ms.length ∧ ∀ (i : Nat) md, ms[i]? = some md → ∃ v o, vs[i]? = some v ∧ os[i]? = some o ∧ OpdOk KF fl W σ H O md v o
  | [], [], [], _ => ⟨rfl, rfl, fun i md h => by simp at h⟩
  | md :: ms, v :: vs, o :: os, h => by
    obtain ⟨a, b, c⟩ := opds_at h.2
    refine ⟨by simp [a], by simp [b], fun i md' hi => ?_⟩
    cases i with
    | zero =>
      simp at hi
      subst hi
      exact ⟨v, o, rfl, rfl, h.1⟩
    | succ i => simpa using c i md' (by simpa using hi)
  | [], _ :: _, _, h => h.elim
  | [], [], _ :: _, h => h.elim
  | _ :: _, [], _, h => h.elim
  | _ :: _, _ :: _, [], h => h.elim
theorem gets_at : ∀ {os : List Opd} {ε : Slots} {ds : List D}, gets os ε = some ds → ds.length = os.length ∧ ∀ (i : Nat) o, os[i]? = some o → ∃ d, ds[i]? = some d ∧ o.get ε = some d
  | [], ε, ds, h => by cases h; exact ⟨rfl, fun i o h => by simp at h⟩
  | o :: os, ε, ds, h => by
    simp only [gets, Option.bind_eq_some_iff] at h
    obtain ⟨d, h1, ds', h2, h3⟩ := h
    cases h3
    obtain ⟨a, b⟩ := gets_at h2
    refine ⟨by simp [a], fun i o' hi => ?_⟩
    cases i with
    | zero =>
      simp at hi
      subst hi
      exact ⟨d, rfl, h1⟩
    | succ i => simpa using b i o' (by simpa using hi)
/-- a slot read beside an owned one -/
theorem read_apart {i j : Nat} {v : V} {d : D} (r : Rel KF fl O σ H ε) (h : σ[j]? = some (some v)) (hdd : fl[j]? ≠ some .dd) (g : look ε j = some d) (hij : j ≠ i) (hi : fl[i]? = some .ow) :
    Rep KF H O v d ∨ ∃ a, v = .ref a ∧ O a ∧ Top KF H O a d ∧ σ[i]? ≠ some (some (.ref a)) := by
  have g := look_iff.mp g
  have hl : j < fl.length := by
    rw [r.flen]
    exact (List.getElem?_eq_some_iff.mp h).1
  obtain ⟨f, hf⟩ : ∃ f, fl[j]? = some f := ⟨_, List.getElem?_eq_getElem hl⟩
  cases f with
  | dd => exact absurd hf hdd
  | sh =>
    obtain ⟨v', e, q⟩ := r.sh j d hf g
    rw [h] at e; cases e
    exact .inl q
  | ow =>
    obtain ⟨a, d', e1, e2, o, q⟩ := r.ow j hf
    rw [h] at e2; cases e2
    rw [g] at e1; cases e1
    exact .inr ⟨a, rfl, o, q, r.ap j i a hij hf hi h⟩
  | le =>
    obtain ⟨a, d', e1, e2, o, q, n⟩ := r.le j hf
    rw [h] at e2; cases e2
    rw [g] at e1; cases e1
    exact .inr ⟨a, rfl, o, q, fun z => n ⟨i, hi, z⟩⟩
  | ro =>
    obtain ⟨v', e, q⟩ := r.ro j d hf g
    rw [h] at e; cases e
    rcases q with q | ⟨a, e, o, q, n⟩
    · exact .inl q
    · exact .inr ⟨a, e, o, q, fun z => n ⟨i, hi, z⟩⟩
def eCall0 (fn : Fn) (as : List Arg) : M := fun ε => (evalArgs as ε).bind fun q => (gets q.1 q.2).bind fun ds => (fn ds).bind fun r => some (.val r.1, q.2)
/-- slot i holds behind it what the callee left -/
def eCall1 (fn : Fn) (as : List Arg) (i : Nat) : M := fun ε => (evalArgs as ε).bind fun q => (gets q.1 q.2).bind fun ds => (fn ds).bind fun r => match r.2 with
  | [w] => some (.val r.1, put q.2 i w)
  | _ => none
theorem isv_call0 {as : List Arg} : IsV (eCall0 fn as) := fun ε o ε' h => by
  simp only [eCall0, Option.bind_eq_some_iff] at h
  obtain ⟨_, _, _, _, _, _, h⟩ := h
  cases h; exact ⟨_, rfl⟩
theorem isv_call1 {as : List Arg} {i : Nat} : IsV (eCall1 fn as i) := fun ε o ε' h => by
  simp only [eCall1, Option.bind_eq_some_iff] at h
  obtain ⟨_, _, _, _, _, _, h⟩ := h
  split at h
  · cases h; exact ⟨_, rfl⟩
  · cases h
theorem args0 {os : List Opd} (r : Rel KF fl O σ H ε) (w : OpdsOk KF fl [] σ H O ms vs os) (g : gets os ε = some ds) : ArgsOk KF H O ms vs ds ∧ ∀ b, ¬ WAt ms vs b := by
  obtain ⟨l1, l2, at1⟩ := opds_at w
  obtain ⟨l3, at2⟩ := gets_at g
  have now : ∀ i : Nat, ms[i]? ≠ some .ow := fun i h => by
    obtain ⟨v, o, _, _, q⟩ := at1 i _ h
    cases o with
    | val d => exact q
    | slot j => exact absurd q.2.2 (by simp)
  refine ⟨⟨l1, by omega, r.dom, fun i md v d h1 h2 h3 => ?_, fun i j a _ h => absurd h (now i)⟩, fun b ⟨i, h, _⟩ => now i h⟩
  obtain ⟨v', o, e1, e2, q⟩ := at1 i md h1
  rw [h2] at e1; cases e1
  obtain ⟨d', e3, e4⟩ := at2 i o e2
  rw [h3] at e3; cases e3
  cases md with
  | ow => exact absurd h1 (now i)
  | sh =>
    cases o with
    | val z => cases e4; exact q
    | slot j => exact q.elim
  | ro =>
    cases o with
    | val z => cases e4; exact .inl q
    | slot j =>
      rcases RepO.read (KF := KF) (o := .slot j) ⟨q.1, q.2.1⟩ r e4 with z | ⟨a, e, oa, t⟩
      · exact .inl z
      · exact .inr ⟨a, e, oa, t, fun ⟨i, h, _⟩ => now i h⟩
/-- more is there, more is owned -/
theorem Rel.grown (r : Rel KF fl O σ H ε) (q : Same H H') (hn : ∀ b, O' b → O b ∨ H b = none) (ho : ∀ b, O b → O' b) (hd : Dom H' O') : Rel KF fl O' σ H' ε := by
  have s : Stay H O H' O' := ⟨fun b u e _ => q b u e, hn⟩
  have k : ∀ {a d}, Top KF H O a d → H' a = H a := fun {a d} ht => by
    obtain ⟨o, e⟩ := ht.some_of
    rw [e, q a o e]
  refine ⟨r.len, r.flen, hd, fun i d h1 h2 => ?_, fun i h => ?_, fun i h => ?_, fun i d h1 h2 => ?_, r.ap⟩
  · obtain ⟨v, e, q⟩ := r.sh i d h1 h2
    exact ⟨v, e, q.stay s⟩
  · obtain ⟨a, d, e1, e2, o, q⟩ := r.ow i h
    exact ⟨a, d, e1, e2, ho _ o, q.stay s (k q)⟩
  · obtain ⟨a, d, e1, e2, o, q, n⟩ := r.le i h
    exact ⟨a, d, e1, e2, ho _ o, q.stay s (k q), n⟩
  · obtain ⟨v, e, q⟩ := r.ro i d h1 h2
    refine ⟨v, e, ?_⟩
    rcases q with q | ⟨a, e, o, q, n⟩
    · exact .inl (q.stay s)
    · exact .inr ⟨a, e, ho _ o, q.stay s (k q), n⟩
theorem apart_ret {a : Addr} (r : Rel KF fl O σ H ε) (ha : H a = none) (r' : Rel KF fl O' σ H' ε1) (hro : ∀ (i : Nat) d, fl[i]? = some .ro → ε1[i]? = some (some d) → ε[i]? = some (some d)) : Apart KF fl O' σ H' ε1 a := by
  refine ⟨fun z => r.dom _ (r.hitO z) ha, fun i h z => ?_, fun i d h1 h2 => ?_⟩
  · obtain ⟨b, d, e1, e2, o, q, n⟩ := r.le i h
    rw [z] at e2; cases e2
    exact r.dom _ o ha
  · obtain ⟨v, e, q⟩ := r.ro i d h1 (hro i d h1 h2)
    obtain ⟨v', e', q'⟩ := r'.ro i d h1 h2
    rw [e] at e'; cases e'
    refine ⟨v, e, ?_⟩
    rcases q' with q' | ⟨b, x, o, t, n⟩
    · exact .inl q'
    · by_cases hb : b = a
      · subst hb
        rcases q with q | ⟨c, x2, o2, t2, n2⟩
        · subst x
          exfalso
          cases d with
          | lst ds =>
            simp only [Rep] at q
            obtain ⟨c, vs, e, _, q, _⟩ := q
            cases e
            rw [ha] at q; cases q
          | dic t1 ks ds =>
            simp only [Rep] at q
            obtain ⟨c, vs, o2, e, _, _, q, _⟩ := q
            cases e
            obtain ⟨_, q⟩ := Rd.some_of q
            rw [ha] at q; cases q
          | _ => exact t.elim
        · rw [x] at x2; cases x2
          exact absurd ha (r.dom _ o2)
      · exact .inr ⟨b, x, o, t, n, hb⟩
section
variable {x : Str} {k : Nat} {f : Addr} {fd : FuncData} {ps : List Str} {as : List Arg}
theorem call0_imp (h : PAD X [] fl es fl' ms as) {σ : St} {H : Hp} {Q : VK} (hh : tD X.K fl fl' (eCall0 fn as) σ H Q) : tCall (spD X.K ms [] false fn) [] E0 (tAs X.K [] fl fl' ms as) σ H Q := by
  obtain ⟨ε, O, d, ε', r, em, kk⟩ := hh
  simp only [eCall0, Option.bind_eq_some_iff] at em
  obtain ⟨⟨os, ε1⟩, e1, ds, e2, ⟨d', ws⟩, e3, em⟩ := em
  cases em
  refine ⟨ε, O, os, _, r, e1, fun vs H1 O1 r1 s1 w => ?_⟩
  obtain ⟨A, nw⟩ := args0 r1 w e2
  rw [List.append_nil]
  refine ⟨O1, ds, _, ws, A, e3, fun v H' O' R => ?_⟩
  have sm : Same H1 H' := fun b o e => R.keep b o e (nw b)
  have rr := R.res
  rw [if_neg Bool.false_ne_true] at rr
  exact kk v H' O' (r1.grown sm R.new (fun b h => R.old b h (nw b)) R.dom1) (s1.trans (fl' := fl') ⟨fun b o e _ => sm b o e, R.dom, R.new, fun b h _ => R.old b h (nw b)⟩ h.sub) rr
theorem call0_impF (h : PAD X [] fl es fl' ms as) {σ : St} {H : Hp} {Q : VK} (hh : tF X.K fl fl' (eCall0 fn as) σ H Q) : tCall (spD X.K ms [] true fn) [] E0 (tAs X.K [] fl fl' ms as) σ H Q := by
  obtain ⟨ε, O, d, ε', r, em, kk⟩ := hh
  simp only [eCall0, Option.bind_eq_some_iff] at em
  obtain ⟨⟨os, ε1⟩, e1, ds, e2, ⟨d', ws⟩, e3, em⟩ := em
  cases em
  refine ⟨ε, O, os, _, r, e1, fun vs H1 O1 r1 s1 w => ?_⟩
  obtain ⟨A, nw⟩ := args0 r1 w e2
  rw [List.append_nil]
  refine ⟨O1, ds, _, ws, A, e3, fun v H' O' R => ?_⟩
  have sm : Same H1 H' := fun b o e => R.keep b o e (nw b)
  have rr := R.res
  rw [if_pos rfl] at rr
  obtain ⟨a, rfl, o, t, n⟩ := rr
  have r2 := r1.grown sm R.new (fun b h => R.old b h (nw b)) R.dom1
  exact kk a H' O' r2 (s1.trans (fl' := fl') ⟨fun b o e _ => sm b o e, R.dom, R.new, fun b h _ => R.old b h (nw b)⟩ h.sub) o t (apart_ret r1 n r2 fun _ _ _ h => h) (.inl (s1.dom a n))
theorem ped_call0 (F : FnOk X.prog X.w X.K X.mg X.base CX0 k f fd ps (spD X.K ms [] false fn)) (hr : Room k X.A) (hm : X.mg x = some (.ref f)) (hk : PySem.W.keepIn X.K (.ref f) = true) (hb : Binds X.K fd ps []) (h : PAD X [] fl (e :: es) fl' ms as) (hg : Gl X x := by rfl) (hdb : (x == ("__debug__" : Str)) = false := by decide)
    (he : NoStar e := by intro _ _; rfl) (hpl : (backTo pos (starEach es X.env)).any (·.1) = false := by rfl) : PED X fl (.Call (.Name x p) (e :: es) [] pos) fl' (eCall0 fn as) :=
  ⟨isv_call0, h.sub, (pe_call F hr hg hm hk hb .nil pass0 h.run hdb (he _ _) hpl).imp fun σ H Q hh => call0_imp h hh⟩
theorem pfd_call0 (F : FnOk X.prog X.w X.K X.mg X.base CX0 k f fd ps (spD X.K ms [] true fn)) (hr : Room k X.A) (hm : X.mg x = some (.ref f)) (hk : PySem.W.keepIn X.K (.ref f) = true) (hb : Binds X.K fd ps []) (h : PAD X [] fl (e :: es) fl' ms as) (hg : Gl X x := by rfl) (hdb : (x == ("__debug__" : Str)) = false := by decide)
    (he : NoStar e := by intro _ _; rfl) (hpl : (backTo pos (starEach es X.env)).any (·.1) = false := by rfl) : PFD X fl (.Call (.Name x p) (e :: es) [] pos) fl' (eCall0 fn as) :=
  ⟨isv_call0, h.sub, (pe_call F hr hg hm hk hb .nil pass0 h.run hdb (he _ _) hpl).imp fun σ H Q hh => call0_impF h hh⟩
/-- no arguments -/
theorem ped_call00 (F : FnOk X.prog X.w X.K X.mg X.base CX0 k f fd ps (spD X.K [] [] false fn)) (hr : Room k X.A) (hm : X.mg x = some (.ref f)) (hk : PySem.W.keepIn X.K (.ref f) = true) (hb : Binds X.K fd ps []) (hg : Gl X x := by rfl) (hdb : (x == ("__debug__" : Str)) = false := by decide) : PED X fl (.Call (.Name x p) [] [] pos) fl (eCall0 fn []) :=
  ⟨isv_call0, Subf.refl, (pe_call0 F hr hg hm hk hb .nil pass0 hdb).imp fun σ H Q hh => by
    have h : PAD X [] fl [] fl [] [] := pad_nil
    have z := call0_imp (fn := fn) h hh
    obtain ⟨ε, O, os, ε', r, em, kk⟩ := z
    cases em
    exact kk [] H O r Step.refl trivial⟩
theorem pfd_call00 (F : FnOk X.prog X.w X.K X.mg X.base CX0 k f fd ps (spD X.K [] [] true fn)) (hr : Room k X.A) (hm : X.mg x = some (.ref f)) (hk : PySem.W.keepIn X.K (.ref f) = true) (hb : Binds X.K fd ps []) (hg : Gl X x := by rfl) (hdb : (x == ("__debug__" : Str)) = false := by decide) : PFD X fl (.Call (.Name x p) [] [] pos) fl (eCall0 fn []) :=
  ⟨isv_call0, Subf.refl, (pe_call0 F hr hg hm hk hb .nil pass0 hdb).imp fun σ H Q hh => by
    have h : PAD X [] fl [] fl [] [] := pad_nil
    have z := call0_impF (fn := fn) h hh
    obtain ⟨ε, O, os, ε', r, em, kk⟩ := z
    cases em
    exact kk [] H O r Step.refl trivial⟩

/-! one argument that the callee changes -/
theorem args1 {i q : Nat} {os : List Opd} {A : Addr} (r : Rel KF fl O σ H ε) (hi : fl[i]? = some .ow) (hA : σ[i]? = some (some (.ref A))) (hq : ms[q]? = some .ow) (h1 : ∀ j, j < ms.length → ms[j]? = some .ow → j = q) (w : OpdsOk KF fl [i] σ H O ms vs os) (g : gets os ε = some ds) :
    ArgsOk KF H O ms vs ds ∧ (∀ b, WAt ms vs b ↔ b = A) ∧ vs[q]? = some (.ref A) := by
  obtain ⟨l1, l2, at1⟩ := opds_at w
  obtain ⟨l3, at2⟩ := gets_at g
  have hone : ∀ j : Nat, ms[j]? = some .ow → j = q := fun j h => h1 j (List.getElem?_eq_some_iff.mp h).1 h
  have own : ∀ j : Nat, ms[j]? = some .ow → vs[j]? = some (.ref A) ∧ os[j]? = some (.slot i) := fun j h => by
    obtain ⟨v, o, e1, e2, z⟩ := at1 j _ h
    cases o with
    | val d => exact z.elim
    | slot n =>
      have e : n = i := by simpa using z.2.2
      subst e
      have z1 := z.1
      rw [hA] at z1; cases z1
      exact ⟨e1, e2⟩
  have hW : ∀ b, WAt ms vs b ↔ b = A := fun b => by
    constructor
    · rintro ⟨j, h1, h2⟩
      rw [(own j h1).1] at h2; cases h2; rfl
    · rintro rfl
      exact ⟨q, hq, (own q hq).1⟩
  refine ⟨⟨l1, by omega, r.dom, fun j md v d h1 h2 h3 => ?_, fun j j' a n h h' => absurd ((hone j h).trans (hone j' h').symm) n⟩, hW, (own q hq).1⟩
  obtain ⟨v', o, e1, e2, z⟩ := at1 j md h1
  rw [h2] at e1; cases e1
  obtain ⟨d', e3, e4⟩ := at2 j o e2
  rw [h3] at e3; cases e3
  cases md with
  | ow =>
    obtain ⟨z1, z2⟩ := own j h1
    rw [h2] at z1; cases z1
    rw [e2] at z2; cases z2
    obtain ⟨a, d', q1, q2, o, t⟩ := r.ow i hi
    rw [hA] at q2; cases q2
    have e4 := look_iff.mp e4
    rw [e4] at q1; cases q1
    exact ⟨A, rfl, o, t⟩
  | sh =>
    cases o with
    | val z' => cases e4; exact z
    | slot j => exact z.elim
  | ro =>
    cases o with
    | val z' => cases e4; exact .inl z
    | slot n =>
      rcases read_apart r z.1 z.2.1 e4 (fun e => z.2.2 (by simp [e])) hi with y | ⟨a, e, oa, t, na⟩
      · exact .inl y
      · exact .inr ⟨a, e, oa, t, fun h => na (by rw [(hW a).mp h]; exact hA)⟩
/-- slot i's thing was changed by a callee -/
theorem Rel.called {i : Nat} {A : Addr} {w : D} (r : Rel KF fl O σ H ε) (hi : fl[i]? = some .ow) (hA : σ[i]? = some (some (.ref A))) (q : ∀ b o, H b = some o → b ≠ A → H' b = some o) (hn : ∀ b, O' b → O b ∨ H b = none) (ho : ∀ b, O b → b ≠ A → O' b) (hd : Dom H' O') (oA : O' A) (t : Top KF H' O' A w) : Rel KF fl O' σ H' (put ε i w) := by
  rw [put_eq]
  have hOA : O A := by
    obtain ⟨a, d, _, e2, o, _⟩ := r.ow i hi
    rw [hA] at e2; cases e2; exact o
  have s : Stay H O H' O' := ⟨fun b u e n => q b u e fun z => n (by rw [z]; exact hOA), hn⟩
  have k : ∀ {a d}, Top KF H O a d → a ≠ A → H' a = H a := fun {a d} ht ne => by
    obtain ⟨o, e⟩ := ht.some_of
    rw [e, q a o e ne]
  have hl : i < ε.length := by rw [r.len]; exact r.lt hi
  refine ⟨by simp [r.len], r.flen, hd, fun j d h1 h2 => ?_, fun j h => ?_, fun j h => ?_, fun j d h1 h2 => ?_, r.ap⟩
  · have hj : j ≠ i := fun z => by rw [z, hi] at h1; cases h1
    rw [set_ne hj] at h2
    obtain ⟨v, e, q⟩ := r.sh j d h1 h2
    exact ⟨v, e, q.stay s⟩
  · by_cases hj : j = i
    · subst hj
      exact ⟨A, w, set_eq hl, hA, oA, t⟩
    · rw [set_ne hj]
      obtain ⟨a, d, e1, e2, o, q⟩ := r.ow j h
      have ne : a ≠ A := fun z => r.ap j i a hj h hi e2 (by rw [z]; exact hA)
      exact ⟨a, d, e1, e2, ho _ o ne, q.stay s (k q ne)⟩
  · have hj : j ≠ i := fun z => by rw [z, hi] at h; cases h
    rw [set_ne hj]
    obtain ⟨a, d, e1, e2, o, q, n⟩ := r.le j h
    have ne : a ≠ A := fun z => n ⟨i, hi, by rw [z]; exact hA⟩
    exact ⟨a, d, e1, e2, ho _ o ne, q.stay s (k q ne), n⟩
  · have hj : j ≠ i := fun z => by rw [z, hi] at h1; cases h1
    rw [set_ne hj] at h2
    obtain ⟨v, e, q⟩ := r.ro j d h1 h2
    refine ⟨v, e, ?_⟩
    rcases q with q | ⟨a, e, o, q, n⟩
    · exact .inl (q.stay s)
    · have ne : a ≠ A := fun z => n ⟨i, hi, by rw [z]; exact hA⟩
      exact .inr ⟨a, e, ho _ o ne, q.stay s (k q ne), n⟩
theorem call1_core {i q : Nat} {fr : Bool} (h : PAD X [i] fl es fl' ms as) (hi : fl'[i]? = some .ow) (hq : ms[q]? = some .ow) (h1 : ∀ j, j < ms.length → ms[j]? = some .ow → j = q) {σ : St} {H : Hp} {Q : VK} {ε : Slots} {O : Addr → Prop} {d : D} {ε' : Slots} (r : Rel X.K fl O σ H ε) (em : eCall1 fn as i ε = some (.val d, ε'))
    (kk : ∀ v H' O', Rel X.K fl' O' σ H' ε' → Step fl σ O H O' H' → (if fr = true then ∃ a, v = .ref a ∧ O' a ∧ Top X.K H' O' a d ∧ H a = none ∧ Apart X.K fl' O' σ H' ε' a else Rep X.K H' O' v d) → Q v H') : tCall (spD X.K ms [q] fr fn) [] E0 (tAs X.K [i] fl fl' ms as) σ H Q := by
  simp only [eCall1, Option.bind_eq_some_iff] at em
  obtain ⟨⟨os, ε1⟩, e1, ds, e2, ⟨d', ws⟩, e3, em⟩ := em
  obtain ⟨w, rfl⟩ : ∃ w, ws = [w] := by
    cases ws with
    | nil => cases em
    | cons w ws =>
      cases ws with
      | nil => exact ⟨w, rfl⟩
      | cons _ _ => cases em
  cases em
  refine ⟨ε, O, os, _, r, e1, fun vs H1 O1 r1 s1 wo => ?_⟩
  obtain ⟨A, d0, _, hA, oA, _⟩ := r1.ow i hi
  obtain ⟨AO, hW, hv⟩ := args1 r1 hi hA hq h1 wo e2
  rw [List.append_nil]
  refine ⟨O1, ds, _, [w], AO, e3, fun v H' O' R => ?_⟩
  obtain ⟨a, w', z1, z2, o', t'⟩ := R.own 0 q rfl
  rw [hv] at z1; cases z1
  cases z2
  have ke : ∀ b o, H1 b = some o → b ≠ A → H' b = some o := fun b o e n => R.keep b o e fun z => n ((hW b).mp z)
  have ol : ∀ b, O1 b → b ≠ A → O' b := fun b h n => R.old b h fun z => n ((hW b).mp z)
  have r2 := r1.called hi hA ke R.new ol R.dom1 o' t'
  have hitA : ∀ {b}, b = A → Hit fl' σ b := fun {b} z => ⟨i, hi, by rw [z]; exact hA⟩
  refine kk v H' O' r2 (s1.trans (fl' := fl') ⟨fun b o e n => ke b o e fun z => n (hitA z), R.dom, R.new, fun b h n => ol b h fun z => n (hitA z)⟩ h.sub) ?_
  have rr := R.res
  cases fr with
  | false => exact rr
  | true =>
    rw [if_pos rfl] at rr ⊢
    obtain ⟨a, rfl, o, t, n⟩ := rr
    refine ⟨a, rfl, o, t, s1.dom a n, apart_ret r1 n r2 fun j d h1 h2 => ?_⟩
    have hj : j ≠ i := fun z => by rw [z, hi] at h1; cases h1
    rw [put_eq, set_ne hj] at h2
    exact h2
theorem ped_call1 (i q : Nat) (F : FnOk X.prog X.w X.K X.mg X.base CX0 k f fd ps (spD X.K ms [q] false fn)) (hr : Room k X.A) (hm : X.mg x = some (.ref f)) (hk : PySem.W.keepIn X.K (.ref f) = true) (hb : Binds X.K fd ps []) (h : PAD X [i] fl (e :: es) fl' ms as) (hi : fl'[i]? = some .ow := by rfl) (hq : ms[q]? = some .ow := by rfl) (h1 : ∀ j, j < ms.length → ms[j]? = some .ow → j = q := by decide)
    (hg : Gl X x := by rfl) (hdb : (x == ("__debug__" : Str)) = false := by decide)
    (he : NoStar e := by intro _ _; rfl) (hpl : (backTo pos (starEach es X.env)).any (·.1) = false := by rfl) : PED X fl (.Call (.Name x p) (e :: es) [] pos) fl' (eCall1 fn as i) :=
  ⟨isv_call1, h.sub, (pe_call F hr hg hm hk hb .nil pass0 h.run hdb (he _ _) hpl).imp fun σ H Q ⟨ε, O, d, ε', r, em, kk⟩ => call1_core h hi hq h1 r em fun v H' O' r' s' z => kk v H' O' r' s' (by rw [if_neg Bool.false_ne_true] at z; exact z)⟩
theorem pfd_call1 (i q : Nat) (F : FnOk X.prog X.w X.K X.mg X.base CX0 k f fd ps (spD X.K ms [q] true fn)) (hr : Room k X.A) (hm : X.mg x = some (.ref f)) (hk : PySem.W.keepIn X.K (.ref f) = true) (hb : Binds X.K fd ps []) (h : PAD X [i] fl (e :: es) fl' ms as) (hi : fl'[i]? = some .ow := by rfl) (hq : ms[q]? = some .ow := by rfl) (h1 : ∀ j, j < ms.length → ms[j]? = some .ow → j = q := by decide)
    (hg : Gl X x := by rfl) (hdb : (x == ("__debug__" : Str)) = false := by decide)
    (he : NoStar e := by intro _ _; rfl) (hpl : (backTo pos (starEach es X.env)).any (·.1) = false := by rfl) : PFD X fl (.Call (.Name x p) (e :: es) [] pos) fl' (eCall1 fn as i) :=
  ⟨isv_call1, h.sub, (pe_call F hr hg hm hk hb .nil pass0 h.run hdb (he _ _) hpl).imp fun σ H Q ⟨ε, O, d, ε', r, em, kk⟩ => call1_core h hi hq h1 r em fun v H' O' r' s' z => by
    rw [if_pos rfl] at z
    obtain ⟨a, rfl, o, t, n, ap⟩ := z
    exact kk a H' O' r' s' o t ap (.inl n)⟩
end
end
end L2.VS

/-! Operators, comparisons, built-ins over trees. -/
namespace L2.VS
open PySem PySem.Spec PyProof.Rows

section
variable {KF : PySem.W.Frag} {H H' H1 H2 : Hp} {O O' O1 O2 : Addr → Prop} {v : V} {d : D} {ds : List D}
theorem repR_non (h : RepR KF H O v .non) : v = .non := by
  rcases h with h | ⟨a, e, o, t⟩
  · simpa [Rep] using h
  · exact t.elim
theorem repR_bl {b : Bool} (h : RepR KF H O v (.bl b)) : v = .bl b := by
  rcases h with h | ⟨a, e, o, t⟩
  · simpa [Rep] using h
  · exact t.elim
theorem repR_int {i : Int} (h : RepR KF H O v (.int i)) : v = .int i := by
  rcases h with h | ⟨a, e, o, t⟩
  · simpa [Rep] using h
  · exact t.elim
theorem repR_str {x : List Nat} (h : RepR KF H O v (.str x)) : v = .str ⟨x.toArray⟩ ∧ strOkL x = true := by
  rcases h with h | ⟨a, e, o, t⟩
  · simpa [Rep] using h
  · exact t.elim
theorem repR_lst (h : RepR KF H O v (.lst ds)) : ∃ a vs, v = .ref a ∧ H a = some (.lst vs) ∧ Reps KF H O vs ds := by
  rcases h with h | ⟨a, e, o, vs, q, w⟩
  · simp only [Rep] at h
    obtain ⟨a, vs, e, _, q, w⟩ := h
    exact ⟨a, vs, e, q, w⟩
  · exact ⟨a, vs, e, q, w⟩
theorem repR_tup (h : RepR KF H O v (.tup ds)) : ∃ a vs, v = .ref a ∧ SqT KF H a vs ∧ Reps KF H O vs ds := by
  rcases h with h | ⟨a, e, o, t⟩
  · simp only [Rep] at h
    obtain ⟨a, vs, e, q, w⟩ := h
    exact ⟨a, vs, e, q.seq, w⟩
  · exact t.elim
theorem repR_fz (h : RepR KF H O v (.fz ds)) : ∃ a vs, v = .ref a ∧ SqL KF H a vs ∧ Reps KF H O vs ds := by
  rcases h with h | ⟨a, e, o, t⟩
  · simp only [Rep] at h
    obtain ⟨a, vs, e, q, w⟩ := h
    exact ⟨a, vs, e, q.seq, w⟩
  · exact t.elim
theorem repR_dic {t : Bool} {ks : List DKey} (h : RepR KF H O v (.dic t ks ds)) : ∃ a vs o, v = .ref a ∧ dicO t ks vs = some o ∧ Rd H a o ∧ ks.length = vs.length ∧ Reps KF H O vs ds := by
  rcases h with h | ⟨a, e, o, vs, u, eo, q, l, w⟩
  · simp only [Rep] at h
    obtain ⟨a, vs, o, e, _, eo, q, l, w⟩ := h
    exact ⟨a, vs, o, e, eo, q, l, w⟩
  · exact ⟨a, vs, u, e, eo, .inl q, l, w⟩
/-- a new list, a new tuple -/
theorem rep_lst {p : Addr} {vs : List V} (hp : H p = none) (dm : Dom H O) (w : Reps KF H O vs ds) : Rep KF (upd H p (.lst vs)) O (.ref p) (.lst ds) := by
  simp only [Rep]
  exact ⟨p, vs, rfl, fun z => dm p z hp, upd_same, w.stay (Stay.laid hp)⟩
theorem rep_tup {p : Addr} {vs : List V} (hp : H p = none) (dm : Dom H O) (w : Reps KF H O vs ds) : Rep KF (upd H p (.tup vs)) O (.ref p) (.tup ds) := by
  simp only [Rep]
  exact ⟨p, vs, rfl, ⟨fun z => dm p z hp, upd_same⟩, w.stay (Stay.laid hp)⟩
theorem top_lst {p : Addr} {vs : List V} (hp : H p = none) (w : Reps KF H O vs ds) : Top KF (upd H p (.lst vs)) (fun b => O b ∨ b = p) p (.lst ds) :=
  ⟨vs, upd_same, w.stay ⟨fun b u e _ => by rw [upd_ne (ne_of_none e hp)]; exact e, fun b h => h.elim .inl fun z => .inr (by rw [z]; exact hp)⟩⟩
theorem rep_int {i : Int} : Rep KF H O (.int i) (.int i) := by simp [Rep]
theorem rep_bl {b : Bool} : Rep KF H O (.bl b) (.bl b) := by simp [Rep]
theorem rep_non : Rep KF H O .non .non := by simp [Rep]
theorem rep_str {x : List Nat} (h : strOkL x = true) : Rep KF H O (.str ⟨x.toArray⟩) (.str x) := by simp [Rep, h]
end

/-! ### operators -/
def lenOk (n : Nat) : Bool := decide (n ≤ 16777216)
theorem lenOk_of {n : Nat} (h : lenOk n = true) : n ≤ sizeLine := by
  rw [sizeLine_eq]; exact of_decide_eq_true h
def dAdd : D → D → Option D
  | .int i, .int j => some (.int (i + j))
  | .str x, .str y => if lenOk (x.length + y.length) = true then some (.str (x ++ y)) else none
  | .lst x, .lst y => if lenOk (x.length + y.length) = true then some (.lst (x ++ y)) else none
  | .tup x, .tup y => if lenOk (x.length + y.length) = true then some (.tup (x ++ y)) else none
  | _, _ => none
def dAddL : D → D → Option D
  | .lst x, .lst y => if lenOk (x.length + y.length) = true then some (.lst (x ++ y)) else none
  | _, _ => none
def dSub : D → D → Option D
  | .int i, .int j => some (.int (i - j))
  | _, _ => none
def smallI (i : Int) : Bool := decide (-18446744073709551616 < i) && decide (i < 18446744073709551616)
def mulOk (i j : Int) : Bool := smallI i || smallI j || decide (i.natAbs.log2 + j.natAbs.log2 < 1000000)
def dMul : D → D → Option D
  | .int i, .int j => if mulOk i j = true then some (.int (i * j)) else none
  | _, _ => none
def divOk (j : Int) : Bool := decide (j ≠ 0) && (decide (j.natAbs.log2 < 9000) || decide (j.natAbs < 1073741824))
theorem op_fdivX {X : Cx} : OpR X (binaryOp .FloorDiv) (rI (fun _ j => j ≠ 0 ∧ j.natAbs.log2 < 9000) fun i j => .int (i.fdiv j)) := opI fun _ _ _ _ _ _ _ hc q => floordiv_int hc.1 q (.inl (PyProof.noPylong_of_log2 hc.2))
def dFdiv : D → D → Option D
  | .int i, .int j => if divOk j = true then some (.int (i.fdiv j)) else none
  | _, _ => none
def dMod : D → D → Option D
  | .int i, .int j => if j ≠ 0 then some (.int (i.fmod j)) else none
  | _, _ => none
def powOk (i j : Int) : Bool := decide (0 ≤ j) && decide (j ≤ 1000000) && decide (i.natAbs < 18446744073709551616)
def dPow : D → D → Option D
  | .int i, .int j => if powOk i j = true then some (.int (i ^ j.toNat)) else none
  | _, _ => none
def dShl : D → D → Option D
  | .int i, .int j => if powOk i j = true then some (.int (i * 2 ^ j.toNat)) else none
  | _, _ => none
def dShr : D → D → Option D
  | .int i, .int j => if 0 ≤ j then some (.int (i / 2 ^ j.toNat)) else none
  | _, _ => none
def dAnd : D → D → Option D
  | .int i, .int j => some (.int (Builtin.bitAnd i j))
  | _, _ => none
def dNeg : D → Option D
  | .int i => some (.int (-i))
  | _ => none
section
variable {KF : PySem.W.Frag} {fl fl' fl1 fl2 : List Fl} {X : Cx} {e a b : Expr} {m ma mb : M} {pos : Pos} {op : Operator} {cop : CmpOp}

theorem ped_op {r : R2} {f : D → D → Option D} (ho : OpR X (binaryOp op) r)
    (hr : ∀ v u d e z H O Q, Dom H O → RepR X.K H O v d → RepR X.K H O u e → f d e = some z → (∀ v' H', Same H H' → Rep X.K H' O v' z → Q v' H') → r v u H Q) (ha : POD X fl a fl1 ma) (hb : POD X fl1 b fl2 mb) : PED X fl (.BinOp a op b pos) fl2 (e2 f ma mb) :=
  ⟨isv_e2, ha.sub.trans hb.sub, (pe_op ho ha.run hb.run).imp fun σ H Q h => bin_imp ha.sub hb.sub hr h⟩
theorem pfd_op {r : R2} {f : D → D → Option D} (ho : OpR X (binaryOp op) r)
    (hr : ∀ v u d e z H O Q, Dom H O → RepR X.K H O v d → RepR X.K H O u e → f d e = some z → (∀ p H', H p = none → Same H H' → Top X.K H' (fun b => O b ∨ b = p) p z → Q (.ref p) H') → r v u H Q) (ha : POD X fl a fl1 ma) (hb : POD X fl1 b fl2 mb) : PFD X fl (.BinOp a op b pos) fl2 (e2 f ma mb) :=
  ⟨isv_e2, ha.sub.trans hb.sub, (pe_op ho ha.run hb.run).imp fun σ H Q h => bin_impF ha.sub hb.sub hr h⟩
theorem str_append {x y : List Nat} : (⟨x.toArray⟩ : Str) ++ (⟨y.toArray⟩ : Str) = ⟨(x ++ y).toArray⟩ := by
  show Str.append _ _ = _
  unfold Str.append
  simp
theorem strOk_append {x y : List Nat} (h : strOkL x = true) (h2 : strOkL y = true) : strOkL (x ++ y) = true := by
  unfold strOkL at *
  rw [List.all_append, h, h2]; rfl
theorem str_len {x : List Nat} : (⟨x.toArray⟩ : Str).length = x.length := by
  show x.toArray.size = _
  simp
theorem ped_add (ha : POD X fl a fl1 ma) (hb : POD X fl1 b fl2 mb) : PED X fl (.BinOp a .Add b pos) fl2 (e2 dAdd ma mb) :=
  ped_op (OpR.or op_add (OpR.or op_add_str (OpR.or op_cat op_catA))) (fun v u d e z H O Q dm hv hu ef k => by
    cases d <;> cases e <;> simp only [dAdd] at ef <;> try (cases ef; done)
    · cases ef
      exact .inl ⟨_, _, repR_int hv, repR_int hu, k _ H (Same.refl H) rep_int⟩
    · split at ef
      · rename_i hl
        cases ef
        obtain ⟨e1, o1⟩ := repR_str hv
        obtain ⟨e2, o2⟩ := repR_str hu
        refine .inr (.inl ⟨_, _, e1, e2, ?_, k _ H (Same.refl H) ?_⟩)
        · rw [str_len, str_len]; exact lenOk_of hl
        · rw [str_append]; exact rep_str (strOk_append o1 o2)
      · cases ef
    · split at ef
      · rename_i hl
        cases ef
        obtain ⟨p, vs, e1, q1, w1⟩ := repR_lst hv
        obtain ⟨p2, us, e2, q2, w2⟩ := repR_lst hu
        refine .inr (.inr (.inl ⟨p, p2, vs, us, e1, e2, q1, q2, ?_, fun n hn => k _ _ (same_upd hn) (rep_lst hn dm (w1.append w2))⟩))
        rw [w1.length, w2.length]; exact lenOk_of hl
      · cases ef
    · split at ef
      · rename_i hl
        cases ef
        obtain ⟨p, vs, e1, q1, w1⟩ := repR_tup hv
        obtain ⟨p2, us, e2, q2, w2⟩ := repR_tup hu
        refine .inr (.inr (.inr ⟨p, p2, vs, us, e1, e2, q1, q2, ?_, fun z => ?_, fun n z => ?_, fun n1 n2 n hn => k _ _ (same_upd hn) (rep_tup hn dm (w1.append w2))⟩))
        · rw [w1.length, w2.length]; exact lenOk_of hl
        · subst z
          have : _ = [] := List.length_eq_zero_iff.mp (w1.length.symm.trans rfl)
          subst this
          rcases hu with hu | ⟨c, _, _, t⟩
          · refine k _ H (Same.refl H) ?_
            rw [← e2]
            exact hu
          · exact t.elim
        · subst z
          have : _ = [] := List.length_eq_zero_iff.mp (w2.length.symm.trans rfl)
          subst this
          rcases hv with hv | ⟨c, _, _, t⟩
          · refine k _ H (Same.refl H) ?_
            rw [← e1, List.append_nil]
            exact hv
          · exact t.elim
      · cases ef) ha hb
theorem pfd_addL (ha : POD X fl a fl1 ma) (hb : POD X fl1 b fl2 mb) : PFD X fl (.BinOp a .Add b pos) fl2 (e2 dAddL ma mb) :=
  pfd_op op_cat (fun v u d e z H O Q dm hv hu ef k => by
    cases d <;> cases e <;> simp only [dAddL] at ef <;> try (cases ef; done)
    split at ef
    · rename_i hl
      cases ef
      obtain ⟨p, vs, e1, q1, w1⟩ := repR_lst hv
      obtain ⟨p2, us, e2, q2, w2⟩ := repR_lst hu
      refine ⟨p, p2, vs, us, e1, e2, q1, q2, ?_, fun n hn => k _ _ hn (same_upd hn) (top_lst hn (w1.append w2))⟩
      rw [w1.length, w2.length]; exact lenOk_of hl
    · cases ef) ha hb
theorem ped_sub (ha : POD X fl a fl1 ma) (hb : POD X fl1 b fl2 mb) : PED X fl (.BinOp a .Sub b pos) fl2 (e2 dSub ma mb) :=
  ped_op op_sub (fun v u d e z H O Q dm hv hu ef k => by
    cases d <;> cases e <;> simp only [dSub] at ef <;> try (cases ef; done)
    cases ef
    exact ⟨_, _, repR_int hv, repR_int hu, k _ H (Same.refl H) rep_int⟩) ha hb
theorem ped_mul (ha : POD X fl a fl1 ma) (hb : POD X fl1 b fl2 mb) : PED X fl (.BinOp a .Mult b pos) fl2 (e2 dMul ma mb) :=
  ped_op (OpR.or op_mul op_mulW) (fun v u d e z H O Q dm hv hu ef k => by
    cases d <;> cases e <;> simp only [dMul] at ef <;> try (cases ef; done)
    split at ef
    · rename_i hc
      cases ef
      simp only [mulOk, smallI, Bool.or_eq_true, Bool.and_eq_true, decide_eq_true_eq] at hc
      rcases hc with (hc | hc) | hc
      · exact .inl ⟨_, _, repR_int hv, repR_int hu, .inl ⟨by omega, by omega⟩, k _ H (Same.refl H) rep_int⟩
      · exact .inl ⟨_, _, repR_int hv, repR_int hu, .inr ⟨by omega, by omega⟩, k _ H (Same.refl H) rep_int⟩
      · exact .inr ⟨_, _, repR_int hv, repR_int hu, hc, k _ H (Same.refl H) rep_int⟩
    · cases ef) ha hb
theorem ped_fdiv (ha : POD X fl a fl1 ma) (hb : POD X fl1 b fl2 mb) : PED X fl (.BinOp a .FloorDiv b pos) fl2 (e2 dFdiv ma mb) :=
  ped_op (OpR.or op_fdivX op_fdivN) (fun v u d e z H O Q dm hv hu ef k => by
    cases d <;> cases e <;> simp only [dFdiv] at ef <;> try (cases ef; done)
    split at ef
    · rename_i i j hc
      cases ef
      simp only [divOk, Bool.or_eq_true, Bool.and_eq_true, decide_eq_true_eq] at hc
      obtain ⟨h0, hc | hc⟩ := hc
      · exact .inl ⟨_, _, repR_int hv, repR_int hu, ⟨h0, hc⟩, k _ H (Same.refl H) rep_int⟩
      · exact .inr ⟨_, _, repR_int hv, repR_int hu, ⟨h0, hc⟩, k _ H (Same.refl H) rep_int⟩
    · cases ef) ha hb
theorem ped_mod (ha : POD X fl a fl1 ma) (hb : POD X fl1 b fl2 mb) : PED X fl (.BinOp a .Mod b pos) fl2 (e2 dMod ma mb) :=
  ped_op op_modN (fun v u d e z H O Q dm hv hu ef k => by
    cases d <;> cases e <;> simp only [dMod] at ef <;> try (cases ef; done)
    split at ef
    · rename_i hc
      cases ef
      exact ⟨_, _, repR_int hv, repR_int hu, hc, k _ H (Same.refl H) rep_int⟩
    · cases ef) ha hb
theorem powOk_of {i j : Int} (h : powOk i j = true) : CPow i j := by
  simp only [powOk, Bool.and_eq_true, decide_eq_true_eq] at h
  exact ⟨h.1.1, h.1.2, by omega⟩
theorem ped_pow (ha : POD X fl a fl1 ma) (hb : POD X fl1 b fl2 mb) : PED X fl (.BinOp a .Pow b pos) fl2 (e2 dPow ma mb) :=
  ped_op op_pow (fun v u d e z H O Q dm hv hu ef k => by
    cases d <;> cases e <;> simp only [dPow] at ef <;> try (cases ef; done)
    split at ef
    · rename_i hc
      cases ef
      exact ⟨_, _, repR_int hv, repR_int hu, powOk_of hc, k _ H (Same.refl H) rep_int⟩
    · cases ef) ha hb
theorem ped_shl (ha : POD X fl a fl1 ma) (hb : POD X fl1 b fl2 mb) : PED X fl (.BinOp a .LShift b pos) fl2 (e2 dShl ma mb) :=
  ped_op op_shl (fun v u d e z H O Q dm hv hu ef k => by
    cases d <;> cases e <;> simp only [dShl] at ef <;> try (cases ef; done)
    split at ef
    · rename_i hc
      cases ef
      exact ⟨_, _, repR_int hv, repR_int hu, powOk_of hc, k _ H (Same.refl H) rep_int⟩
    · cases ef) ha hb
theorem ped_shr (ha : POD X fl a fl1 ma) (hb : POD X fl1 b fl2 mb) : PED X fl (.BinOp a .RShift b pos) fl2 (e2 dShr ma mb) :=
  ped_op op_shr (fun v u d e z H O Q dm hv hu ef k => by
    cases d <;> cases e <;> simp only [dShr] at ef <;> try (cases ef; done)
    split at ef
    · rename_i hc
      cases ef
      exact ⟨_, _, repR_int hv, repR_int hu, hc, k _ H (Same.refl H) rep_int⟩
    · cases ef) ha hb
theorem ped_band (ha : POD X fl a fl1 ma) (hb : POD X fl1 b fl2 mb) : PED X fl (.BinOp a .BitAnd b pos) fl2 (e2 dAnd ma mb) :=
  ped_op op_and (fun v u d e z H O Q dm hv hu ef k => by
    cases d <;> cases e <;> simp only [dAnd] at ef <;> try (cases ef; done)
    cases ef
    exact ⟨_, _, repR_int hv, repR_int hu, k _ H (Same.refl H) rep_int⟩) ha hb
theorem ped_neg (ha : POD X fl a fl1 ma) : PED X fl (.UnaryOp .USub a pos) fl1 (e1 dNeg ma) :=
  ⟨isv_e1, ha.sub, (pe_un un_neg ha.run).imp fun σ H Q h => un_imp (fun v d z H O Q dm hv ef k => by
    cases d <;> simp only [dNeg] at ef <;> try (cases ef; done)
    cases ef
    exact ⟨_, repR_int hv, k _ H (Same.refl H) rep_int⟩) h⟩
end
end L2.VS

/-! Comparisons, tests, subscripts, lengths over trees. -/
namespace L2.VS
open PySem PySem.Spec PyProof.Rows

/-! ### equality -/
mutual
def toPy : D → PyData
  | .non => .none
  | .bl b => .bool b
  | .int i => .int i
  | .str x => .str ⟨x.toArray⟩
  | .lst xs => .list (toPys xs)
  | .fz xs => .list (toPys xs)
  | .tup xs => .tuple (toPys xs)
  | .dic _ _ _ => .dict []
  | .set _ _ => .dict []
def toPys : List D → List PyData
  | [] => []
  | x :: xs => toPy x :: toPys xs
end
mutual
/-- what may be compared: no dicts, not deeper than n -/
def canEq : D → Nat → Bool
  | .non, _ => true
  | .bl _, _ => true
  | .int _, _ => true
  | .str _, _ => true
  | .lst xs, n => decide (0 < n) && canEqs xs (n - 1)
  | .fz xs, n => decide (0 < n) && canEqs xs (n - 1)
  | .tup xs, n => decide (0 < n) && canEqs xs (n - 1)
  | .dic _ _ _, _ => false
  | .set _ _, _ => false
def canEqs : List D → Nat → Bool
  | [], _ => true
  | x :: xs, n => canEq x n && canEqs xs n
end
mutual
/-- == -/
def deq : D → D → Bool
  | .non, .non => true
  | .bl a, .bl b => a == b
  | .bl a, .int j => (if a = true then 1 else 0) == j
  | .int i, .bl b => i == (if b = true then 1 else 0)
  | .int i, .int j => i == j
  | .str x, .str y => decide (x = y)
  | .lst xs, .lst ys => deqs xs ys
  | .lst xs, .fz ys => deqs xs ys
  | .fz xs, .lst ys => deqs xs ys
  | .fz xs, .fz ys => deqs xs ys
  | .tup xs, .tup ys => deqs xs ys
  | _, _ => false
def deqs : List D → List D → Bool
  | [], [] => true
  | x :: xs, y :: ys => deq x y && deqs xs ys
  | _, _ => false
end
mutual
theorem deq_eqv : ∀ d e : D, PyData.eqv (toPy d) (toPy e) = deq d e
  | .non, e => by cases e <;> simp [toPy, PyData.eqv, deq]
  | .bl a, e => by cases e <;> simp [toPy, PyData.eqv, deq]
  | .int a, e => by cases e <;> simp [toPy, PyData.eqv, deq]
  | .str a, e => by
    cases e <;> simp [toPy, PyData.eqv, deq]
    rename_i y
    by_cases h : a = y
    · simp [h]
    · simp [h]
  | .lst xs, e => by
    cases e <;> simp [toPy, PyData.eqv, deq, deqs_eqv xs]
  | .fz xs, e => by
    cases e <;> simp [toPy, PyData.eqv, deq, deqs_eqv xs]
  | .tup xs, e => by
    cases e <;> simp [toPy, PyData.eqv, deq, deqs_eqv xs]
  | .dic _ _ _, e => by cases e <;> simp [toPy, PyData.eqv, deq]
  | .set _ _, e => by cases e <;> simp [toPy, PyData.eqv, deq]
theorem deqs_eqv : ∀ ds es : List D, PyData.eqvAll (toPys ds) (toPys es) = deqs ds es
  | [], [] => by simp [toPys, PyData.eqvAll, deqs]
  | [], _ :: _ => by simp [toPys, PyData.eqvAll, deqs]
  | _ :: _, [] => by simp [toPys, PyData.eqvAll, deqs]
  | x :: xs, y :: ys => by simp [toPys, PyData.eqvAll, deqs, deq_eqv x y, deqs_eqv xs ys]
end
section
variable {KF : PySem.W.Frag} {H H' H1 H2 : Hp} {O O' O1 O2 : Addr → Prop} {v : V} {d : D} {ds : List D}
mutual
theorem canEq_ok : ∀ (d : D) (n : Nat) (v : V), canEq d n = true → Rep KF H O v d → (toPy d).canLay0 = true ∧ (toPy d).depth ≤ n ∧ Dp KF H v (toPy d)
  | .non, n, v, _, h => by
    simp only [Rep] at h; subst h
    exact ⟨by simp [toPy, PyData.canLay0], by simp [toPy, PyData.depth], by simpa [toPy] using Dp.non⟩
  | .bl b, n, v, _, h => by
    simp only [Rep] at h; subst h
    exact ⟨by simp [toPy, PyData.canLay0], by simp [toPy, PyData.depth], by simpa [toPy] using Dp.bl b⟩
  | .int i, n, v, _, h => by
    simp only [Rep] at h; subst h
    exact ⟨by simp [toPy, PyData.canLay0], by simp [toPy, PyData.depth], by simpa [toPy] using Dp.int i⟩
  | .str x, n, v, _, h => by
    simp only [Rep] at h
    obtain ⟨h, ok⟩ := h
    subst h
    refine ⟨?_, by simp [toPy, PyData.depth], by simpa [toPy] using Dp.str _⟩
    simp only [toPy, PyData.canLay0]
    simpa [strOkL, PyData.strOk] using ok
  | .lst xs, n, v, c, h => by
    simp only [canEq, Bool.and_eq_true, decide_eq_true_eq] at c
    simp only [Rep] at h
    obtain ⟨a, vs, e, _, q, w⟩ := h
    subst e
    obtain ⟨h1, h2, h3⟩ := canEqs_ok xs (n - 1) vs c.2 w
    refine ⟨by simpa [toPy, PyData.canLay0] using h1, ?_, ?_⟩
    · simp only [toPy, PyData.depth]; omega
    · simp only [toPy]; exact .lst (.of q) h3
  | .fz xs, n, v, c, h => by
    simp only [canEq, Bool.and_eq_true, decide_eq_true_eq] at c
    simp only [Rep] at h
    obtain ⟨a, vs, e, q, w⟩ := h
    subst e
    obtain ⟨h1, h2, h3⟩ := canEqs_ok xs (n - 1) vs c.2 w
    refine ⟨by simpa [toPy, PyData.canLay0] using h1, ?_, ?_⟩
    · simp only [toPy, PyData.depth]; omega
    · simp only [toPy]; exact .lst q.seq h3
  | .tup xs, n, v, c, h => by
    simp only [canEq, Bool.and_eq_true, decide_eq_true_eq] at c
    simp only [Rep] at h
    obtain ⟨a, vs, e, q, w⟩ := h
    subst e
    obtain ⟨h1, h2, h3⟩ := canEqs_ok xs (n - 1) vs c.2 w
    refine ⟨by simpa [toPy, PyData.canLay0] using h1, ?_, ?_⟩
    · simp only [toPy, PyData.depth]; omega
    · simp only [toPy]; exact .tup q.seq h3
  | .dic _ _ _, n, v, c, h => by simp [canEq] at c
  | .set _ _, n, v, c, h => by simp [canEq] at c
theorem canEqs_ok : ∀ (ds : List D) (n : Nat) (vs : List V), canEqs ds n = true → Reps KF H O vs ds → PyData.canLayAll0 (toPys ds) = true ∧ PyData.depthAll (toPys ds) ≤ n ∧ DpAll KF H vs (toPys ds)
  | [], n, [], _, _ => ⟨by simp [toPys, PyData.canLayAll0], by simp [toPys, PyData.depthAll], by simpa [toPys] using DpAll.nil⟩
  | d :: ds, n, v :: vs, c, h => by
    simp only [canEqs, Bool.and_eq_true] at c
    simp only [Reps] at h
    obtain ⟨a1, a2, a3⟩ := canEq_ok d n v c.1 h.1
    obtain ⟨b1, b2, b3⟩ := canEqs_ok ds n vs c.2 h.2
    refine ⟨by simp [toPys, PyData.canLayAll0, a1, b1], ?_, ?_⟩
    · simp only [toPys, PyData.depthAll]; omega
    · simp only [toPys]; exact .cons a3 b3
  | [], _, _ :: _, _, h => by simp [Reps] at h
  | _ :: _, _, [], _, h => by simp [Reps] at h
end
theorem canEq_dp {n : Nat} (hn : n ≤ 64) (c : canEq d n = true) (h : RepR KF H O v d) : SeqAt.shaped (toPy d) = true ∧ Dp KF H v (toPy d) := by
  have sh : ∀ {p : PyData}, p.canLay0 = true → p.depth ≤ n → SeqAt.shaped p = true := fun {p} h1 h2 => by
    unfold SeqAt.shaped
    rw [h1, Bool.true_and]
    exact decide_eq_true (by omega)
  rcases h with h | ⟨a, e, o, t⟩
  · obtain ⟨h1, h2, h3⟩ := canEq_ok d n v c h
    exact ⟨sh h1 h2, h3⟩
  · cases d with
    | lst xs =>
      simp only [canEq, Bool.and_eq_true, decide_eq_true_eq] at c
      obtain ⟨vs, q, w⟩ := t
      subst e
      obtain ⟨h1, h2, h3⟩ := canEqs_ok xs (n - 1) vs c.2 w
      refine ⟨sh (by simpa [toPy, PyData.canLay0] using h1) (by simp only [toPy, PyData.depth]; omega), ?_⟩
      simp only [toPy]; exact .lst (.of q) h3
    | dic _ _ _ => simp [canEq] at c
    | _ => exact t.elim
end

/-! ### comparisons -/
def dEq (x y : D) : Option D := if (canEq x 60 && canEq y 60) = true then some (.bl (deq x y)) else none
def dNe (x y : D) : Option D := if (canEq x 60 && canEq y 60) = true then some (.bl (!deq x y)) else none
def lexLt : List Nat → List Nat → Bool
  | [], [] => false
  | [], _ :: _ => true
  | _ :: _, [] => false
  | x :: xs, y :: ys => if x = y then lexLt xs ys else decide (x < y)
def dLt : D → D → Option D
  | .int i, .int j => some (.bl (decide (i < j)))
  | _, _ => none
def dLe : D → D → Option D
  | .int i, .int j => some (.bl (decide (i ≤ j)))
  | _, _ => none
def dGt : D → D → Option D
  | .int i, .int j => some (.bl (decide (j < i)))
  | _, _ => none
def dGe : D → D → Option D
  | .int i, .int j => some (.bl (decide (j ≤ i)))
  | _, _ => none
/-- x is b, a bool or None -/
def isNonB : D → Bool
  | .non => true
  | _ => false
def isBlB (b : Bool) : D → Bool
  | .bl c => c == b
  | _ => false
def dIs (x y : D) : Option D := match y with
  | .non => some (.bl (isNonB x))
  | .bl b => some (.bl (isBlB b x))
  | _ => none
def dIsNot (x y : D) : Option D := match y with
  | .non => some (.bl (!isNonB x))
  | .bl b => some (.bl (!isBlB b x))
  | _ => none
/-- x in y: a list of data, a text in a text -/
def oneC : D → Option Nat
  | .str [c] => some c
  | _ => none
def dIn (x y : D) : Option D := match y with
  | .lst ys => if (canEq x 60 && canEq y 60) = true then some (.bl (ys.any fun z => deq z x)) else none
  | .fz ys => if (canEq x 60 && canEq y 60) = true then some (.bl (ys.any fun z => deq z x)) else none
  | .str z => (oneC x).bind fun c => some (.bl (decide (c ∈ z)))
  | _ => none
def dNotIn (x y : D) : Option D := match y with
  | .lst ys => if (canEq x 60 && canEq y 60) = true then some (.bl (!ys.any fun z => deq z x)) else none
  | .fz ys => if (canEq x 60 && canEq y 60) = true then some (.bl (!ys.any fun z => deq z x)) else none
  | .str z => (oneC x).bind fun c => some (.bl (!decide (c ∈ z)))
  | _ => none
theorem oneC_eq {x : D} {c : Nat} (h : oneC x = some c) : x = .str [c] := by
  unfold oneC at h
  split at h
  · cases h; rfl
  · cases h
section
variable {KF : PySem.W.Frag} {fl fl' fl1 fl2 fl3 : List Fl} {X : Cx} {e a b c : Expr} {m ma mb mc : M} {t ta tb : T} {pos : Pos} {cop cop' : CmpOp} {f f' : D → D → Option D}

/-- a comparison by values and its function over trees -/
structure CmpD (X : Cx) (cop : CmpOp) (f : D → D → Option D) : Prop where
  ex : ∃ r : R2, OpR X (compareOp cop) r ∧ ∀ v u d e z H O Q, Dom H O → RepR X.K H O v d → RepR X.K H O u e → f d e = some z → (∃ k, z = .bl k) ∧ ((∀ v' H', Same H H' → Rep X.K H' O v' z → Q v' H') → r v u H Q)
theorem cmp_lt : CmpD X .Lt dLt := ⟨_, op_lt, fun v u d e z H O Q dm hv hu ef => by
  cases d <;> cases e <;> simp only [dLt] at ef <;> try (cases ef; done)
  cases ef
  exact ⟨⟨_, rfl⟩, fun k => ⟨_, _, repR_int hv, repR_int hu, k _ H (Same.refl H) rep_bl⟩⟩⟩
theorem cmp_le : CmpD X .LtE dLe := ⟨_, op_le, fun v u d e z H O Q dm hv hu ef => by
  cases d <;> cases e <;> simp only [dLe] at ef <;> try (cases ef; done)
  cases ef
  exact ⟨⟨_, rfl⟩, fun k => ⟨_, _, repR_int hv, repR_int hu, k _ H (Same.refl H) rep_bl⟩⟩⟩
theorem cmp_gt : CmpD X .Gt dGt := ⟨_, op_gt, fun v u d e z H O Q dm hv hu ef => by
  cases d <;> cases e <;> simp only [dGt] at ef <;> try (cases ef; done)
  cases ef
  exact ⟨⟨_, rfl⟩, fun k => ⟨_, _, repR_int hv, repR_int hu, k _ H (Same.refl H) rep_bl⟩⟩⟩
theorem cmp_ge : CmpD X .GtE dGe := ⟨_, op_ge, fun v u d e z H O Q dm hv hu ef => by
  cases d <;> cases e <;> simp only [dGe] at ef <;> try (cases ef; done)
  cases ef
  exact ⟨⟨_, rfl⟩, fun k => ⟨_, _, repR_int hv, repR_int hu, k _ H (Same.refl H) rep_bl⟩⟩⟩
theorem cmp_eq (hu : X.A.units + 64 < cLine) : CmpD X .Eq dEq := ⟨_, op_eqD hu, fun v u d e z H O Q dm hv hu ef => by
  unfold dEq at ef
  split at ef
  · rename_i hc
    rw [Bool.and_eq_true] at hc
    cases ef
    obtain ⟨s1, p1⟩ := canEq_dp (by omega) hc.1 hv
    obtain ⟨s2, p2⟩ := canEq_dp (by omega) hc.2 hu
    exact ⟨⟨_, rfl⟩, fun k => ⟨_, _, p1, p2, s1, s2, k _ H (Same.refl H) (by rw [deq_eqv]; exact rep_bl)⟩⟩
  · cases ef⟩
theorem cmp_ne (hu : X.A.units + 64 < cLine) : CmpD X .NotEq dNe := ⟨_, op_neD hu, fun v u d e z H O Q dm hv hu ef => by
  unfold dNe at ef
  split at ef
  · rename_i hc
    rw [Bool.and_eq_true] at hc
    cases ef
    obtain ⟨s1, p1⟩ := canEq_dp (by omega) hc.1 hv
    obtain ⟨s2, p2⟩ := canEq_dp (by omega) hc.2 hu
    exact ⟨⟨_, rfl⟩, fun k => ⟨_, _, p1, p2, s1, s2, k _ H (Same.refl H) (by rw [deq_eqv]; exact rep_bl)⟩⟩
  · cases ef⟩
theorem any_toPys (x : D) : ∀ ys : List D, ((toPys ys).any fun z => PyData.eqv z (toPy x)) = ys.any fun z => deq z x
  | [] => by simp [toPys]
  | y :: ys => by simp [toPys, deq_eqv, any_toPys x ys]
theorem cmp_in (hu : X.A.units + 65 < cLine) : CmpD X .In dIn := ⟨_, OpR.or (op_inD hu) op_in_sign, fun v u d e z H O Q dm hv hu ef => by
  cases e <;> simp only [dIn] at ef <;> try (cases ef; done)
  · simp only [Option.bind_eq_some_iff] at ef
    obtain ⟨c, h1, ef⟩ := ef
    cases ef
    have := oneC_eq h1
    subst this
    exact ⟨⟨_, rfl⟩, fun k => .inr ⟨c, _, (repR_str hv).1, (repR_str hu).1, k _ H (Same.refl H) rep_bl⟩⟩
  all_goals
    split at ef
    · rename_i hc
      rw [Bool.and_eq_true] at hc
      cases ef
      obtain ⟨s1, p1⟩ := canEq_dp (by omega) hc.1 hv
      obtain ⟨s2, p2⟩ := canEq_dp (by omega) hc.2 hu
      simp only [toPy] at s2 p2
      exact ⟨⟨_, rfl⟩, fun k => .inl ⟨_, _, p1, p2, s1, s2, k _ H (Same.refl H) (by rw [any_toPys]; exact rep_bl)⟩⟩
    · cases ef⟩
theorem cmp_notIn (hu : X.A.units + 65 < cLine) : CmpD X .NotIn dNotIn := ⟨_, OpR.or (op_notInD hu) op_notIn_sign, fun v u d e z H O Q dm hv hu ef => by
  cases e <;> simp only [dNotIn] at ef <;> try (cases ef; done)
  · simp only [Option.bind_eq_some_iff] at ef
    obtain ⟨c, h1, ef⟩ := ef
    cases ef
    have := oneC_eq h1
    subst this
    exact ⟨⟨_, rfl⟩, fun k => .inr ⟨c, _, (repR_str hv).1, (repR_str hu).1, k _ H (Same.refl H) rep_bl⟩⟩
  all_goals
    split at ef
    · rename_i hc
      rw [Bool.and_eq_true] at hc
      cases ef
      obtain ⟨s1, p1⟩ := canEq_dp (by omega) hc.1 hv
      obtain ⟨s2, p2⟩ := canEq_dp (by omega) hc.2 hu
      simp only [toPy] at s2 p2
      exact ⟨⟨_, rfl⟩, fun k => .inl ⟨_, _, p1, p2, s1, s2, k _ H (Same.refl H) (by rw [any_toPys]; exact rep_bl)⟩⟩
    · cases ef⟩
/-- is None, is True, is False -/
def rIsC : R2 := fun x y H Q => (y = .non ∨ ∃ b, y = .bl b) ∧ Q (.bl (decide (x = y))) H
def rIsNotC : R2 := fun x y H Q => (y = .non ∨ ∃ b, y = .bl b) ∧ Q (.bl (!decide (x = y))) H
theorem is_eq {x y : V} {v u : Value} (rx : RelV x v) (ry : RelV y u) (hy : y = .non ∨ ∃ b, y = .bl b) : plainIs v u = true ∧ (v == u) = decide (x = y) := by
  have hp : plainIs v u = true := by
    rcases hy with rfl | ⟨b, rfl⟩
    · cases ry
      cases v <;> first | rfl | (cases x <;> first | (obtain ⟨_, z⟩ := rx; cases z; done) | (cases rx; done))
    · cases ry
      cases v <;> first | rfl | (cases x <;> first | (obtain ⟨_, z⟩ := rx; cases z; done) | (cases rx; done))
  refine ⟨hp, ?_⟩
  by_cases h : x = y
  · subst h
    have : v = u := by
      rcases hy with rfl | ⟨b, rfl⟩
      · exact (show v = Value.none from rx).trans (show u = Value.none from ry).symm
      · exact (show v = Value.bool b from rx).trans (show u = Value.bool b from ry).symm
    rw [this]
    simp
  · rw [decide_eq_false h]
    rw [beq_eq_false_iff_ne]
    intro z
    subst z
    exact h (rx.inj ry)
theorem op_isC : OpR X (compareOp .Is) rIsC := by
  intro pins s σ H x y v u Q I rx ry h
  obtain ⟨hy, q⟩ := h
  obtain ⟨h1, h2⟩ := is_eq rx ry hy
  exact wpAny_is_plain h1 (by rw [h2]; exact ⟨.bl _, H, I, rfl, q⟩)
theorem op_isNotC : OpR X (compareOp .IsNot) rIsNotC := by
  intro pins s σ H x y v u Q I rx ry h
  obtain ⟨hy, q⟩ := h
  obtain ⟨h1, h2⟩ := is_eq rx ry hy
  exact wpAny_isNot_plain h1 (by rw [h2]; exact ⟨.bl _, H, I, rfl, q⟩)
theorem repR_is {KF : PySem.W.Frag} {H : Hp} {O : Addr → Prop} {v : V} {d : D} (h : RepR KF H O v d) : decide (v = .non) = isNonB d ∧ ∀ b, decide (v = .bl b) = isBlB b d := by
  cases d with
  | non => have e := repR_non h; subst e; exact ⟨by simp [isNonB], by simp [isBlB]⟩
  | bl c => have e := repR_bl h; subst e; exact ⟨by simp [isNonB], fun b => by cases c <;> cases b <;> decide⟩
  | int i => have e := repR_int h; subst e; exact ⟨by simp [isNonB], by simp [isBlB]⟩
  | str x => have e := (repR_str h).1; subst e; exact ⟨by simp [isNonB], by simp [isBlB]⟩
  | lst ds => obtain ⟨a, vs, e, _⟩ := repR_lst h; subst e; exact ⟨by simp [isNonB], by simp [isBlB]⟩
  | fz ds => obtain ⟨a, vs, e, _⟩ := repR_fz h; subst e; exact ⟨by simp [isNonB], by simp [isBlB]⟩
  | tup ds => obtain ⟨a, vs, e, _⟩ := repR_tup h; subst e; exact ⟨by simp [isNonB], by simp [isBlB]⟩
  | dic t ks ds => obtain ⟨a, vs, o, e, _⟩ := repR_dic h; subst e; exact ⟨by simp [isNonB], by simp [isBlB]⟩
  | set t ks =>
    rcases h with h | ⟨_, _, _, t⟩
    · simp [Rep] at h
    · exact t.elim
theorem cmp_is : CmpD X .Is dIs := ⟨_, op_isC, fun v u d e z H O Q dm hv hu ef => by
  have hi := repR_is hv
  cases e <;> simp only [dIs] at ef <;> try (cases ef; done)
  · cases ef
    refine ⟨⟨_, rfl⟩, fun k => ?_⟩
    rw [repR_non hu]
    exact ⟨.inl rfl, k _ H (Same.refl H) (by rw [hi.1]; exact rep_bl)⟩
  · cases ef
    refine ⟨⟨_, rfl⟩, fun k => ?_⟩
    rw [repR_bl hu]
    exact ⟨.inr ⟨_, rfl⟩, k _ H (Same.refl H) (by rw [hi.2]; exact rep_bl)⟩⟩
theorem cmp_isNot : CmpD X .IsNot dIsNot := ⟨_, op_isNotC, fun v u d e z H O Q dm hv hu ef => by
  have hi := repR_is hv
  cases e <;> simp only [dIsNot] at ef <;> try (cases ef; done)
  · cases ef
    refine ⟨⟨_, rfl⟩, fun k => ?_⟩
    rw [repR_non hu]
    exact ⟨.inl rfl, k _ H (Same.refl H) (by rw [hi.1]; exact rep_bl)⟩
  · cases ef
    refine ⟨⟨_, rfl⟩, fun k => ?_⟩
    rw [repR_bl hu]
    exact ⟨.inr ⟨_, rfl⟩, k _ H (Same.refl H) (by rw [hi.2]; exact rep_bl)⟩⟩
/-- a comparison as a value -/
theorem ped_cmp (hc : CmpD X cop f) (ha : POD X fl a fl1 ma) (hb : POD X fl1 b fl2 mb) (hm : behindInMarks cop b = false := by first | exact nomark _ | rfl) : PED X fl (.Compare a [cop] [b] pos) fl2 (e2 f ma mb) := by
  obtain ⟨r, ho, hr⟩ := hc.ex
  exact ⟨isv_e2, ha.sub.trans hb.sub, (pe_cmpR ho ha.run hb.run hm).imp fun σ H Q h => bin_imp ha.sub hb.sub (fun v u d e z H O Q dm hv hu ef => (hr v u d e z H O Q dm hv hu ef).2) h⟩
theorem tB_imp {KF : PySem.W.Frag} (iv : IsV m) {σ : St} {H : Hp} {Q : Bool → Hp → Prop} (h : tT KF fl fl' (VS.tB m) σ H Q) : tD KF fl fl' m σ H fun x H' => ∃ k, x = .bl k ∧ Q k H' := by
  obtain ⟨ε, O, b, ε', r, em, k⟩ := h
  simp only [VS.tB, Option.bind_eq_some_iff] at em
  obtain ⟨⟨d, ε1⟩, e1, em⟩ := em
  cases d with
  | bl c =>
    cases em
    refine ⟨ε, O, _, _, r, iv.val e1, fun v H' O' r' s' w => ?_⟩
    simp only [Rep] at w
    exact ⟨_, w, k H' O' r' s'⟩
  | _ => cases em
/-- .. as a test -/
theorem ptd_cmp (hc : CmpD X cop f) (ha : POD X fl a fl1 ma) (hb : POD X fl1 b fl2 mb) (hm : behindInMarks cop b = false := by first | exact nomark _ | rfl) : PTD X fl (.Compare a [cop] [b] pos) fl2 (VS.tB (e2 f ma mb)) := by
  obtain ⟨r, ho, hr⟩ := hc.ex
  refine ⟨ha.sub.trans hb.sub, (pt_cmpR ho ha.run hb.run hm).imp fun σ H Q h => ?_⟩
  have h2 := tB_imp isv_e2 h
  exact bin_imp ha.sub hb.sub (fun v u d e z H O Q dm hv hu ef => (hr v u d e z H O Q dm hv hu ef).2) h2
/-- any expression as a test -/
theorem truth_ok {KF : PySem.W.Frag} {H : Hp} {O : Addr → Prop} {v : V} {d : D} {k : Bool} (h : Rep KF H O v d) (e : truth d = some k) : TruV KF v H k := by
  cases d with
  | non => simp only [Rep] at h; subst h; cases e; rfl
  | bl c => simp only [Rep] at h; subst h; cases e; rfl
  | int i => simp only [Rep] at h; subst h; cases e; rfl
  | str x =>
    simp only [Rep] at h
    obtain ⟨h, _⟩ := h
    subst h
    simp only [truth] at e
    split at e
    · rename_i hl
      cases e
      refine ⟨by rw [str_len, sizeLine_eq]; exact hl, ?_⟩
      rw [str_len]
      cases x with
      | nil => rfl
      | cons x xs => simp; omega
    · cases e
  | lst ds =>
    simp only [Rep] at h
    obtain ⟨a, vs, rfl, _, q, w⟩ := h
    cases e
    refine .inl ⟨vs, .of q, ?_⟩
    have := w.length
    cases vs <;> cases ds <;> simp_all
  | fz ds =>
    simp only [Rep] at h
    obtain ⟨a, vs, rfl, q, w⟩ := h
    cases e
    refine .inl ⟨vs, q.seq, ?_⟩
    have := w.length
    cases vs <;> cases ds <;> simp_all
  | tup ds =>
    simp only [Rep] at h
    obtain ⟨a, vs, rfl, q, w⟩ := h
    cases e
    refine .inr (.inl ⟨vs, q.seq, ?_⟩)
    have := w.length
    cases vs <;> cases ds <;> simp_all
  | _ => cases e
theorem ptd_tru (h : PED X fl e fl1 m) (he : ∀ whole, isTrue e X.env whole = (do let v ← whole; standAt e.pos; holding [v] (truthy v)) := by intro _; rfl) : PTD X fl e fl1 (tTru m) := ⟨h.sub, (pt_truth h.run he).imp fun σ H Q ⟨ε, O, b, ε', r, em, k⟩ => by
  simp only [tTru, Option.bind_eq_some_iff] at em
  obtain ⟨⟨d, ε1⟩, e1, b', e2, em⟩ := em
  cases em
  exact ⟨ε, O, d, _, r, h.isv.val e1, fun v H' O' r' s' w => ⟨_, truth_ok w e2, k H' O' r' s'⟩⟩⟩
theorem ptd_not (h : PTD X fl a fl1 ta) : PTD X fl (.UnaryOp .Not a pos) fl1 (VS.tNot ta) := ⟨h.sub, (pt_not h.run).imp fun σ H Q ⟨ε, O, b, ε', r, em, k⟩ => by
  simp only [VS.tNot, Option.bind_eq_some_iff] at em
  obtain ⟨⟨d, ε1⟩, e1, em⟩ := em
  cases em
  exact ⟨ε, O, d, _, r, e1, k⟩⟩
theorem pwd_and1 (h : PTD X fl a fl1 ta) : PWD X fl (.BoolOp .And [a] pos) fl1 ta := ⟨h.sub, pw_and1 h.run⟩
theorem pwd_or1 (h : PTD X fl a fl1 ta) : PWD X fl (.BoolOp .Or [a] pos) fl1 ta := ⟨h.sub, pw_or1 h.run⟩
theorem ptd_pw (h : PWD X fl a fl1 ta) : PTD X fl a fl1 ta := ⟨h.sub, h.run.pt⟩
theorem pwd_and {rest : List Expr} (h : PTD X fl a fl ta) (h2 : PWD X fl (.BoolOp .And (b :: rest) pos) fl tb) : PWD X fl (.BoolOp .And (a :: b :: rest) pos) fl (VS.tAnd ta tb) := ⟨Subf.refl, (pw_and h.run h2.run).imp fun σ H Q ⟨ε, O, b, ε', r, em, k⟩ => by
  simp only [VS.tAnd, Option.bind_eq_some_iff] at em
  obtain ⟨⟨c, ε1⟩, e1, em⟩ := em
  refine ⟨ε, O, c, ε1, r, e1, fun H1 O1 r1 s1 => ?_⟩
  cases c with
  | true =>
    rw [if_pos rfl] at em
    exact iteT ⟨ε1, O1, b, ε', r1, em, fun H2 O2 r2 s2 => k H2 O2 r2 (s1.trans s2 Subf.refl)⟩
  | false =>
    rw [if_neg Bool.false_ne_true] at em
    cases em
    exact iteF (k H1 O1 r1 s1)⟩
theorem pwd_or {rest : List Expr} (h : PTD X fl a fl ta) (h2 : PWD X fl (.BoolOp .Or (b :: rest) pos) fl tb) : PWD X fl (.BoolOp .Or (a :: b :: rest) pos) fl (VS.tOr ta tb) := ⟨Subf.refl, (pw_or h.run h2.run).imp fun σ H Q ⟨ε, O, b, ε', r, em, k⟩ => by
  simp only [VS.tOr, Option.bind_eq_some_iff] at em
  obtain ⟨⟨c, ε1⟩, e1, em⟩ := em
  refine ⟨ε, O, c, ε1, r, e1, fun H1 O1 r1 s1 => ?_⟩
  cases c with
  | true =>
    rw [if_pos rfl] at em
    cases em
    exact iteT (k H1 O1 r1 s1)
  | false =>
    rw [if_neg Bool.false_ne_true] at em
    exact iteF ⟨ε1, O1, b, ε', r1, em, fun H2 O2 r2 s2 => k H2 O2 r2 (s1.trans s2 Subf.refl)⟩⟩
/-! .. as values -/
theorem ped_one {op : BoolOp} (h : PED X fl a fl1 ma) : PED X fl (.BoolOp op [a] pos) fl1 ma := ⟨h.isv, h.sub, pe_one h.run⟩
theorem isv_and (h : IsV mb) : IsV (eAnd ma mb) := fun ε o ε' e => by
  simp only [eAnd, Option.bind_eq_some_iff] at e
  obtain ⟨⟨d, ε1⟩, _, e⟩ := e
  cases d with
  | bl c => cases c with
    | true => exact h _ _ _ e
    | false => cases e; exact ⟨_, rfl⟩
  | _ => cases e
theorem isv_or (h : IsV mb) : IsV (eOr ma mb) := fun ε o ε' e => by
  simp only [eOr, Option.bind_eq_some_iff] at e
  obtain ⟨⟨d, ε1⟩, _, e⟩ := e
  cases d with
  | bl c => cases c with
    | false => exact h _ _ _ e
    | true => cases e; exact ⟨_, rfl⟩
  | _ => cases e
theorem ped_and {rest : List Expr} (h : PED X fl a fl ma) (h2 : PED X fl (.BoolOp .And (b :: rest) pos) fl mb) : PED X fl (.BoolOp .And (a :: b :: rest) pos) fl (eAnd ma mb) := ⟨isv_and h2.isv, Subf.refl, (pe_and h.run h2.run).imp fun σ H Q ⟨ε, O, d, ε', r, em, k⟩ => by
  simp only [eAnd, Option.bind_eq_some_iff] at em
  obtain ⟨⟨x, ε1⟩, e1, em⟩ := em
  refine ⟨ε, O, x, ε1, r, h.isv.val e1, fun v H1 O1 r1 s1 w => ?_⟩
  cases x with
  | bl c =>
    simp only [Rep] at w
    refine ⟨c, w, ?_⟩
    cases c with
    | true => exact iteT ⟨ε1, O1, d, ε', r1, em, fun v H2 O2 r2 s2 w2 => k v H2 O2 r2 (s1.trans s2 Subf.refl) w2⟩
    | false => cases em; exact iteF (k _ H1 O1 r1 s1 rep_bl)
  | _ => cases em⟩
theorem ped_or {rest : List Expr} (h : PED X fl a fl ma) (h2 : PED X fl (.BoolOp .Or (b :: rest) pos) fl mb) : PED X fl (.BoolOp .Or (a :: b :: rest) pos) fl (eOr ma mb) := ⟨isv_or h2.isv, Subf.refl, (pe_or h.run h2.run).imp fun σ H Q ⟨ε, O, d, ε', r, em, k⟩ => by
  simp only [eOr, Option.bind_eq_some_iff] at em
  obtain ⟨⟨x, ε1⟩, e1, em⟩ := em
  refine ⟨ε, O, x, ε1, r, h.isv.val e1, fun v H1 O1 r1 s1 w => ?_⟩
  cases x with
  | bl c =>
    simp only [Rep] at w
    refine ⟨c, w, ?_⟩
    cases c with
    | false => exact iteF ⟨ε1, O1, d, ε', r1, em, fun v H2 O2 r2 s2 w2 => k v H2 O2 r2 (s1.trans s2 Subf.refl) w2⟩
    | true => cases em; exact iteT (k _ H1 O1 r1 s1 rep_bl)
  | _ => cases em⟩
def dNot : D → Option D
  | .bl b => some (.bl (!b))
  | _ => none
theorem ped_not (h : PED X fl a fl1 ma) : PED X fl (.UnaryOp .Not a pos) fl1 (e1 dNot ma) := ⟨isv_e1, h.sub, (pe_not h.run).imp fun σ H Q ⟨ε, O, d, ε', r, em, k⟩ => by
  simp only [e1, Option.bind_eq_some_iff] at em
  obtain ⟨⟨o, ε1⟩, e1, x, g, z, ef, em⟩ := em
  cases em
  obtain ⟨y, rfl⟩ := h.isv _ _ _ e1
  cases g
  refine ⟨ε, O, _, _, r, e1, fun v H1 O1 r1 s1 w => ?_⟩
  cases x with
  | bl c =>
    cases ef
    simp only [Rep] at w
    exact ⟨c, w, k _ H1 O1 r1 s1 rep_bl⟩
  | _ => cases ef⟩
theorem isv_if (h : IsV ma) (h2 : IsV mb) : IsV (eIf t ma mb) := fun ε o ε' e => by
  simp only [eIf, Option.bind_eq_some_iff] at e
  obtain ⟨⟨d, ε1⟩, _, e⟩ := e
  cases d with
  | true => rw [if_pos rfl] at e; exact h _ _ _ e
  | false => rw [if_neg Bool.false_ne_true] at e; exact h2 _ _ _ e
theorem ped_if (hc : PTD X fl c fl1 t) (ha : PED X fl1 a fl2 ma) (hb : PED X fl1 b fl2 mb) : PED X fl (.IfExp c a b pos) fl2 (eIf t ma mb) := ⟨isv_if ha.isv hb.isv, hc.sub.trans ha.sub, (pe_ifExp hc.run ha.run hb.run).imp fun σ H Q ⟨ε, O, d, ε', r, em, k⟩ => by
  simp only [eIf, Option.bind_eq_some_iff] at em
  obtain ⟨⟨x, ε1⟩, e1, em⟩ := em
  refine ⟨ε, O, x, ε1, r, e1, fun H1 O1 r1 s1 => ?_⟩
  cases x with
  | true =>
    rw [if_pos rfl] at em
    exact iteT ⟨ε1, O1, d, ε', r1, em, fun v H2 O2 r2 s2 w2 => k v H2 O2 r2 (s1.trans s2 hc.sub) w2⟩
  | false =>
    rw [if_neg Bool.false_ne_true] at em
    exact iteF ⟨ε1, O1, d, ε', r1, em, fun v H2 O2 r2 s2 w2 => k v H2 O2 r2 (s1.trans s2 hc.sub) w2⟩⟩
theorem pfd_if (hc : PTD X fl c fl1 t) (ha : PFD X fl1 a fl2 ma) (hb : PFD X fl1 b fl2 mb) : PFD X fl (.IfExp c a b pos) fl2 (eIf t ma mb) := ⟨isv_if ha.isv hb.isv, hc.sub.trans ha.sub, (pe_ifExp hc.run ha.run hb.run).imp fun σ H Q ⟨ε, O, d, ε', r, em, k⟩ => by
  simp only [eIf, Option.bind_eq_some_iff] at em
  obtain ⟨⟨x, ε1⟩, e1, em⟩ := em
  refine ⟨ε, O, x, ε1, r, e1, fun H1 O1 r1 s1 => ?_⟩
  have fin : ∀ {a : Addr} {H2 : Hp}, (H1 a = none ∨ Hit fl1 σ a) → (H a = none ∨ Hit fl σ a) := fun h => h.imp (s1.dom _) hc.sub.hit
  cases x with
  | true =>
    rw [if_pos rfl] at em
    exact iteT ⟨ε1, O1, d, ε', r1, em, fun a H2 O2 r2 s2 o t ap n => k a H2 O2 r2 (s1.trans s2 hc.sub) o t ap (n.imp (s1.dom _) hc.sub.hit)⟩
  | false =>
    rw [if_neg Bool.false_ne_true] at em
    exact iteF ⟨ε1, O1, d, ε', r1, em, fun a H2 O2 r2 s2 o t ap n => k a H2 O2 r2 (s1.trans s2 hc.sub) o t ap (n.imp (s1.dom _) hc.sub.hit)⟩⟩
end
end L2.VS

/-! Displays, subscripts, slices, lists that grow, built-in functions over trees. -/
namespace L2.VS
open PySem PySem.Spec PyProof.Rows

/-! ### arguments that are values -/
def tVs (KF : PySem.W.Frag) (fl fl' : List Fl) (ms : List M) : TA := fun σ H Q => ∃ ε O ds ε', Rel KF fl O σ H ε ∧ vals ms ε = some (ds, ε') ∧
  ∀ vs H' O', Rel KF fl' O' σ H' ε' → Step fl σ O H O' H' → Reps KF H' O' vs ds → Q vs H'
structure PVD (X : Cx) (fl : List Fl) (es : List Expr) (fl' : List Fl) (ms : List M) : Prop where
  sub : Subf fl fl'
  run : PA X es (tVs X.K fl fl' ms)
section
variable {KF : PySem.W.Frag} {fl fl' fl1 fl2 fl3 : List Fl} {X : Cx} {e a b c : Expr} {es : List Expr} {m ma mb mc : M} {ms : List M} {t ta tb : T} {pos p : Pos} {ownp : List Nat} {sg : Sg}

theorem pvd_nil : PVD X fl [] fl [] := ⟨Subf.refl, pa_nil.imp fun σ H Q ⟨ε, O, os, ε', r, em, k⟩ => by
  cases em
  exact k [] H O r Step.refl trivial⟩
theorem pvd_cons (h : PED X fl e fl1 m) (h2 : PVD X fl1 es fl2 ms) (na : NoStar e := by intro _ _; rfl) : PVD X fl (e :: es) fl2 (m :: ms) := ⟨h.sub.trans h2.sub, (pa_cons h.run h2.run (na _ _)).imp fun σ H Q ⟨ε, O, ds, ε', r, em, k⟩ => by
  simp only [vals, Option.bind_eq_some_iff] at em
  obtain ⟨⟨d, ε1⟩, e1, ⟨ds2, ε2⟩, e2, em⟩ := em
  cases em
  exact ⟨ε, O, d, ε1, r, h.isv.val e1, fun v H1 O1 r1 s1 w => ⟨ε1, O1, ds2, ε2, r1, e2, fun vs H2 O2 r2 s2 w2 => k (v :: vs) H2 O2 r2 (s1.trans s2 h.sub) ⟨w.stay (s2.stay r1), w2⟩⟩⟩⟩
theorem isv_lst : IsV (eLst ms) := fun ε o ε' h => by
  simp only [eLst, Option.bind_eq_some_iff] at h
  obtain ⟨_, _, h⟩ := h
  cases h; exact ⟨_, rfl⟩
theorem isv_tup : IsV (eTup ms) := fun ε o ε' h => by
  simp only [eTup, Option.bind_eq_some_iff] at h
  obtain ⟨_, _, h⟩ := h
  cases h; exact ⟨_, rfl⟩
theorem vals_len : ∀ {ms : List M} {ε : Slots} {ds : List D} {ε' : Slots}, vals ms ε = some (ds, ε') → ds.length = ms.length
  | [], _, _, _, h => by cases h; rfl
  | m :: ms, _, _, _, h => by
    simp only [vals, Option.bind_eq_some_iff] at h
    obtain ⟨_, _, ⟨ds2, ε2⟩, e2, h⟩ := h
    cases h
    simp [vals_len e2]
theorem pfd_lst (h : PVD X fl es fl1 ms) (hl : ms.length ≤ 1000 := by decide) : PFD X fl (.List es pos) fl1 (eLst ms) := ⟨isv_lst, h.sub, (pe_lst h.run).imp fun σ H Q ⟨ε, O, d, ε', r, em, k⟩ => by
  simp only [eLst, Option.bind_eq_some_iff] at em
  obtain ⟨⟨ds, ε1⟩, e1, em⟩ := em
  cases em
  refine ⟨ε, O, ds, _, r, e1, fun vs H1 O1 r1 s1 w => ⟨?_, fun p hp => ?_⟩⟩
  · rw [w.length, vals_len e1, sizeLine_eq]; omega
  · refine k p _ _ (r1.own_same (same_upd hp) hp (by rw [upd_same]; intro z; cases z)) (s1.trans (Step.own_same (fl := fl) (same_upd hp) hp) Subf.refl) (.inr rfl) (top_lst hp w) (Apart.new r1 (same_upd hp) hp) (.inl (s1.dom p hp))⟩
theorem ped_tup (h : PVD X fl es fl1 ms) {x1 : Nat} (hl : ms.length ≤ 1000 := by decide) : PED X fl (.Tuple es x1 pos) fl1 (eTup ms) := ⟨isv_tup, h.sub, (pe_tup h.run).imp fun σ H Q ⟨ε, O, d, ε', r, em, k⟩ => by
  simp only [eTup, Option.bind_eq_some_iff] at em
  obtain ⟨⟨ds, ε1⟩, e1, em⟩ := em
  cases em
  refine ⟨ε, O, ds, _, r, e1, fun vs H1 O1 r1 s1 w => ⟨?_, fun p hp => ?_⟩⟩
  · rw [w.length, vals_len e1, sizeLine_eq]; omega
  · exact k _ _ _ (r1.same (same_upd hp)) (s1.trans (Step.same (fl := fl) (same_upd hp)) Subf.refl) (rep_tup hp r1.dom w)⟩

/-! ### subscripts -/
def dIx : D → D → Option D
  | .lst xs, .int i => atI xs i
  | .fz xs, .int i => atI xs i
  | .tup xs, .int i => atI xs i
  | .str x, .int i => if lenOk x.length = true then (atI x i).bind fun c => some (.str [c]) else none
  | _, _ => none
theorem atI_mem {α : Type} {xs : List α} {i : Int} {x : α} (h : atI xs i = some x) : x ∈ xs := by
  unfold atI at h
  obtain ⟨j, _, hj⟩ := Option.bind_eq_some_iff.mp h
  exact List.mem_of_getElem? hj
theorem atI_reps {H : Hp} {O : Addr → Prop} {vs : List V} {ds : List D} {i : Int} {d : D} (w : Reps KF H O vs ds) (h : atI ds i = some d) : ∃ v, atI vs i = some v ∧ Rep KF H O v d := by
  unfold atI at h ⊢
  rw [w.length]
  cases hn : ixN ds.length i with
  | none => rw [hn] at h; cases h
  | some j =>
    rw [hn] at h
    exact w.get h
theorem ped_ix (ha : POD X fl a fl1 ma) (hb : POD X fl1 b fl2 mb) (hs : PlainIx b := by intro _ _; rfl) : PED X fl (.Subscript a b pos) fl2 (e2 dIx ma mb) :=
  ⟨isv_e2, ha.sub.trans hb.sub, (pe_ix ix_seq ha.run hb.run hs).imp fun σ H Q h => bin_imp ha.sub hb.sub (fun v u d e z H O Q dm hv hu ef k => by
    cases d <;> cases e <;> simp only [dIx] at ef <;> try (cases ef; done)
    · split at ef
      · rename_i hl
        simp only [Option.bind_eq_some_iff] at ef
        obtain ⟨c, hc, ef⟩ := ef
        cases ef
        obtain ⟨e1, ok⟩ := repR_str hv
        refine .inr (.inr ⟨_, _, c, e1, repR_int hu, by rw [str_len]; exact lenOk_of hl, by simpa using hc, k _ H (Same.refl H) ?_⟩)
        simp only [Rep]
        refine ⟨by simp, ?_⟩
        have := List.all_eq_true.mp ok c (atI_mem hc)
        simpa [strOkL] using this
      · cases ef
    · obtain ⟨p, vs, e1, q, w⟩ := repR_lst hv
      obtain ⟨x, h1, h2⟩ := atI_reps w ef
      exact .inl ⟨p, vs, _, x, e1, repR_int hu, .of q, h1, k _ H (Same.refl H) h2⟩
    · obtain ⟨p, vs, e1, q, w⟩ := repR_tup hv
      obtain ⟨x, h1, h2⟩ := atI_reps w ef
      exact .inr (.inl ⟨p, vs, _, x, e1, repR_int hu, q, h1, k _ H (Same.refl H) h2⟩)
    · obtain ⟨p, vs, e1, q, w⟩ := repR_fz hv
      obtain ⟨x, h1, h2⟩ := atI_reps w ef
      exact .inl ⟨p, vs, _, x, e1, repR_int hu, q, h1, k _ H (Same.refl H) h2⟩) h⟩

/-! ### slices -/
def cutL {α : Type} (xs : List α) (lo hi : Option Int) : List α := (xs.drop (HT.sIx xs.length 0 lo)).take (HT.sIx xs.length xs.length hi - HT.sIx xs.length 0 lo)
def partE : Option M → Slots → Option (Option Int × Slots)
  | none, ε => some (none, ε)
  | some m, ε => (val m ε).bind fun p => match p.1 with
    | .int i => some (some i, p.2)
    | _ => none
def tPt (KF : PySem.W.Frag) (fl fl' : List Fl) (m : Option M) : TO := fun σ H Q => ∃ ε O o ε', Rel KF fl O σ H ε ∧ partE m ε = some (o, ε') ∧
  ∀ H' O', Rel KF fl' O' σ H' ε' → Step fl σ O H O' H' → Q o H'
structure PPD (X : Cx) (fl : List Fl) (e : Option Expr) (fl' : List Fl) (m : Option M) : Prop where
  sub : Subf fl fl'
  run : PO X e (tPt X.K fl fl' m)
theorem _root_.L2.PO.imp {X : Cx} {e : Option Expr} {t t' : TO} (h : PO X e t) (i : ∀ σ H Q, t' σ H Q → t σ H Q) : PO X e t' := ⟨fun pins s σ H Q I q => h.run pins s σ H Q I (i σ H Q q)⟩
theorem ppd_none : PPD X fl none fl none := ⟨Subf.refl, po_none.imp fun σ H Q ⟨ε, O, o, ε', r, em, k⟩ => by
  cases em
  exact k H O r Step.refl⟩
theorem ppd_some (h : PED X fl e fl1 m) : PPD X fl (some e) fl1 (some m) := ⟨h.sub, (po_some h.run).imp fun σ H Q ⟨ε, O, o, ε', r, em, k⟩ => by
  simp only [partE, Option.bind_eq_some_iff] at em
  obtain ⟨⟨d, ε1⟩, e1, em⟩ := em
  refine ⟨ε, O, d, ε1, r, h.isv.val e1, fun v H1 O1 r1 s1 w => ?_⟩
  cases d with
  | int i =>
    cases em
    simp only [Rep] at w
    exact ⟨_, w, k H1 O1 r1 s1⟩
  | _ => cases em⟩
def dCut (lo hi : Option Int) : D → Option D
  | .lst xs => some (.lst (cutL xs lo hi))
  | .fz xs => some (.lst (cutL xs lo hi))
  | .tup xs => some (.tup (cutL xs lo hi))
  | .str x => if lenOk x.length = true then some (.str (cutL x lo hi)) else none
  | _ => none
def eCut (a : M) (lo hi : Option M) : M := fun ε => (a ε).bind fun p => (partE lo p.2).bind fun q => (partE hi q.2).bind fun r => (p.1.get r.2).bind fun x => (dCut q.1 r.1 x).bind fun z => some (.val z, r.2)
theorem isv_cut {lo hi : Option M} : IsV (eCut m lo hi) := fun ε o ε' h => by
  simp only [eCut, Option.bind_eq_some_iff] at h
  obtain ⟨_, _, _, _, _, _, _, _, _, _, h⟩ := h
  cases h; exact ⟨_, rfl⟩
theorem reps_cut {H : Hp} {O : Addr → Prop} {vs : List V} {ds : List D} (w : Reps KF H O vs ds) (lo hi : Option Int) : Reps KF H O (cutV vs lo hi) (cutL ds lo hi) := by
  unfold cutV cutL
  rw [w.length]
  exact (w.drop _).take _
theorem strOk_cut {x : List Nat} {lo hi : Option Int} (h : strOkL x = true) : strOkL (cutL x lo hi) = true := by
  unfold strOkL cutL at *
  rw [List.all_eq_true] at h ⊢
  exact fun c hc => h c (List.mem_of_mem_drop (List.mem_of_mem_take hc))
theorem ped_cut {lo hi : Option Expr} {ml mh : Option M} {p2 : Pos} (ha : POD X fl a fl1 ma) (hl : PPD X fl1 lo fl2 ml) (hh : PPD X fl2 hi fl3 mh) : PED X fl (.Subscript a (.Slice lo hi none p2) pos) fl3 (eCut ma ml mh) :=
  ⟨isv_cut, (ha.sub.trans hl.sub).trans hh.sub, (pe_slice (SlR.or sl_list (SlR.or sl_tupA sl_str)) ha.run hl.run hh.run).imp fun σ H Q ⟨ε, O, d, ε', r, em, k⟩ => by
    simp only [eCut, Option.bind_eq_some_iff] at em
    obtain ⟨⟨o, ε1⟩, e1, ⟨l, ε2⟩, e2, ⟨h, ε3⟩, e3, x, g, z, ef, em⟩ := em
    cases em
    refine ⟨ε, O, o, ε1, r, e1, fun v H1 O1 r1 s1 w => ⟨ε1, O1, l, ε2, r1, e2, fun H2 O2 r2 s2 => ⟨ε2, O2, h, _, r2, e3, fun H3 O3 r3 s3 => ?_⟩⟩⟩
    have w3 := ((w.step r1 s2 hl.sub).step r2 s3 hh.sub).read r3 g
    have st := (s1.trans s2 ha.sub).trans s3 (ha.sub.trans hl.sub)
    cases x <;> simp only [dCut] at ef <;> try (cases ef; done)
    · split at ef
      · rename_i hz
        cases ef
        obtain ⟨e1, ok⟩ := repR_str w3
        refine .inr (.inr ⟨_, e1, by rw [str_len]; exact lenOk_of hz, k _ H3 O3 r3 st ?_⟩)
        have : cutS ⟨(‹List Nat›).toArray⟩ l h = ⟨(cutL ‹List Nat› l h).toArray⟩ := by
          unfold cutS cutL
          rw [str_len]
        rw [this]
        exact rep_str (strOk_cut ok)
      · cases ef
    · cases ef
      obtain ⟨p, vs, e1, q, w⟩ := repR_lst w3
      exact .inl ⟨p, vs, e1, .of q, fun n hn => k _ _ O3 (r3.same (same_upd hn)) (st.trans (Step.same (fl := fl) (same_upd hn)) Subf.refl) (rep_lst hn r3.dom (reps_cut w l h))⟩
    · cases ef
      rename_i xs
      obtain ⟨p, vs, e1, q, w⟩ := repR_tup w3
      refine .inr (.inl ⟨p, vs, e1, q, fun hz => ?_, fun _ n hn => k _ _ O3 (r3.same (same_upd hn)) (st.trans (Step.same (fl := fl) (same_upd hn)) Subf.refl) (rep_tup hn r3.dom (reps_cut w l h))⟩)
      have whole : cutL xs l h = xs := by
        unfold cutL
        rw [w.length] at hz
        rw [hz.1, hz.2]
        simp
      rw [whole] at k
      refine k _ H3 O3 r3 st ?_
      rw [← e1]
      rcases w3 with w3 | ⟨_, _, _, t⟩
      · exact w3
      · exact t.elim
    · cases ef
      obtain ⟨p, vs, e1, q, w⟩ := repR_fz w3
      exact .inl ⟨p, vs, e1, q, fun n hn => k _ _ O3 (r3.same (same_upd hn)) (st.trans (Step.same (fl := fl) (same_upd hn)) Subf.refl) (rep_lst hn r3.dom (reps_cut w l h))⟩⟩
def dCutL (lo hi : Option Int) : D → Option D
  | .lst xs => some (.lst (cutL xs lo hi))
  | .fz xs => some (.lst (cutL xs lo hi))
  | _ => none
def eCutL (a : M) (lo hi : Option M) : M := fun ε => (a ε).bind fun p => (partE lo p.2).bind fun q => (partE hi q.2).bind fun r => (p.1.get r.2).bind fun x => (dCutL q.1 r.1 x).bind fun z => some (.val z, r.2)
theorem isv_cutL {lo hi : Option M} : IsV (eCutL m lo hi) := fun ε o ε' h => by
  simp only [eCutL, Option.bind_eq_some_iff] at h
  obtain ⟨_, _, _, _, _, _, _, _, _, _, h⟩ := h
  cases h; exact ⟨_, rfl⟩
theorem pfd_cut {lo hi : Option Expr} {ml mh : Option M} {p2 : Pos} (ha : POD X fl a fl1 ma) (hl : PPD X fl1 lo fl2 ml) (hh : PPD X fl2 hi fl3 mh) : PFD X fl (.Subscript a (.Slice lo hi none p2) pos) fl3 (eCutL ma ml mh) :=
  ⟨isv_cutL, (ha.sub.trans hl.sub).trans hh.sub, (pe_slice sl_list ha.run hl.run hh.run).imp fun σ H Q ⟨ε, O, d, ε', r, em, k⟩ => by
    simp only [eCutL, Option.bind_eq_some_iff] at em
    obtain ⟨⟨o, ε1⟩, e1, ⟨l, ε2⟩, e2, ⟨h, ε3⟩, e3, x, g, z, ef, em⟩ := em
    cases em
    refine ⟨ε, O, o, ε1, r, e1, fun v H1 O1 r1 s1 w => ⟨ε1, O1, l, ε2, r1, e2, fun H2 O2 r2 s2 => ⟨ε2, O2, h, _, r2, e3, fun H3 O3 r3 s3 => ?_⟩⟩⟩
    have w3 := ((w.step r1 s2 hl.sub).step r2 s3 hh.sub).read r3 g
    have st := (s1.trans s2 ha.sub).trans s3 (ha.sub.trans hl.sub)
    have fin : ∀ {vs : List V} {ds : List D}, Reps X.K H3 O3 vs ds → d = .lst (cutL ds l h) → ∀ n, H3 n = none → Q (.ref n) (upd H3 n (.lst (cutV vs l h))) := fun {vs ds} w ez n hn => by
      subst ez
      exact k n _ _ (r3.own_same (same_upd hn) hn (by rw [upd_same]; intro z; cases z)) (st.trans (Step.own_same (fl := fl) (same_upd hn) hn) Subf.refl) (.inr rfl) (top_lst hn (reps_cut w l h)) (Apart.new r3 (same_upd hn) hn) (.inl (st.dom n hn))
    cases x <;> simp only [dCutL] at ef <;> try (cases ef; done)
    · cases ef
      obtain ⟨p, vs, e1, q, w⟩ := repR_lst w3
      exact ⟨p, vs, e1, .of q, fun n hn => fin w rfl n hn⟩
    · cases ef
      obtain ⟨p, vs, e1, q, w⟩ := repR_fz w3
      exact ⟨p, vs, e1, q, fun n hn => fin w rfl n hn⟩⟩

/-! ### built-in functions of one argument -/
theorem ped_b1 {x : Str} {id : String} {r : List V → Hp → VK → Prop} {f : D → Option D} (hc : CallR X (.builtin id) r) (hv : bootBuiltins x = some (.builtin id))
    (hr : ∀ v d z H O Q, Dom H O → RepR X.K H O v d → f d = some z → (∀ v' H', Same H H' → Rep X.K H' O v' z → Q v' H') → r [v] H Q)
    (ha : POD X fl a fl1 ma) (hm : X.mg x = none) (hg : Gl X x) (na : NoStar a) (hn : x ≠ "__name__") (hdb : (x == ("__debug__" : Str)) = false) : PED X fl (.Call (.Name x p) [a] [] pos) fl1 (e1 f ma) :=
  ⟨isv_e1, ha.sub, (pe_callB hc hg hm hv (pa_cons ha.run pa_nil (na _ _)) hn hdb (na _ _)).imp fun σ H Q h => un_imp hr h⟩
theorem ped_t1 {x : Str} {id : String} {r : List V → Hp → VK → Prop} {f : D → Option D} (hc : CallR X (.type id) r) (hv : bootBuiltins x = some (.type id))
    (hr : ∀ v d z H O Q, Dom H O → RepR X.K H O v d → f d = some z → (∀ v' H', Same H H' → Rep X.K H' O v' z → Q v' H') → r [v] H Q)
    (ha : POD X fl a fl1 ma) (hm : X.mg x = none) (hg : Gl X x) (na : NoStar a) (hn : x ≠ "__name__") (hdb : (x == ("__debug__" : Str)) = false) : PED X fl (.Call (.Name x p) [a] [] pos) fl1 (e1 f ma) :=
  ⟨isv_e1, ha.sub, (pe_callTy hc hg hm hv (pa_cons ha.run pa_nil (na _ _)) hn hdb (na _ _)).imp fun σ H Q h => un_imp hr h⟩
theorem pfd_b1 {x : Str} {id : String} {r : List V → Hp → VK → Prop} {f : D → Option D} (hc : CallR X (.builtin id) r) (hv : bootBuiltins x = some (.builtin id))
    (hr : ∀ v d z H O Q, Dom H O → RepR X.K H O v d → f d = some z → (∀ p H', H p = none → Same H H' → Top X.K H' (fun b => O b ∨ b = p) p z → Q (.ref p) H') → r [v] H Q)
    (ha : POD X fl a fl1 ma) (hm : X.mg x = none) (hg : Gl X x) (na : NoStar a) (hn : x ≠ "__name__") (hdb : (x == ("__debug__" : Str)) = false) : PFD X fl (.Call (.Name x p) [a] [] pos) fl1 (e1 f ma) :=
  ⟨isv_e1, ha.sub, (pe_callB hc hg hm hv (pa_cons ha.run pa_nil (na _ _)) hn hdb (na _ _)).imp fun σ H Q h => un_impF hr h⟩
theorem pfd_t1 {x : Str} {id : String} {r : List V → Hp → VK → Prop} {f : D → Option D} (hc : CallR X (.type id) r) (hv : bootBuiltins x = some (.type id))
    (hr : ∀ v d z H O Q, Dom H O → RepR X.K H O v d → f d = some z → (∀ p H', H p = none → Same H H' → Top X.K H' (fun b => O b ∨ b = p) p z → Q (.ref p) H') → r [v] H Q)
    (ha : POD X fl a fl1 ma) (hm : X.mg x = none) (hg : Gl X x) (na : NoStar a) (hn : x ≠ "__name__") (hdb : (x == ("__debug__" : Str)) = false) : PFD X fl (.Call (.Name x p) [a] [] pos) fl1 (e1 f ma) :=
  ⟨isv_e1, ha.sub, (pe_callTy hc hg hm hv (pa_cons ha.run pa_nil (na _ _)) hn hdb (na _ _)).imp fun σ H Q h => un_impF hr h⟩
def dLen : D → Option D
  | .lst xs => some (.int (xs.length : Nat))
  | .fz xs => some (.int (xs.length : Nat))
  | .tup xs => some (.int (xs.length : Nat))
  | .str x => if lenOk x.length = true then some (.int (x.length : Nat)) else none
  | _ => none
theorem ped_len (ha : POD X fl a fl1 ma) (hm : X.mg "len" = none) (hg : Gl X "len" := by rfl) (na : NoStar a := by intro _ _; rfl) : PED X fl (.Call (.Name "len" p) [a] [] pos) fl1 (e1 dLen ma) :=
  ped_b1 (CallR.or call_len_seq call_len_str) PySem.boot_len (fun v d z H O Q dm hv ef k => by
    cases d <;> simp only [dLen] at ef <;> try (cases ef; done)
    · split at ef
      · rename_i hl
        cases ef
        obtain ⟨e1, ok⟩ := repR_str hv
        subst e1
        exact .inr ⟨_, rfl, by rw [str_len]; exact lenOk_of hl, by rw [str_len]; exact k _ H (Same.refl H) rep_int⟩
      · cases ef
    · cases ef
      obtain ⟨p, vs, e1, q, w⟩ := repR_lst hv
      subst e1
      exact .inl ⟨_, _, rfl, .inl (.of q), by rw [w.length]; exact k _ H (Same.refl H) rep_int⟩
    · cases ef
      obtain ⟨p, vs, e1, q, w⟩ := repR_tup hv
      subst e1
      exact .inl ⟨_, _, rfl, .inr q, by rw [w.length]; exact k _ H (Same.refl H) rep_int⟩
    · cases ef
      obtain ⟨p, vs, e1, q, w⟩ := repR_fz hv
      subst e1
      exact .inl ⟨_, _, rfl, .inl q, by rw [w.length]; exact k _ H (Same.refl H) rep_int⟩) ha hm hg na (by decide) (by decide)
def dInt : D → Option D
  | .int i => some (.int i)
  | .bl b => some (.int (if b = true then 1 else 0))
  | _ => none
theorem ped_int1 (ha : POD X fl a fl1 ma) (hm : X.mg "int" = none) (hg : Gl X "int" := by rfl) (na : NoStar a := by intro _ _; rfl) : PED X fl (.Call (.Name "int" p) [a] [] pos) fl1 (e1 dInt ma) :=
  ped_t1 call_int1 boot_int (fun v d z H O Q dm hv ef k => by
    cases d <;> simp only [dInt] at ef <;> try (cases ef; done)
    · cases ef
      have e1 := repR_bl hv
      subst e1
      rename_i b
      refine .inr ⟨b, rfl, ?_⟩
      cases b
      · exact k _ H (Same.refl H) rep_int
      · exact k _ H (Same.refl H) rep_int
    · cases ef
      have e1 := repR_int hv
      subst e1
      exact .inl ⟨_, rfl, k _ H (Same.refl H) rep_int⟩) ha hm hg na (by decide) (by decide)
def dAbs : D → Option D
  | .int i => some (.int (if i < 0 then -i else i))
  | _ => none
theorem ped_abs (ha : POD X fl a fl1 ma) (hm : X.mg "abs" = none) (hg : Gl X "abs" := by rfl) (na : NoStar a := by intro _ _; rfl) : PED X fl (.Call (.Name "abs" p) [a] [] pos) fl1 (e1 dAbs ma) :=
  ped_b1 call_abs boot_abs (fun v d z H O Q dm hv ef k => by
    cases d <;> simp only [dAbs] at ef <;> try (cases ef; done)
    cases ef
    have e1 := repR_int hv
    subst e1
    exact ⟨_, rfl, k _ H (Same.refl H) rep_int⟩) ha hm hg na (by decide) (by decide)
def dList : D → Option D
  | .lst xs => some (.lst xs)
  | .fz xs => some (.lst xs)
  | .tup xs => some (.lst xs)
  | _ => none
theorem pfd_list (ha : POD X fl a fl1 ma) (hm : X.mg "list" = none) (hg : Gl X "list" := by rfl) (na : NoStar a := by intro _ _; rfl) : PFD X fl (.Call (.Name "list" p) [a] [] pos) fl1 (e1 dList ma) :=
  pfd_t1 call_list_of boot_list (fun v d z H O Q dm hv ef k => by
    cases d <;> simp only [dList] at ef <;> try (cases ef; done)
    · cases ef
      obtain ⟨p, vs, e1, q, w⟩ := repR_lst hv
      subst e1
      exact ⟨_, _, rfl, .inl (.of q), fun n hn => k n _ hn (same_upd hn) (top_lst hn w)⟩
    · cases ef
      obtain ⟨p, vs, e1, q, w⟩ := repR_tup hv
      subst e1
      exact ⟨_, _, rfl, .inr q, fun n hn => k n _ hn (same_upd hn) (top_lst hn w)⟩
    · cases ef
      obtain ⟨p, vs, e1, q, w⟩ := repR_fz hv
      subst e1
      exact ⟨_, _, rfl, .inl q, fun n hn => k n _ hn (same_upd hn) (top_lst hn w)⟩) ha hm hg na (by decide) (by decide)
def dTuple : D → Option D
  | .lst xs => some (.tup xs)
  | .fz xs => some (.tup xs)
  | .tup xs => some (.tup xs)
  | _ => none
theorem ped_tuple (ha : POD X fl a fl1 ma) (hm : X.mg "tuple" = none) (hg : Gl X "tuple" := by rfl) (na : NoStar a := by intro _ _; rfl) : PED X fl (.Call (.Name "tuple" p) [a] [] pos) fl1 (e1 dTuple ma) :=
  ped_t1 call_tuple_of boot_tuple (fun v d z H O Q dm hv ef k => by
    cases d <;> simp only [dTuple] at ef <;> try (cases ef; done)
    · cases ef
      obtain ⟨p, vs, e1, q, w⟩ := repR_lst hv
      subst e1
      exact ⟨_, _, rfl, .inl ⟨.of q, fun n hn => k _ _ (same_upd hn) (rep_tup hn dm w)⟩⟩
    · cases ef
      obtain ⟨p, vs, e1, q, w⟩ := repR_tup hv
      refine ⟨p, vs, by rw [e1], .inr ⟨q, ?_⟩⟩
      refine k _ H (Same.refl H) ?_
      rw [← e1]
      rcases hv with hv | ⟨_, _, _, t⟩
      · exact hv
      · exact t.elim
    · cases ef
      obtain ⟨p, vs, e1, q, w⟩ := repR_fz hv
      subst e1
      exact ⟨_, _, rfl, .inl ⟨q, fun n hn => k _ _ (same_upd hn) (rep_tup hn dm w)⟩⟩) ha hm hg na (by decide) (by decide)
/-- the whole numbers of a list -/
def intsOf : List D → Option (List Int)
  | [] => some []
  | .int i :: ds => (intsOf ds).bind fun is => some (i :: is)
  | _ :: _ => none
theorem intsOf_reps : ∀ {ds : List D} {is : List Int} {vs : List V} {H : Hp} {O : Addr → Prop}, intsOf ds = some is → Reps KF H O vs ds → vs = is.map V.int
  | [], is, [], H, O, e, _ => by cases e; rfl
  | .int i :: ds, is, v :: vs, H, O, e, w => by
    simp only [intsOf, Option.bind_eq_some_iff] at e
    obtain ⟨is', e1, e2⟩ := e
    cases e2
    simp only [Reps, Rep] at w
    rw [w.1, intsOf_reps e1 w.2]
    rfl
  | [], _, _ :: _, _, _, _, w => by simp [Reps] at w
  | .int _ :: _, _, [], _, _, _, w => by simp [Reps] at w
  | .non :: _, _, _, _, _, e, _ => by simp [intsOf] at e
  | .bl _ :: _, _, _, _, _, e, _ => by simp [intsOf] at e
  | .str _ :: _, _, _, _, _, e, _ => by simp [intsOf] at e
  | .lst _ :: _, _, _, _, _, e, _ => by simp [intsOf] at e
  | .tup _ :: _, _, _, _, _, e, _ => by simp [intsOf] at e
  | .fz _ :: _, _, _, _, _, e, _ => by simp [intsOf] at e
  | .dic _ _ _ :: _, _, _, _, _, e, _ => by simp [intsOf] at e
  | .set _ _ :: _, _, _, _, _, e, _ => by simp [intsOf] at e
theorem reps_ints {H : Hp} {O : Addr → Prop} : ∀ is : List Int, Reps KF H O (is.map V.int) (is.map D.int)
  | [] => by simp [Reps]
  | i :: is => by simp only [List.map_cons, Reps]; exact ⟨rep_int, reps_ints is⟩
/-- a list of whole numbers, read -/
def dInts : D → Option (List Int)
  | .lst xs => intsOf xs
  | .fz xs => intsOf xs
  | _ => none
theorem repR_ints {H : Hp} {O : Addr → Prop} {v : V} {d : D} {is : List Int} (h : RepR KF H O v d) (e : dInts d = some is) : ∃ p, v = .ref p ∧ SqL KF H p (is.map V.int) := by
  cases d with
  | lst xs =>
    obtain ⟨p, vs, e1, q, w⟩ := repR_lst h
    refine ⟨p, e1, ?_⟩
    rw [← intsOf_reps e w]
    exact .of q
  | fz xs =>
    obtain ⟨p, vs, e1, q, w⟩ := repR_fz h
    refine ⟨p, e1, ?_⟩
    rw [← intsOf_reps e w]
    exact q
  | _ => cases e
def dSum (d : D) : Option D := (dInts d).bind fun is => some (.int is.sum)
theorem ped_sum (ha : POD X fl a fl1 ma) (hm : X.mg "sum" = none) (hc : X.calm = true := by rfl) (hg : Gl X "sum" := by rfl) (na : NoStar a := by intro _ _; rfl) : PED X fl (.Call (.Name "sum" p) [a] [] pos) fl1 (e1 dSum ma) :=
  ped_b1 (cr_sum hc) boot_sum (fun v d z H O Q dm hv ef k => by
    simp only [dSum, Option.bind_eq_some_iff] at ef
    obtain ⟨is, e1, e2⟩ := ef
    cases e2
    obtain ⟨p, e3, q⟩ := repR_ints hv e1
    exact ⟨p, is, by rw [e3], q, k _ H (Same.refl H) rep_int⟩) ha hm hg na (by decide) (by decide)
def insI (x : Int) : List Int → List Int
  | [] => [x]
  | y :: ys => if x ≤ y then x :: y :: ys else y :: insI x ys
def isortI : List Int → List Int
  | [] => []
  | x :: xs => insI x (isortI xs)
theorem insI_perm (x : Int) : ∀ ys : List Int, (insI x ys).Perm (x :: ys)
  | [] => .refl _
  | y :: ys => by
    unfold insI
    split
    · exact .refl _
    · exact ((insI_perm x ys).cons y).trans (.swap x y ys)
theorem isortI_perm : ∀ xs : List Int, (isortI xs).Perm xs
  | [] => .refl _
  | x :: xs => (insI_perm x _).trans ((isortI_perm xs).cons x)
theorem insI_sorted (x : Int) : ∀ {ys : List Int}, ys.Pairwise (· ≤ ·) → (insI x ys).Pairwise (· ≤ ·)
  | [], _ => by simp [insI]
  | y :: ys, h => by
    unfold insI
    rw [List.pairwise_cons] at h
    split
    · rename_i hx
      refine List.Pairwise.cons (fun z hz => ?_) (List.pairwise_cons.mpr h)
      rcases List.mem_cons.mp hz with rfl | hz
      · exact hx
      · exact Int.le_trans hx (h.1 z hz)
    · rename_i hx
      refine List.Pairwise.cons (fun z hz => ?_) (insI_sorted x h.2)
      rcases List.mem_cons.mp ((insI_perm x ys).mem_iff.mp hz) with rfl | hz
      · omega
      · exact h.1 z hz
theorem isortI_sorted : ∀ xs : List Int, (isortI xs).Pairwise (· ≤ ·)
  | [] => .nil
  | x :: xs => insI_sorted x (isortI_sorted xs)
theorem sorted_unique {xs ys zs : List Int} (p : ys.Perm xs) (s : ys.Pairwise (· ≤ ·)) : ys = isortI xs :=
  List.Perm.eq_of_pairwise (fun x y _ _ h1 h2 => Int.le_antisymm h1 h2) s (isortI_sorted xs) (p.trans (isortI_perm xs).symm)
def dSortI (d : D) : Option D := (dInts d).bind fun is => some (.lst ((isortI is).map .int))
theorem pfd_sortI (ha : POD X fl a fl1 ma) (hm : X.mg "sorted" = none) (hg : Gl X "sorted" := by rfl) (na : NoStar a := by intro _ _; rfl) : PFD X fl (.Call (.Name "sorted" p) [a] [] pos) fl1 (e1 dSortI ma) :=
  pfd_b1 cr_sortedI boot_sorted (fun v d z H O Q dm hv ef k => by
    simp only [dSortI, Option.bind_eq_some_iff] at ef
    obtain ⟨is, e1, e2⟩ := ef
    cases e2
    obtain ⟨p, e3, q⟩ := repR_ints hv e1
    refine ⟨p, is, by rw [e3], q, fun ns n hp hs hn => ?_⟩
    rw [sorted_unique (zs := []) hp hs]
    exact k n _ hn (same_upd hn) (top_lst hn (reps_ints _))) ha hm hg na (by decide) (by decide)
/-- a list of truth values -/
def boolsOf : List D → Option (List Bool)
  | [] => some []
  | .bl i :: ds => (boolsOf ds).bind fun is => some (i :: is)
  | _ :: _ => none
theorem boolsOf_reps : ∀ {ds : List D} {is : List Bool} {vs : List V} {H : Hp} {O : Addr → Prop}, boolsOf ds = some is → Reps KF H O vs ds → vs = is.map V.bl
  | [], is, [], H, O, e, _ => by cases e; rfl
  | .bl i :: ds, is, v :: vs, H, O, e, w => by
    simp only [boolsOf, Option.bind_eq_some_iff] at e
    obtain ⟨is', e1, e2⟩ := e
    cases e2
    simp only [Reps, Rep] at w
    rw [w.1, boolsOf_reps e1 w.2]
    rfl
  | [], _, _ :: _, _, _, _, w => by simp [Reps] at w
  | .bl _ :: _, _, [], _, _, _, w => by simp [Reps] at w
  | .non :: _, _, _, _, _, e, _ => by simp [boolsOf] at e
  | .int _ :: _, _, _, _, _, e, _ => by simp [boolsOf] at e
  | .str _ :: _, _, _, _, _, e, _ => by simp [boolsOf] at e
  | .lst _ :: _, _, _, _, _, e, _ => by simp [boolsOf] at e
  | .tup _ :: _, _, _, _, _, e, _ => by simp [boolsOf] at e
  | .fz _ :: _, _, _, _, _, e, _ => by simp [boolsOf] at e
  | .dic _ _ _ :: _, _, _, _, _, e, _ => by simp [boolsOf] at e
  | .set _ _ :: _, _, _, _, _, e, _ => by simp [boolsOf] at e
def dAll : D → Option D
  | .lst xs => (boolsOf xs).bind fun bs => some (.bl (bs.all id))
  | _ => none
def dAny : D → Option D
  | .lst xs => (boolsOf xs).bind fun bs => some (.bl (bs.any id))
  | _ => none
theorem ped_all (ha : POD X fl a fl1 ma) (hm : X.mg "all" = none) (hc : X.calm = true := by rfl) (hg : Gl X "all" := by rfl) (na : NoStar a := by intro _ _; rfl) : PED X fl (.Call (.Name "all" p) [a] [] pos) fl1 (e1 dAll ma) :=
  ped_b1 (cr_all hc) boot_all (fun v d z H O Q dm hv ef k => by
    cases d <;> simp only [dAll] at ef <;> try (cases ef; done)
    simp only [Option.bind_eq_some_iff] at ef
    obtain ⟨bs, e1, e2⟩ := ef
    cases e2
    obtain ⟨p, vs, e3, q, w⟩ := repR_lst hv
    rw [boolsOf_reps e1 w] at q
    exact ⟨p, bs, by rw [e3], .of q, k _ H (Same.refl H) rep_bl⟩) ha hm hg na (by decide) (by decide)
theorem ped_any (ha : POD X fl a fl1 ma) (hm : X.mg "any" = none) (hc : X.calm = true := by rfl) (hg : Gl X "any" := by rfl) (na : NoStar a := by intro _ _; rfl) : PED X fl (.Call (.Name "any" p) [a] [] pos) fl1 (e1 dAny ma) :=
  ped_b1 (cr_any hc) boot_any (fun v d z H O Q dm hv ef k => by
    cases d <;> simp only [dAny] at ef <;> try (cases ef; done)
    simp only [Option.bind_eq_some_iff] at ef
    obtain ⟨bs, e1, e2⟩ := ef
    cases e2
    obtain ⟨p, vs, e3, q, w⟩ := repR_lst hv
    rw [boolsOf_reps e1 w] at q
    exact ⟨p, bs, by rw [e3], .of q, k _ H (Same.refl H) rep_bl⟩) ha hm hg na (by decide) (by decide)
end
end L2.VS

/-! What changes an owned list; isinstance; the rest of the built-ins. -/
namespace L2.VS
open PySem PySem.Spec PyProof.Rows

section
variable {KF : PySem.W.Frag} {H H' : Hp} {O : Addr → Prop} {fl fl' fl1 fl2 fl3 : List Fl} {σ : St} {ε : Slots} {X : Cx} {e a b c : Expr} {es : List Expr} {m ma mb mc : M} {ms : List M} {t ta tb : T} {pos p apos : Pos} {ownp : List Nat} {sg : Sg}

/-- the owned list at slot i gets another content -/
theorem Rel.relay {i : Nat} {A : Addr} {vs us : List V} {ys : List D} (r : Rel KF fl O σ H ε) (hi : fl[i]? = some .ow) (hA : σ[i]? = some (some (.ref A))) (w : Reps KF H O us ys) :
    Rel KF fl O σ (upd H A (.lst us)) (put ε i (.lst ys)) ∧ Step fl σ O H O (upd H A (.lst us)) ∧ Stay H O (upd H A (.lst us)) O := by
  obtain ⟨a, d, _, e2, oA, t⟩ := r.ow i hi
  rw [hA] at e2; cases e2
  obtain ⟨o0, h0⟩ := t.some_of
  have st : Stay H O (upd H A (.lst us)) O := ⟨fun b u e n => by rw [upd_ne (fun z => n (by rw [z]; exact oA))]; exact e, fun b h => .inl h⟩
  refine ⟨r.called hi hA (fun b o e n => by rw [upd_ne n]; exact e) (fun b h => .inl h) (fun b h _ => h) (fun b h z => ?_) oA ⟨us, upd_same, w.stay st⟩, ⟨fun b o e n => ?_, fun b e => ?_, fun b h => .inl h, fun b h _ => h⟩, st⟩
  · by_cases hb : b = A
    · rw [hb, upd_same] at z; cases z
    · rw [upd_ne hb] at z; exact r.dom b h z
  · rw [upd_ne (fun z => n ⟨i, hi, by rw [z]; exact hA⟩)]; exact e
  · by_cases hb : b = A
    · rw [hb, upd_same] at e; cases e
    · rw [upd_ne hb] at e; exact e
/-- slot i's list and one value: its new content and what comes out -/
def lookL (ε : Slots) (i : Nat) : Option (List D) := match look ε i with
  | some (.lst xs) => some xs
  | _ => none
theorem lookL_iff {ε : Slots} {i : Nat} {xs : List D} (h : lookL ε i = some xs) : look ε i = some (.lst xs) := by
  unfold lookL at h
  split at h
  · rename_i ys e
    cases h
    exact e
  · cases h
def eMut1 (i : Nat) (f : List D → D → Option (List D × D)) (a : M) : M := fun ε => (lookL ε i).bind fun _ => (val a ε).bind fun p => (lookL p.2 i).bind fun xs => (f xs p.1).bind fun q => some (.val q.2, put p.2 i (.lst q.1))
def eMut0 (i : Nat) (f : List D → Option (List D × D)) : M := fun ε => (lookL ε i).bind fun xs => (f xs).bind fun q => some (.val q.2, put ε i (.lst q.1))
theorem isv_mut1 {i : Nat} {f : List D → D → Option (List D × D)} : IsV (eMut1 i f m) := fun ε o ε' h => by
  simp only [eMut1, Option.bind_eq_some_iff] at h
  obtain ⟨_, _, _, _, _, _, _, _, h⟩ := h
  cases h; exact ⟨_, rfl⟩
theorem isv_mut0 {i : Nat} {f : List D → Option (List D × D)} : IsV (eMut0 i f) := fun ε o ε' h => by
  simp only [eMut0, Option.bind_eq_some_iff] at h
  obtain ⟨_, _, _, _, h⟩ := h
  cases h; exact ⟨_, rfl⟩
theorem look_lst {i : Nat} {xs : List D} (r : Rel KF fl O σ H ε) (hi : fl[i]? = some .ow) (h : lookL ε i = some xs) : ∃ A vs, σ[i]? = some (some (.ref A)) ∧ H A = some (.lst vs) ∧ Reps KF H O vs xs := by
  obtain ⟨A, d, e1, e2, o, t⟩ := r.ow i hi
  rw [look_iff.mp (lookL_iff h)] at e1
  cases e1
  obtain ⟨vs, q, w⟩ := t
  exact ⟨A, vs, e2, q, w⟩
theorem mut1_imp {r : V → List V → Hp → VK → Prop} {i : Nat} {f : List D → D → Option (List D × D)}
    (hr : ∀ A vs v xs d ys z H O Q, H A = some (.lst vs) → Reps X.K H O vs xs → Rep X.K H O v d → f xs d = some (ys, z) → (∀ us u, Reps X.K H O us ys → Rep X.K H O u z → Q u (upd H A (.lst us))) → r (.ref A) [v] H Q)
    (ha : PED X fl a fl1 ma) (hi : fl1[i]? = some .ow) (hi0 : fl[i]? = some .ow) {σ : St} {H : Hp} {Q : VK} (h : tD X.K fl fl1 (eMut1 i f ma) σ H Q) : tBM X.K "list" r (tVar i) (tCons (tD X.K fl fl1 ma) tNil) σ H Q := by
  obtain ⟨ε, O, d, ε', r0, em, k⟩ := h
  simp only [eMut1, Option.bind_eq_some_iff] at em
  obtain ⟨xs0, h0, ⟨y, ε1⟩, e1, xs, hl, ⟨ys, z⟩, ef, em⟩ := em
  cases em
  obtain ⟨A0, vs0, hA0, hH0, w0⟩ := look_lst r0 hi0 h0
  refine ⟨.ref A0, hA0, .inl ⟨rfl, vs0, .of hH0⟩, ε, O, y, ε1, r0, ha.isv.val e1, fun v H1 O1 r1 s1 w1 => ?_⟩
  obtain ⟨A, vs, hA, hH, w⟩ := look_lst r1 hi hl
  rw [hA0] at hA; cases hA
  refine hr A0 vs v xs y ys _ H1 O1 Q hH w w1 ef fun us u w2 wu => ?_
  obtain ⟨r3, s3, st3⟩ := r1.relay (vs := vs) hi hA0 w2
  exact k u _ O1 r3 (s1.trans s3 ha.sub) (wu.stay st3)
theorem mut0_imp {r : V → List V → Hp → VK → Prop} {i : Nat} {f : List D → Option (List D × D)}
    (hr : ∀ A vs xs ys z H O Q, H A = some (.lst vs) → Reps X.K H O vs xs → f xs = some (ys, z) → (∀ us u, Reps X.K H O us ys → Rep X.K H O u z → Q u (upd H A (.lst us))) → r (.ref A) [] H Q)
    (hi : fl[i]? = some .ow) {σ : St} {H : Hp} {Q : VK} (h : tD X.K fl fl (eMut0 i f) σ H Q) : tBM0 X.K "list" r (tVar i) σ H Q := by
  obtain ⟨ε, O, d, ε', r0, em, k⟩ := h
  simp only [eMut0, Option.bind_eq_some_iff] at em
  obtain ⟨xs, hl, ⟨ys, z⟩, ef, em⟩ := em
  cases em
  obtain ⟨A, vs, hA, hH, w⟩ := look_lst r0 hi hl
  refine ⟨.ref A, hA, .inl ⟨rfl, vs, .of hH⟩, ?_⟩
  refine hr A vs xs ys _ H O Q hH w ef fun us u w2 wu => ?_
  obtain ⟨r3, s3, st3⟩ := r0.relay (vs := vs) hi hA w2
  exact k u _ O r3 s3 (wu.stay st3)
section
variable {x : Str} {i : Nat}
def fApp (xs : List D) (d : D) : Option (List D × D) := if xs.length < 16777216 then some (xs ++ [d], .non) else none
theorem ped_append (i : Nat) (ha : PED X fl a fl1 ma) (hi : fl1[i]? = some .ow := by rfl) (hi0 : fl[i]? = some .ow := by rfl) (hN : X.N[i]? = some x := by rfl) (hv : Vis X.env.scope x := by first | exact Or.inl rfl | exact Or.inr (Or.inl rfl) | exact Or.inr (Or.inr rfl)) (hd : (x == ("__debug__" : Str)) = false := by decide)
    (hcd : (x == ("__classdict__" : Str)) = false := by decide) (na : NoStar a := by intro _ _; rfl) (hbase : attributeBase (.Name x pos) "append" X.env (eval (.Name x pos) X.env) = eval (.Name x pos) X.env := by rfl) (hline : (apos.endLine == p.line) = true := by rfl)
    (hfew : ((backTo p (starEach [a] X.env)).all (fun x => !x.1) && (backToKw p (keywordEach [] X.env)).all (fun x => x.1.isSome) && decide (([a] : List Expr).length + ([] : List Keyword).length + (if ([] : List Keyword).isEmpty then 0 else 1) < 30)) = true := by rfl)
    (hplain : (backTo p (starEach [] X.env)).any (·.1) = false := by rfl) :
    PED X fl (.Call (.Attribute (.Name x pos) "append" apos) [a] [] p) fl1 (eMut1 i fApp ma) :=
  ⟨isv_mut1, ha.sub, (pe_bm PySem.F.plainAttrs_list PySem.F.slot_list_append PySem.F.type_list_append mt_append (pv i hN hv hd hcd) (pa_cons ha.run pa_nil (na _ _)) hbase hfew hline (na _ _) hplain).imp fun σ H Q h =>
    mut1_imp (fun A vs v xs d ys z H O Q hH w wv ef k => by
      unfold fApp at ef
      split at ef
      · rename_i hl
        cases ef
        refine ⟨A, vs, v, rfl, rfl, hH, ?_, k _ _ (w.append (by simp only [Reps]; exact ⟨wv, trivial⟩)) rep_non⟩
        rw [w.length, sizeLine_eq]; exact hl
      · cases ef) ha hi hi0 h⟩
def fPop0 (xs : List D) : Option (List D × D) := (xs[xs.length - 1]?).bind fun d => some (xs.dropLast, d)
theorem reps_dropLast {vs : List V} {ds : List D} (w : Reps KF H O vs ds) : Reps KF H O vs.dropLast ds.dropLast := by
  rw [List.dropLast_eq_take, List.dropLast_eq_take, w.length]
  exact w.take _
theorem ped_pop0 (i : Nat) (hi : fl[i]? = some .ow := by rfl) (hN : X.N[i]? = some x := by rfl) (hv : Vis X.env.scope x := by first | exact Or.inl rfl | exact Or.inr (Or.inl rfl) | exact Or.inr (Or.inr rfl)) (hd : (x == ("__debug__" : Str)) = false := by decide)
    (hcd : (x == ("__classdict__" : Str)) = false := by decide) (hbase : attributeBase (.Name x pos) "pop" X.env (eval (.Name x pos) X.env) = eval (.Name x pos) X.env := by rfl) (hline : (apos.endLine == p.line) = true := by rfl) :
    PED X fl (.Call (.Attribute (.Name x pos) "pop" apos) [] [] p) fl (eMut0 i fPop0) :=
  ⟨isv_mut0, Subf.refl, (pe_bm0 PySem.F.plainAttrs_list PySem.F.slot_list_pop PySem.F.type_list_pop mt_pop (pv i hN hv hd hcd) hbase hline).imp fun σ H Q h =>
    mut0_imp (fun A vs xs ys z H O Q hH w ef k => by
      simp only [fPop0, Option.bind_eq_some_iff] at ef
      obtain ⟨d, e1, e2⟩ := ef
      cases e2
      obtain ⟨v, e3, wv⟩ := w.get e1
      exact ⟨A, vs, v, rfl, rfl, hH, by rw [w.length]; exact e3, k _ _ (reps_dropLast w) wv⟩) hi h⟩
def fPop1 (xs : List D) (d : D) : Option (List D × D) := match d with
  | .int i => if (decide (-9223372036854775808 ≤ i) && decide (i < 9223372036854775808)) = true then (ixN xs.length i).bind fun j => (xs[j]?).bind fun d => some (xs.eraseIdx j, d) else none
  | _ => none
theorem ixN_seq (n : Nat) (i : Int) : seqIndex? i n = ixN n i := by
  unfold seqIndex? ixN
  by_cases h : i < 0
  · rw [if_pos h, if_neg (show ¬ (0 : Int) ≤ i by omega)]
    by_cases h2 : -(n : Int) ≤ i
    · rw [if_pos h2, if_pos (by simp; omega)]
    · rw [if_neg h2, if_neg (by simp; omega)]
  · rw [if_neg h, if_pos (show (0 : Int) ≤ i by omega)]
    by_cases h2 : i < n
    · rw [if_pos h2, if_pos (by simp; omega)]
    · rw [if_neg h2, if_neg (by simp; omega)]
theorem reps_erase {vs : List V} {ds : List D} (w : Reps KF H O vs ds) (j : Nat) : Reps KF H O (vs.eraseIdx j) (ds.eraseIdx j) := by
  rw [List.eraseIdx_eq_take_drop_succ, List.eraseIdx_eq_take_drop_succ]
  exact (w.take _).append (w.drop _)
theorem ped_pop1 (i : Nat) (ha : PED X fl a fl1 ma) (hi : fl1[i]? = some .ow := by rfl) (hi0 : fl[i]? = some .ow := by rfl) (hN : X.N[i]? = some x := by rfl) (hv : Vis X.env.scope x := by first | exact Or.inl rfl | exact Or.inr (Or.inl rfl) | exact Or.inr (Or.inr rfl)) (hd : (x == ("__debug__" : Str)) = false := by decide)
    (hcd : (x == ("__classdict__" : Str)) = false := by decide) (na : NoStar a := by intro _ _; rfl) (hbase : attributeBase (.Name x pos) "pop" X.env (eval (.Name x pos) X.env) = eval (.Name x pos) X.env := by rfl) (hline : (apos.endLine == p.line) = true := by rfl)
    (hfew : ((backTo p (starEach [a] X.env)).all (fun x => !x.1) && (backToKw p (keywordEach [] X.env)).all (fun x => x.1.isSome) && decide (([a] : List Expr).length + ([] : List Keyword).length + (if ([] : List Keyword).isEmpty then 0 else 1) < 30)) = true := by rfl)
    (hplain : (backTo p (starEach [] X.env)).any (·.1) = false := by rfl) :
    PED X fl (.Call (.Attribute (.Name x pos) "pop" apos) [a] [] p) fl1 (eMut1 i fPop1 ma) :=
  ⟨isv_mut1, ha.sub, (pe_bm PySem.F.plainAttrs_list PySem.F.slot_list_pop PySem.F.type_list_pop mt_popAt (pv i hN hv hd hcd) (pa_cons ha.run pa_nil (na _ _)) hbase hfew hline (na _ _) hplain).imp fun σ H Q h =>
    mut1_imp (fun A vs v xs d ys z H O Q hH w wv ef k => by
      cases d <;> simp only [fPop1] at ef <;> try (cases ef; done)
      split at ef
      · rename_i n hl
        simp only [Option.bind_eq_some_iff] at ef
        obtain ⟨j, e1, d, e2, e3⟩ := ef
        cases e3
        simp only [Bool.and_eq_true, decide_eq_true_eq] at hl
        simp only [Rep] at wv
        subst wv
        obtain ⟨y, e4, wy⟩ := w.get e2
        exact ⟨A, vs, n, j, y, rfl, rfl, hH, by omega, by omega, by rw [ixN_seq, w.length]; exact e1, e4, k _ _ (reps_erase w j) wy⟩
      · cases ef) ha hi hi0 h⟩
/-- xs[k] = e -/
def sSetIx (i : Nat) (b a : M) : S := fun ε => (val a ε).bind fun p => (val b p.2).bind fun q => match q.1 with
  | .int k => (lookL q.2 i).bind fun xs => (ixN xs.length k).bind fun j => some (.nx, put q.2 i (.lst (xs.set j p.1)))
  | _ => none
theorem psd_setIx (i : Nat) (ha : PED X fl a fl1 ma) (hb : PED X fl1 b fl2 mb) (hi : fl2[i]? = some .ow := by rfl) (hi1 : fl1[i]? = some .ow := by rfl) (hN : X.N[i]? = some x := by rfl) (hv : Vis X.env.scope x := by first | exact Or.inl rfl | exact Or.inr (Or.inl rfl) | exact Or.inr (Or.inr rfl)) (hd : (x == ("__debug__" : Str)) = false := by decide)
    (hcd : (x == ("__classdict__" : Str)) = false := by decide) (hs : swapsWithSole [.Subscript (.Name x pos) b apos] a p.line X.env = pure false := by rfl) (hw : swappedStores [.Subscript (.Name x pos) b apos] a X.env = pure none := by rfl)
    (h1 : (assignEach [.Subscript (.Name x pos) b apos] X.env).map (·.2) = [assign (.Subscript (.Name x pos) b apos) X.env] := by rfl)
    (h2 : ∀ v, assign (.Subscript (.Name x pos) b apos) X.env v = (do
      let ov ← holding [v] (eval (.Name x pos) X.env)
      let iv ← holding [v, ov] (eval b X.env)
      standAt apos
      holding [v, ov, iv] (setItem ov iv v)
      release [v, ov, iv] []) := by intro _; rfl) : PSD X sg fl (.Assign [.Subscript (.Name x pos) b apos] a p) fl2 (sSetIx i mb ma) :=
  ⟨(ps_asg ha.run (pg_sub (pv i hN hv hd hcd) hb.run set_list h2) hs hw h1).imp fun D σ H ⟨Γ, ε, O, w, ε', r, em, k⟩ => by
    simp only [sSetIx, Option.bind_eq_some_iff] at em
    obtain ⟨⟨d, ε1⟩, e1, ⟨dk, ε2⟩, e2, em⟩ := em
    refine ⟨ε, O, d, ε1, r.rel, ha.isv.val e1, fun v H1 O1 r1 s1 w1 => ?_⟩
    obtain ⟨A, d0, _, hA, _, _⟩ := r1.ow i hi1
    refine ⟨.ref A, hA, ε1, O1, dk, ε2, r1, hb.isv.val e2, fun u H2 O2 r2 s2 w2 => ?_⟩
    cases dk with
    | int n =>
      simp only [Option.bind_eq_some_iff] at em
      obtain ⟨xs, hl, j, hj, em⟩ := em
      cases em
      simp only [Rep] at w2
      subst w2
      obtain ⟨A', vs, hA', hH, wx⟩ := look_lst r2 hi hl
      rw [hA] at hA'; cases hA'
      refine ⟨A, vs, n, j, rfl, rfl, hH, by rw [wx.length]; exact hj, ?_⟩
      obtain ⟨r3, s3, st3⟩ := r2.relay (vs := vs) hi hA (wx.set j (w1.stay (s2.stay r1)))
      exact k _ _ _ ((((r.step r1 s1 ha.sub).step r2 s2 hb.sub)).step r3 s3 Subf.refl)
    | _ => cases em⟩
end

/-! ### min, max, list(range), isinstance -/
def dMin2 : D → D → Option D
  | .int i, .int j => some (.int (if j < i then j else i))
  | _, _ => none
def dMax2 : D → D → Option D
  | .int i, .int j => some (.int (if j > i then j else i))
  | _, _ => none
theorem ped_min2 (ha : PED X fl a fl1 ma) (hb : PED X fl1 b fl2 mb) (hm : X.mg "min" = none) (hc : X.calm = true := by rfl) (hg : Gl X "min" := by rfl) (na : NoStar a := by intro _ _; rfl) (nb : NoStar b := by intro _ _; rfl) : PED X fl (.Call (.Name "min" p) [a, b] [] pos) fl2 (e2 dMin2 ma mb) :=
  ⟨isv_e2, ha.sub.trans hb.sub, (pe_callB (call_min2 hc) hg hm boot_min (pa_cons ha.run (pa_cons hb.run pa_nil (nb _ _)) (na _ _)) (by decide) (by decide) (na _ _) (by rw [nb]; rfl)).imp fun σ H Q h => by
    have h2 := bin_imp (r := fun v u H Q => ∃ i j, [v, u] = [V.int i, V.int j] ∧ Q (.int (if j < i then j else i)) H) ha.sub hb.sub (fun v u d e z H O Q dm hv hu ef k => by
      cases d <;> cases e <;> simp only [dMin2] at ef <;> try (cases ef; done)
      cases ef
      exact ⟨_, _, by rw [repR_int hv, repR_int hu], k _ H (Same.refl H) rep_int⟩) h
    obtain ⟨ε, O, o, ε1, r, e1, kk⟩ := h2
    obtain ⟨d, rfl⟩ := ha.isv _ _ _ e1
    refine ⟨ε, O, d, ε1, r, e1, fun v H1 O1 r1 s1 w => ?_⟩
    obtain ⟨ε, O, o, ε1, r, e1, kk⟩ := kk v H1 O1 r1 s1 w
    obtain ⟨d, rfl⟩ := hb.isv _ _ _ e1
    exact ⟨ε, O, d, ε1, r, e1, kk⟩⟩
theorem ped_max2 (ha : PED X fl a fl1 ma) (hb : PED X fl1 b fl2 mb) (hm : X.mg "max" = none) (hc : X.calm = true := by rfl) (hg : Gl X "max" := by rfl) (na : NoStar a := by intro _ _; rfl) (nb : NoStar b := by intro _ _; rfl) : PED X fl (.Call (.Name "max" p) [a, b] [] pos) fl2 (e2 dMax2 ma mb) :=
  ⟨isv_e2, ha.sub.trans hb.sub, (pe_callB (call_max2 hc) hg hm boot_max (pa_cons ha.run (pa_cons hb.run pa_nil (nb _ _)) (na _ _)) (by decide) (by decide) (na _ _) (by rw [nb]; rfl)).imp fun σ H Q h => by
    have h2 := bin_imp (r := fun v u H Q => ∃ i j, [v, u] = [V.int i, V.int j] ∧ Q (.int (if j > i then j else i)) H) ha.sub hb.sub (fun v u d e z H O Q dm hv hu ef k => by
      cases d <;> cases e <;> simp only [dMax2] at ef <;> try (cases ef; done)
      cases ef
      exact ⟨_, _, by rw [repR_int hv, repR_int hu], k _ H (Same.refl H) rep_int⟩) h
    obtain ⟨ε, O, o, ε1, r, e1, kk⟩ := h2
    obtain ⟨d, rfl⟩ := ha.isv _ _ _ e1
    refine ⟨ε, O, d, ε1, r, e1, fun v H1 O1 r1 s1 w => ?_⟩
    obtain ⟨ε, O, o, ε1, r, e1, kk⟩ := kk v H1 O1 r1 s1 w
    obtain ⟨d, rfl⟩ := hb.isv _ _ _ e1
    exact ⟨ε, O, d, ε1, r, e1, kk⟩⟩
/-- list(range(n)) -/
def dRgL (d : D) : Option D := match d with
  | .int n => if (inB n && decide (n ≤ 16777216)) = true then some (.lst (rangeL 0 1 n.toNat)) else none
  | _ => none
theorem reps_rg {a b : Int} : Reps KF H O (rgV a b) (rangeL a 1 (b - a).toNat) := by
  unfold rgV rangeL
  generalize List.range (b - a).toNat = l
  induction l with
  | nil => simp [Reps]
  | cons i l ih =>
    simp only [List.map_cons, Reps]
    exact ⟨by simp only [Rep]; rw [Int.mul_one], ih⟩
theorem pfd_listR1 {p2 : Pos} (ha : PED X fl a fl1 ma) (hm : X.mg "list" = none) (hm2 : X.mg "range" = none) (hc : X.calm = true := by rfl) (hg : Gl X "list" := by rfl) (hg2 : Gl X "range" := by rfl) (na : NoStar a := by intro _ _; rfl) (na2 : NoStar (.Call (.Name "range" p2) [a] [] apos) := by intro _ _; rfl) :
    PFD X fl (.Call (.Name "list" p) [.Call (.Name "range" p2) [a] [] apos] [] pos) fl1 (e1 dRgL ma) :=
  ⟨isv_e1, ha.sub, (pe_listRg hc hg hm (prg_1 hg2 hm2 ha.run (na _ _)) (na2 _ _)).imp fun σ H Q h => by
    have h2 := un_impF (r := fun v H Q => ∃ n, v = .int n ∧ RgOk 0 n ∧ ∀ q, H q = none → Q (.ref q) (upd H q (.lst (rgV 0 n)))) (fun v d z H O Q dm hv ef k => by
      cases d <;> simp only [dRgL] at ef <;> try (cases ef; done)
      split at ef
      · rename_i n hl
        cases ef
        simp only [Bool.and_eq_true, decide_eq_true_eq] at hl
        have := inB_of hl.1
        refine ⟨_, repR_int hv, ⟨by omega, by omega, this.1, this.2, by omega⟩, fun q hq => k q _ hq (same_upd hq) (top_lst hq ?_)⟩
        have w := reps_rg (KF := X.K) (H := H) (O := O) (a := 0) (b := n)
        rw [Int.sub_zero] at w
        exact w
      · cases ef) h
    obtain ⟨ε, O, o, ε1, r, e1, kk⟩ := h2
    obtain ⟨d, rfl⟩ := ha.isv _ _ _ e1
    refine ⟨ε, O, d, ε1, r, e1, fun v H1 O1 r1 s1 w => ?_⟩
    obtain ⟨n, e, z⟩ := kk v H1 O1 r1 s1 w
    exact ⟨n, e, z⟩⟩
/-- the name of a value's type -/
def tyName : D → Option String
  | .non => some "NoneType"
  | .bl _ => some "bool"
  | .int _ => some "int"
  | .str _ => some "str"
  | .lst _ => some "list"
  | .fz _ => some "list"
  | .tup _ => some "tuple"
  | .dic _ _ _ => some "dict"
  | .set _ _ => none
inductive TyN where
  | int | bool | str | list | tuple | dict
def TyN.name : TyN → String
  | .int => "int" | .bool => "bool" | .str => "str" | .list => "list" | .tuple => "tuple" | .dict => "dict"
def dIsi : TyN → D → Option D
  | .int, .int _ => some (.bl true)
  | .int, .bl _ => some (.bl true)
  | .bool, .bl _ => some (.bl true)
  | .str, .str _ => some (.bl true)
  | .list, .lst _ => some (.bl true)
  | .list, .fz _ => some (.bl true)
  | .tuple, .tup _ => some (.bl true)
  | .dict, .dic _ _ _ => some (.bl true)
  | _, .set _ _ => none
  | _, _ => some (.bl false)
theorem kitAll : ∀ a ∈ (["NoneType", "bool", "int", "str", "list", "tuple", "dict"] : List String), ∀ b ∈ (["int", "bool", "str", "list", "tuple", "dict"] : List String),
    kitB a b = some (a == b || (a == "bool" && b == "int")) := by decide +kernel
end
end L2.VS

/-! isinstance, chains, a def that always returns, a law's end. -/
namespace L2.VS
open PySem PySem.Spec PyProof.Rows

section
variable {KF : PySem.W.Frag} {H H' : Hp} {O : Addr → Prop} {fl fl' fl1 fl2 fl3 : List Fl} {σ : St} {ε : Slots} {X : Cx} {e a b c : Expr} {es : List Expr} {m ma mb mc : M} {ms : List M} {t ta tb : T} {pos p apos : Pos} {ownp : List Nat} {sg : Sg} {st : Stmt} {sa sb : S} {cop cop' : CmpOp} {f f' : D → D → Option D}

theorem psd_pre (fl1 : List Fl) (h : PSD X sg fl1 st fl2 sa) (w : wkB fl fl1 = true := by rfl) : PSD X sg fl st fl2 sa := ⟨h.run.imp fun D σ H ⟨Γ, ε, O, w', ε', r, em, k⟩ => by
  obtain ⟨O2, r2⟩ := r.weak (wk_of w)
  exact ⟨Γ, ε, O2, w', ε', r2, em, k⟩⟩

/-! ### isinstance -/
theorem call_isiF : CallR X (.builtin "isinstance") (fun xs H Q => ∃ (a : Addr) (kvs : List (List L2.Key × V)) (o : Obj) (c : V) (u : Value) (b : Bool), xs = [.ref a, c] ∧ H a = some (.frz o (.dT kvs)) ∧ ClsV c u ∧ PySem.W.kitOne X.K (.type "dict") u = some b ∧ Q (.bl b) H) := by
  intro pins s σ H xs us Q I r h
  obtain ⟨a, kvs, ob, c, u, b, rfl, ea, k, e, q⟩ := h
  obtain ⟨u1, u2, rfl, r1, r2⟩ := vals2 r
  have e2 := k.eq r2
  subst e2
  cases (show u1 = Value.ref a from r1)
  obtain ⟨_, _, _, xs, _, o, es, ep, h1, h2, _⟩ := (show ObjOk X.prog X.w H s.heap a (.frz ob (.dT kvs)) from I.hok a _ ea)
  exact PySem.W.kia_one PySem.W.kitx_dict I.kIn ⟨o, h1, h2.1⟩ e (fun z => nomatch z) fun tk => ⟨.bl b, H, I.tok tk, rfl, q⟩
def isiB : String → TyN → Bool
  | "bool", .int => true
  | s, T => s == T.name
theorem kit_isi {K : PySem.W.Frag} {s : String} (h : s ∈ (["NoneType", "bool", "int", "str", "list", "tuple", "dict"] : List String)) (T : TyN) : PySem.W.kitOne K (.type s) (.type T.name) = some (s == T.name || (s == "bool" && T.name == "int")) :=
  kit_ty (kitAll s h T.name (by cases T <;> decide))
theorem dIsi_eq {T : TyN} {d z : D} (h : dIsi T d = some z) : ∃ s, tyName d = some s ∧ s ∈ (["NoneType", "bool", "int", "str", "list", "tuple", "dict"] : List String) ∧ z = .bl (s == T.name || (s == "bool" && T.name == "int")) := by
  cases d <;> cases T <;> simp only [dIsi] at h <;> (first | (cases h; done) | (cases h; exact ⟨_, rfl, by decide, rfl⟩))
theorem ty_of {v : V} {d : D} {s : String} (h : RepR KF H O v d) (e : tyName d = some s) : TyX KF H v (.type s) ∨ ∃ a kvs o, v = .ref a ∧ s = "dict" ∧ H a = some (.frz o (.dT kvs)) := by
  cases d with
  | non => cases e; rw [repR_non h]; exact .inl (.base .non)
  | bl b => cases e; rw [repR_bl h]; exact .inl (.base (.bl b))
  | int i => cases e; rw [repR_int h]; exact .inl (.base (.int i))
  | str x => cases e; rw [(repR_str h).1]; exact .inl (.base (.str _))
  | lst ds => cases e; obtain ⟨a, vs, e1, q, _⟩ := repR_lst h; rw [e1]; exact .inl (.base (.lst q))
  | fz ds =>
    cases e
    obtain ⟨a, vs, e1, q, _⟩ := repR_fz h
    rw [e1]
    rcases q with (q | ⟨o, q⟩) | ⟨o, its, n, q, hc, _⟩
    · exact .inl (.base (.lst q))
    · exact .inl (.base (.frz q))
    · exact .inl (.kList q hc)
  | tup ds =>
    cases e
    obtain ⟨a, vs, e1, q, _⟩ := repR_tup h
    rw [e1]
    rcases q with (q | ⟨o, q⟩) | ⟨o, its, n, q, hc, _⟩
    · exact .inl (.base (.tup q))
    · exact .inl (.fTuple q)
    · exact .inl (.kTuple q hc)
  | dic t ks ds =>
    cases e
    obtain ⟨a, vs, o, e1, eo, q, _⟩ := repR_dic h
    rw [e1]
    cases t with
    | false =>
      simp only [dicO] at eo
      split at eo
      · cases eo
        rcases q with q | ⟨o, q⟩
        · exact .inl (.base (.dK q))
        · exact .inl (.fDict q)
      · cases eo
    | true =>
      simp only [dicO] at eo
      split at eo
      · cases eo
        rcases q with q | ⟨o, q⟩
        · exact .inl (.base (.dT q))
        · exact .inr ⟨a, _, o, rfl, rfl, q⟩
      · cases eo
  | set _ _ => cases e
theorem ped_isi (T : TyN) {x : Str} {p2 : Pos} (ha : POD X fl a fl1 ma) (hm : X.mg "isinstance" = none) (hm2 : X.mg x = none) (hv : bootBuiltins x = some (.type T.name) := by decide +kernel) (hg : Gl X "isinstance" := by rfl) (hg2 : Gl X x := by rfl) (na : NoStar a := by intro _ _; rfl) (nb : NoStar (.Name x p2) := by intro _ _; rfl)
    (hn2 : x ≠ "__name__" := by decide) (hd2 : (x == ("__debug__" : Str)) = false := by decide) :
    PED X fl (.Call (.Name "isinstance" p) [a, .Name x p2] [] pos) fl1 (e1 (dIsi T) ma) :=
  ⟨isv_e1, ha.sub, (pe_callB (CallR.or call_isi call_isiF) hg hm boot_isinstance (pa_cons ha.run (pa_cons (pe_bltn (v := .ty T.name) hg2 hm2 hv rfl hn2 hd2) pa_nil (nb _ _)) (na _ _)) (by decide) (by decide) (na _ _) (by rw [nb]; rfl)).imp fun σ H Q h => by
    exact un_imp (r := fun v H Q => (∃ (x c : V) (t u : Value) (b : Bool), [v, V.ty T.name] = [x, c] ∧ ClsV c u ∧ TyX X.K H x t ∧ PySem.W.kitOne X.K t u = some b ∧ Q (.bl b) H) ∨ (∃ (a : Addr) (kvs : List (List L2.Key × V)) (o : Obj) (c : V) (u : Value) (b : Bool), [v, V.ty T.name] = [.ref a, c] ∧ H a = some (.frz o (.dT kvs)) ∧ ClsV c u ∧ PySem.W.kitOne X.K (.type "dict") u = some b ∧ Q (.bl b) H)) (fun v d z H O Q dm hv ef k => by
      obtain ⟨s, e1, e2, e3⟩ := dIsi_eq ef
      subst e3
      rcases ty_of hv e1 with h | ⟨a, kvs, o, e4, e5, h⟩
      · exact .inl ⟨v, _, _, _, _, rfl, .ty _, h, kit_isi e2 T, k _ H (Same.refl H) rep_bl⟩
      · subst e4 e5
        exact .inr ⟨a, kvs, o, _, _, _, rfl, h, .ty _, kit_isi e2 T, k _ H (Same.refl H) rep_bl⟩) h⟩

/-! ### a < b < c -/
def eChain (f g : D → D → Option D) (a b c : M) : M := fun ε => (a ε).bind fun p => (b p.2).bind fun q => (p.1.get q.2).bind fun x => (q.1.get q.2).bind fun y => (f x y).bind fun z => match z with
  | .bl true => (c q.2).bind fun r => (q.1.get r.2).bind fun y' => (r.1.get r.2).bind fun w => (g y' w).bind fun z' => some (.val z', r.2)
  | .bl false => some (.val (.bl false), q.2)
  | _ => none
theorem isv_chain : IsV (eChain f f' ma mb mc) := fun ε o ε' h => by
  simp only [eChain, Option.bind_eq_some_iff] at h
  obtain ⟨_, _, _, _, _, _, _, _, z, _, h⟩ := h
  cases z with
  | bl k =>
    cases k with
    | true =>
      simp only [Option.bind_eq_some_iff] at h
      obtain ⟨_, _, _, _, _, _, _, _, h⟩ := h
      cases h; exact ⟨_, rfl⟩
    | false => cases h; exact ⟨_, rfl⟩
  | _ => cases h
theorem chain_imp {r r' : R2} (sub : Subf fl fl1) (sub2 : Subf fl1 fl2) (sub3 : Subf fl2 fl2)
    (hr : ∀ v u d e z H O Q, Dom H O → RepR KF H O v d → RepR KF H O u e → f d e = some z → (∃ k, z = .bl k) ∧ ((∀ v' H', Same H H' → Rep KF H' O v' z → Q v' H') → r v u H Q))
    (hr' : ∀ v u d e z H O Q, Dom H O → RepR KF H O v d → RepR KF H O u e → f' d e = some z → (∃ k, z = .bl k) ∧ ((∀ v' H', Same H H' → Rep KF H' O v' z → Q v' H') → r' v u H Q)) {σ : St} {H : Hp} {Q : VK}
    (h : tD KF fl fl2 (eChain f f' ma mb mc) σ H Q) : tChain r r' (tO KF fl fl1 ma) (tO KF fl1 fl2 mb) (tO KF fl2 fl2 mc) σ H Q := by
  obtain ⟨ε, O, d, ε', r0, em, k⟩ := h
  simp only [eChain, Option.bind_eq_some_iff] at em
  obtain ⟨⟨o, ε1⟩, e1, ⟨o2, ε2⟩, e2, x, g1, y, g2, z, ef, em⟩ := em
  refine ⟨ε, O, o, ε1, r0, e1, fun v H1 O1 r1 s1 w => ?_⟩
  refine ⟨ε1, O1, o2, ε2, r1, e2, fun u H2 O2 r2 s2 w2 => ?_⟩
  obtain ⟨⟨kz, rfl⟩, hk⟩ := hr v u x y z H2 O2 (fun z H3 => ∃ k, z = .bl k ∧ (if k = true then tO KF fl2 fl2 mc σ H3 (fun w' H4 => r' u w' H4 Q) else Q (.bl false) H3)) r2.dom ((w.step r1 s2 sub2).read r2 g1) (w2.read r2 g2) ef
  refine hk fun v' H' q w' => ?_
  simp only [Rep] at w'
  refine ⟨kz, w', ?_⟩
  have r2' := r2.same q
  have s2' := (s1.trans s2 sub).trans (Step.same (fl := fl) q) Subf.refl
  cases kz with
  | false =>
    refine iteF ?_
    cases em
    exact k _ H' O2 r2' s2' rep_bl
  | true =>
    refine iteT ?_
    simp only [Option.bind_eq_some_iff] at em
    obtain ⟨⟨o3, ε3⟩, e3, y', g3, w3, g4, z', ef', em⟩ := em
    cases em
    refine ⟨ε2, O2, o3, _, r2', e3, fun u3 H3 O3 r3 s3 w4 => ?_⟩
    have wu : RepO KF fl2 σ H3 O3 u o2 := (w2.step r2 (Step.same (fl := fl2) q) Subf.refl).step r2' s3 Subf.refl
    exact (hr' u u3 y' w3 _ H3 O3 Q r3.dom (wu.read r3 g3) (w4.read r3 g4) ef').2 fun v' H4 q4 w' => k v' H4 O3 (r3.same q4) ((s2'.trans s3 (sub.trans sub2)).trans (Step.same (fl := fl) q4) Subf.refl) w'
theorem ped_chain (hc : CmpD X cop f) (hc' : CmpD X cop' f') (ha : POD X fl a fl1 ma) (hb : POD X fl1 b fl2 mb) (hcc : POD X fl2 c fl2 mc) (hm : lastMarks [cop, cop'] [b, c] = false := by with_unfolding_all rfl) :
    PED X fl (.Compare a [cop, cop'] [b, c] pos) fl2 (eChain f f' ma mb mc) := by
  obtain ⟨r, ho, hr⟩ := hc.ex
  obtain ⟨r', ho', hr'⟩ := hc'.ex
  exact ⟨isv_chain, ha.sub.trans hb.sub, (pe_chain ho ho' ha.run hb.run hcc.run hm).imp fun σ H Q h => chain_imp ha.sub hb.sub Subf.refl hr hr' h⟩
theorem ptd_chain (hc : CmpD X cop f) (hc' : CmpD X cop' f') (ha : POD X fl a fl1 ma) (hb : POD X fl1 b fl2 mb) (hcc : POD X fl2 c fl2 mc) (hm : lastMarks [cop, cop'] [b, c] = false := by with_unfolding_all rfl) :
    PTD X fl (.Compare a [cop, cop'] [b, c] pos) fl2 (VS.tB (eChain f f' ma mb mc)) := by
  obtain ⟨r, ho, hr⟩ := hc.ex
  obtain ⟨r', ho', hr'⟩ := hc'.ex
  exact ⟨ha.sub.trans hb.sub, (pt_chain ho ho' ha.run hb.run hcc.run hm).imp fun σ H Q h => chain_imp ha.sub hb.sub Subf.refl hr hr' (tB_imp isv_chain h)⟩

/-! ### always a return -/
def NoNx (s : S) : Prop := ∀ ε ε', s ε ≠ some (.nx, ε')
theorem nn_ret : NoNx (sRet m) := fun ε ε' h => by
  simp only [sRet, Option.bind_eq_some_iff] at h
  obtain ⟨_, _, h⟩ := h
  cases h
theorem nn_seq (h : NoNx sb) : NoNx (sSeq sa sb) := fun ε ε' e => by
  simp only [sSeq, Option.bind_eq_some_iff] at e
  obtain ⟨⟨w, ε1⟩, _, e⟩ := e
  cases w with
  | nx => exact h _ _ e
  | _ => cases e
theorem nn_if (h : NoNx sa) (h2 : NoNx sb) : NoNx (sIf t sa sb) := fun ε ε' e => by
  simp only [sIf, Option.bind_eq_some_iff] at e
  obtain ⟨⟨w, ε1⟩, _, e⟩ := e
  cases w with
  | true => exact h _ _ (by simpa using e)
  | false => exact h2 _ _ (by simpa using e)
def howB (ms : List Md) (ownp : List Nat) : Bool := ((List.range ms.length).all fun i => decide (ms[i]? = some .ow ↔ i ∈ ownp)) && ownp.all fun i => decide (i < ms.length)
theorem how_of {ms : List Md} (h : howB ms ownp = true) (i : Nat) : ms[i]? = some .ow ↔ i ∈ ownp := by
  simp only [howB, Bool.and_eq_true, List.all_eq_true, decide_eq_true_eq] at h
  by_cases hi : i < ms.length
  · exact h.1 i (List.mem_range.mpr hi)
  · constructor
    · intro e
      exact absurd (List.getElem?_eq_some_iff.mp e).1 hi
    · intro e
      exact absurd (h.2 i e) hi

/-! ### what is never reached -/
def sDead : S := fun _ => none
def eDead : M := fun _ => none
def tDead : T := fun _ => none
theorem psd_dead : PSD X sg fl st fl' sDead := ⟨ps_never.imp fun D σ H ⟨Γ, ε, O, w, ε', r, em, k⟩ => by cases em⟩
theorem psds_dead {sts : List Stmt} : PSDs X sg fl sts fl' sDead := ⟨pss_never.imp fun D σ H ⟨Γ, ε, O, w, ε', r, em, k⟩ => by cases em⟩
theorem ped_dead : PED X fl e fl eDead := ⟨fun _ _ _ h => (by cases h), Subf.refl, ⟨fun pins s σ H Q I ⟨ε, O, d, ε', r, em, k⟩ => by cases em⟩⟩
theorem ptd_dead : PTD X fl e fl tDead := ⟨Subf.refl, ⟨fun pins s σ H Q I ⟨ε, O, d, ε', r, em, k⟩ => by cases em⟩⟩
theorem nn_dead : NoNx sDead := fun ε ε' h => by cases h
theorem hu65 {k : Nat} {A : Around} (hr : Room k A) : A.units + 65 < cLine := by have := hr.un; omega
/-- a def that is never called -/
theorem fn_dead {P : Program} {w : World} {mg : Str → Option Value} {base : Heap} {k : Nat} {f : Addr} {fd : FuncData} {ps : List Str} {ms : List Md} {fr : Bool} : FnOk P w KF mg base CX0 k f fd ps (spD KF ms ownp fr fun _ => none) :=
  ⟨fun vs H Q E ⟨O, ds, d, ws, A, h, _⟩ => (by cases h), fun A outer s H args us vs Q E _ _ _ _ ⟨O, ds, d, ws, _, h, _⟩ => by cases h⟩

/-! ### a law -/
def spLaw (KF : PySem.W.Frag) : Sp := fun vs H Q _ => ∃ (a : Addr) (ns : List Int), vs = [.ref a] ∧ SqL KF H a (ns.map V.int) ∧ ns.length ≤ 63 ∧ ∀ H', Q (.bl true) H'
theorem law_end {P : Program} {w : World} {mg : Str → Option Value} {base : Heap} {k : Nat} {f : Addr} {fd : FuncData} {x : Str} {fn : Fn} (h : FnOk P w KF mg base CX0 k f fd [x] (spD KF [.sh] [] false fn)) (hl : ∀ ns : List Int, ns.length ≤ 63 → fn [.fz (ns.map .int)] = some (.bl true, [])) :
    FnOk P w KF mg base CX0 k f fd [x] (spLaw KF) := h.imp fun vs H Q E ⟨a, ns, e, q, l, kk⟩ => by
  subst e
  refine ⟨fun _ => False, [.fz (ns.map .int)], .bl true, [], ⟨rfl, rfl, fun _ h => h.elim, fun i md v d h1 h2 h3 => ?_, fun i j a n h => ?_⟩, hl ns l, fun v H' O' R => ?_⟩
  · cases i with
    | zero =>
      simp at h1 h2 h3
      subst h1 h2 h3
      simp only [ArgOk, Rep]
      refine ⟨a, _, rfl, ?_, reps_ints ns⟩
      rcases q with q | q
      · exact .inl ⟨id, q⟩
      · exact .inr q
    | succ i => simp at h1
  · cases i with
    | zero => simp at h
    | succ i => simp at h
  · have r := R.res
    rw [if_neg Bool.false_ne_true] at r
    simp only [Rep] at r
    rw [r]
    exact kk H'
end
end L2.VS

/-! Reasoning about code over trees: what is wanted behind it. -/
namespace L2.VS

def wpM (m : M) (ε : Slots) (Q : Opd → Slots → Prop) : Prop := ∃ o ε', m ε = some (o, ε') ∧ Q o ε'
def wpV (m : M) (ε : Slots) (Q : D → Slots → Prop) : Prop := wpM m ε fun o ε' => ∃ d, o.get ε' = some d ∧ Q d ε'
def wpT (t : T) (ε : Slots) (Q : Bool → Slots → Prop) : Prop := ∃ b ε', t ε = some (b, ε') ∧ Q b ε'
def wpS (s : S) (ε : Slots) (Q : Flw → Slots → Prop) : Prop := ∃ w ε', s ε = some (w, ε') ∧ Q w ε'
def wpF (f : Fn) (ds : List D) (Q : D → List D → Prop) : Prop := ∃ d ws, f ds = some (d, ws) ∧ Q d ws
def wpI (i : I) (ε : Slots) (Q : List D → Slots → Prop) : Prop := ∃ ds ε', i ε = some (ds, ε') ∧ Q ds ε'
def wpVs (ms : List M) (ε : Slots) (Q : List D → Slots → Prop) : Prop := ∃ ds ε', vals ms ε = some (ds, ε') ∧ Q ds ε'
def wpA (as : List Arg) (ε : Slots) (Q : List Opd → Slots → Prop) : Prop := ∃ os ε', evalArgs as ε = some (os, ε') ∧ Q os ε'

theorem wpF.mono {f : Fn} {ds : List D} {Q Q' : D → List D → Prop} (h : wpF f ds Q) (k : ∀ d ws, Q d ws → Q' d ws) : wpF f ds Q' :=
  let ⟨d, ws, e, q⟩ := h
  ⟨d, ws, e, k d ws q⟩
theorem wpS.mono {s : S} {ε : Slots} {Q Q' : Flw → Slots → Prop} (h : wpS s ε Q) (k : ∀ d ws, Q d ws → Q' d ws) : wpS s ε Q' :=
  let ⟨d, ws, e, q⟩ := h
  ⟨d, ws, e, k d ws q⟩
theorem wpF.of {f : Fn} {ds : List D} {Q : D → List D → Prop} {d : D} {ws : List D} (e : f ds = some (d, ws)) (q : Q d ws) : wpF f ds Q := ⟨d, ws, e, q⟩
theorem wpF_iff {f : Fn} {ds : List D} {d : D} {ws : List D} : f ds = some (d, ws) ↔ wpF f ds fun d' ws' => d' = d ∧ ws' = ws :=
  ⟨fun e => ⟨d, ws, e, rfl, rfl⟩, fun ⟨_, _, e, h1, h2⟩ => by subst h1 h2; exact e⟩

section
variable {m a b c : M} {ε : Slots} {Q : Opd → Slots → Prop} {R : D → Slots → Prop} {t u : T} {QT : Bool → Slots → Prop} {QS : Flw → Slots → Prop} {sa sb : S} {QA : List Opd → Slots → Prop} {QL : List D → Slots → Prop} {i : Nat} {d : D}
theorem val_eq (Q : Option (D × Slots) → Prop) : val m ε = (m ε).bind fun p => (p.1.get p.2).bind fun d => some (d, p.2) := rfl
theorem wpV_val {P : D → Slots → Prop} : (∃ d ε', val m ε = some (d, ε') ∧ P d ε') ↔ wpV m ε P := by
  unfold wpV wpM val
  constructor
  · rintro ⟨d, ε', e, p⟩
    simp only [Option.bind_eq_some_iff] at e
    obtain ⟨⟨o, ε1⟩, e1, d', g, e2⟩ := e
    cases e2
    exact ⟨o, _, e1, _, g, p⟩
  · rintro ⟨o, ε', e, d, g, p⟩
    exact ⟨d, ε', by simp only [e, Option.bind_some, g], p⟩
theorem wp_C : wpM (eC d) ε Q ↔ Q (.val d) ε := ⟨fun ⟨_, _, e, q⟩ => by cases e; exact q, fun q => ⟨_, _, rfl, q⟩⟩
theorem wp_V : wpM (eV i) ε Q ↔ ∃ d, look ε i = some d ∧ Q (.val d) ε := by
  unfold wpM eV
  constructor
  · rintro ⟨o, ε', e, q⟩
    simp only [Option.bind_eq_some_iff] at e
    obtain ⟨d, h, e⟩ := e
    cases e
    exact ⟨d, h, q⟩
  · rintro ⟨d, h, q⟩
    exact ⟨_, _, by simp only [h, Option.bind_some], q⟩
theorem wp_R : wpM (eR i) ε Q ↔ ∃ d, look ε i = some d ∧ Q (.slot i) ε := by
  unfold wpM eR
  constructor
  · rintro ⟨o, ε', e, q⟩
    simp only [Option.bind_eq_some_iff] at e
    obtain ⟨d, h, e⟩ := e
    cases e
    exact ⟨d, h, q⟩
  · rintro ⟨d, h, q⟩
    exact ⟨_, _, by simp only [h, Option.bind_some], q⟩
theorem wp_O : wpM (eO i) ε Q ↔ Q (.slot i) ε := ⟨fun ⟨_, _, e, q⟩ => by cases e; exact q, fun q => ⟨_, _, rfl, q⟩⟩
theorem wp_e1 {f : D → Option D} : wpM (e1 f a) ε Q ↔ wpM a ε fun o ε1 => ∃ x, o.get ε1 = some x ∧ ∃ z, f x = some z ∧ Q (.val z) ε1 := by
  unfold wpM e1
  constructor
  · rintro ⟨o, ε', e, q⟩
    simp only [Option.bind_eq_some_iff] at e
    obtain ⟨⟨o1, ε1⟩, e1, x, g, z, h, e⟩ := e
    cases e
    exact ⟨o1, _, e1, x, g, z, h, q⟩
  · rintro ⟨o, ε', e, x, g, z, h, q⟩
    exact ⟨_, _, by simp only [e, Option.bind_some, g, h], q⟩
theorem wp_e2 {f : D → D → Option D} : wpM (e2 f a b) ε Q ↔ wpM a ε fun o ε1 => wpM b ε1 fun o2 ε2 => ∃ x, o.get ε2 = some x ∧ ∃ y, o2.get ε2 = some y ∧ ∃ z, f x y = some z ∧ Q (.val z) ε2 := by
  unfold wpM e2
  constructor
  · rintro ⟨o, ε', e, q⟩
    simp only [Option.bind_eq_some_iff] at e
    obtain ⟨⟨o1, ε1⟩, e1, ⟨o2, ε2⟩, e2, x, g, y, g2, z, h, e⟩ := e
    cases e
    exact ⟨o1, _, e1, o2, _, e2, x, g, y, g2, z, h, q⟩
  · rintro ⟨o, ε1, e1, o2, ε2, e2, x, g, y, g2, z, h, q⟩
    exact ⟨_, _, by simp only [e1, e2, Option.bind_some, g, g2, h], q⟩
theorem wp_wpV : wpV m ε R ↔ wpM m ε fun o ε' => ∃ d, o.get ε' = some d ∧ R d ε' := Iff.rfl
theorem val_wpV {d : D} {ε' : Slots} : val m ε = some (d, ε') ↔ wpV m ε fun x ε1 => x = d ∧ ε1 = ε' := by
  rw [← wpV_val]
  exact ⟨fun e => ⟨d, ε', e, rfl, rfl⟩, fun ⟨x, y, e, h1, h2⟩ => by rw [e, h1, h2]⟩
theorem ex_val {α : Type} {P : α → Prop} {k : D × Slots → Option α} : (∃ r, ((val m ε).bind k) = some r ∧ P r) ↔ wpV m ε fun d ε' => ∃ r, k (d, ε') = some r ∧ P r := by
  rw [← wpV_val]
  constructor
  · rintro ⟨r, e, p⟩
    simp only [Option.bind_eq_some_iff] at e
    obtain ⟨⟨d, ε'⟩, e1, e2⟩ := e
    exact ⟨d, ε', e1, r, e2, p⟩
  · rintro ⟨d, ε', e, r, e2, p⟩
    exact ⟨r, by simp only [e, Option.bind_some, e2], p⟩
theorem wp_and : wpM (eAnd a b) ε Q ↔ wpV a ε fun d ε1 => ∃ c, d = .bl c ∧ if c = true then wpM b ε1 Q else Q (.val (.bl false)) ε1 := by
  rw [← wpV_val]
  unfold wpM eAnd
  constructor
  · rintro ⟨o, ε', e, q⟩
    simp only [Option.bind_eq_some_iff] at e
    obtain ⟨⟨d, ε1⟩, e1, e⟩ := e
    cases d with
    | bl c => cases c with
      | true => exact ⟨_, _, e1, true, rfl, by simpa using ⟨o, ε', e, q⟩⟩
      | false => cases e; exact ⟨_, _, e1, false, rfl, by simpa using q⟩
    | _ => cases e
  · rintro ⟨d, ε1, e1, c, rfl, q⟩
    cases c with
    | true =>
      obtain ⟨o, ε', e, q⟩ := (if_pos rfl).mp q
      exact ⟨o, ε', by simp only [e1, Option.bind_some, e], q⟩
    | false => exact ⟨.val (.bl false), ε1, by simp only [e1, Option.bind_some], by simpa using q⟩
theorem wp_or : wpM (eOr a b) ε Q ↔ wpV a ε fun d ε1 => ∃ c, d = .bl c ∧ if c = true then Q (.val (.bl true)) ε1 else wpM b ε1 Q := by
  rw [← wpV_val]
  unfold wpM eOr
  constructor
  · rintro ⟨o, ε', e, q⟩
    simp only [Option.bind_eq_some_iff] at e
    obtain ⟨⟨d, ε1⟩, e1, e⟩ := e
    cases d with
    | bl c => cases c with
      | false => exact ⟨_, _, e1, false, rfl, by simpa using ⟨o, ε', e, q⟩⟩
      | true => cases e; exact ⟨_, _, e1, true, rfl, by simpa using q⟩
    | _ => cases e
  · rintro ⟨d, ε1, e1, c, rfl, q⟩
    cases c with
    | false =>
      obtain ⟨o, ε', e, q⟩ := (if_neg Bool.false_ne_true).mp q
      exact ⟨o, ε', by simp only [e1, Option.bind_some, e], q⟩
    | true => exact ⟨.val (.bl true), ε1, by simp only [e1, Option.bind_some], by simpa using q⟩
theorem wp_if : wpM (eIf t a b) ε Q ↔ wpT t ε fun c ε1 => if c = true then wpM a ε1 Q else wpM b ε1 Q := by
  unfold wpT
  constructor
  · rintro ⟨o, ε', e, q⟩
    simp only [eIf, Option.bind_eq_some_iff] at e
    obtain ⟨⟨c, ε1⟩, e1, e⟩ := e
    refine ⟨c, ε1, e1, ?_⟩
    cases c
    · exact (if_neg Bool.false_ne_true).mpr ⟨o, ε', by simpa using e, q⟩
    · exact (if_pos rfl).mpr ⟨o, ε', by simpa using e, q⟩
  · rintro ⟨c, ε1, e1, q⟩
    cases c
    · obtain ⟨o, ε', e, q⟩ := (if_neg Bool.false_ne_true).mp q
      exact ⟨o, ε', by simp [eIf, e1, e], q⟩
    · obtain ⟨o, ε', e, q⟩ := (if_pos rfl).mp q
      exact ⟨o, ε', by simp [eIf, e1, e], q⟩
theorem wp_nil : wpVs [] ε QL ↔ QL [] ε := ⟨fun ⟨_, _, e, q⟩ => by cases e; exact q, fun q => ⟨_, _, rfl, q⟩⟩
theorem wp_cons {ms : List M} : wpVs (m :: ms) ε QL ↔ wpV m ε fun d ε1 => wpVs ms ε1 fun ds ε2 => QL (d :: ds) ε2 := by
  rw [← wpV_val]
  unfold wpVs
  constructor
  · rintro ⟨ds, ε', e, q⟩
    simp only [vals, Option.bind_eq_some_iff] at e
    obtain ⟨⟨d, ε1⟩, e1, ⟨ds2, ε2⟩, e2, e⟩ := e
    cases e
    exact ⟨d, ε1, e1, ds2, _, e2, q⟩
  · rintro ⟨d, ε1, e1, ds, ε2, e2, q⟩
    exact ⟨_, _, by simp only [vals, e1, e2, Option.bind_some], q⟩
theorem wp_lst {ms : List M} : wpM (eLst ms) ε Q ↔ wpVs ms ε fun ds ε' => Q (.val (.lst ds)) ε' := by
  unfold wpM wpVs
  constructor
  · rintro ⟨o, ε', e, q⟩
    simp only [eLst, Option.bind_eq_some_iff] at e
    obtain ⟨⟨ds, ε1⟩, e1, e⟩ := e
    cases e
    exact ⟨ds, _, e1, q⟩
  · rintro ⟨ds, ε', e, q⟩
    exact ⟨_, _, by simp only [eLst, e, Option.bind_some], q⟩
theorem wp_tup {ms : List M} : wpM (eTup ms) ε Q ↔ wpVs ms ε fun ds ε' => Q (.val (.tup ds)) ε' := by
  unfold wpM wpVs
  constructor
  · rintro ⟨o, ε', e, q⟩
    simp only [eTup, Option.bind_eq_some_iff] at e
    obtain ⟨⟨ds, ε1⟩, e1, e⟩ := e
    cases e
    exact ⟨ds, _, e1, q⟩
  · rintro ⟨ds, ε', e, q⟩
    exact ⟨_, _, by simp only [eTup, e, Option.bind_some], q⟩
/-! tests -/
theorem wp_tB : wpT (VS.tB m) ε QT ↔ wpV m ε fun d ε' => ∃ b, d = .bl b ∧ QT b ε' := by
  rw [← wpV_val]
  unfold wpT VS.tB
  constructor
  · rintro ⟨b, ε', e, q⟩
    simp only [Option.bind_eq_some_iff] at e
    obtain ⟨⟨d, ε1⟩, e1, e⟩ := e
    cases d with
    | bl c => cases e; exact ⟨_, _, e1, _, rfl, q⟩
    | _ => cases e
  · rintro ⟨d, ε', e, b, rfl, q⟩
    exact ⟨b, ε', by simp only [e, Option.bind_some], q⟩
theorem wp_tTru : wpT (tTru m) ε QT ↔ wpV m ε fun d ε' => ∃ b, truth d = some b ∧ QT b ε' := by
  rw [← wpV_val]
  unfold wpT tTru
  constructor
  · rintro ⟨b, ε', e, q⟩
    simp only [Option.bind_eq_some_iff] at e
    obtain ⟨⟨d, ε1⟩, e1, c, h, e⟩ := e
    cases e
    exact ⟨_, _, e1, _, h, q⟩
  · rintro ⟨d, ε', e, b, h, q⟩
    exact ⟨b, ε', by simp only [e, h, Option.bind_some], q⟩
theorem wp_tNot : wpT (VS.tNot t) ε QT ↔ wpT t ε fun b ε' => QT (!b) ε' := by
  unfold wpT VS.tNot
  constructor
  · rintro ⟨b, ε', e, q⟩
    simp only [Option.bind_eq_some_iff] at e
    obtain ⟨⟨d, ε1⟩, e1, e⟩ := e
    cases e
    exact ⟨_, _, e1, q⟩
  · rintro ⟨b, ε', e, q⟩
    exact ⟨!b, ε', by simp only [e, Option.bind_some], q⟩
theorem wp_tAnd : wpT (VS.tAnd t u) ε QT ↔ wpT t ε fun b ε' => if b = true then wpT u ε' QT else QT false ε' := by
  constructor
  · rintro ⟨b, ε', e, q⟩
    simp only [VS.tAnd, Option.bind_eq_some_iff] at e
    obtain ⟨⟨d, ε1⟩, e1, e⟩ := e
    refine ⟨d, ε1, e1, ?_⟩
    cases d
    · rw [if_neg Bool.false_ne_true] at e ⊢; cases e; exact q
    · rw [if_pos rfl] at e ⊢; exact ⟨b, ε', e, q⟩
  · rintro ⟨b, ε', e, q⟩
    cases b
    · rw [if_neg Bool.false_ne_true] at q
      exact ⟨false, ε', by simp only [VS.tAnd, e, Option.bind_some, Bool.false_eq_true, if_false], q⟩
    · rw [if_pos rfl] at q
      obtain ⟨b, ε2, e2, q⟩ := q
      exact ⟨b, ε2, by simp only [VS.tAnd, e, Option.bind_some, if_true, e2], q⟩
theorem wp_tOr : wpT (VS.tOr t u) ε QT ↔ wpT t ε fun b ε' => if b = true then QT true ε' else wpT u ε' QT := by
  constructor
  · rintro ⟨b, ε', e, q⟩
    simp only [VS.tOr, Option.bind_eq_some_iff] at e
    obtain ⟨⟨d, ε1⟩, e1, e⟩ := e
    refine ⟨d, ε1, e1, ?_⟩
    cases d
    · rw [if_neg Bool.false_ne_true] at e ⊢; exact ⟨b, ε', e, q⟩
    · rw [if_pos rfl] at e ⊢; cases e; exact q
  · rintro ⟨b, ε', e, q⟩
    cases b
    · rw [if_neg Bool.false_ne_true] at q
      obtain ⟨b, ε2, e2, q⟩ := q
      exact ⟨b, ε2, by simp only [VS.tOr, e, Option.bind_some, Bool.false_eq_true, if_false, e2], q⟩
    · rw [if_pos rfl] at q
      exact ⟨true, ε', by simp only [VS.tOr, e, Option.bind_some, if_true], q⟩
/-! statements -/
theorem wp_sNil : wpS sNil ε QS ↔ QS .nx ε := ⟨fun ⟨_, _, e, q⟩ => by cases e; exact q, fun q => ⟨_, _, rfl, q⟩⟩
theorem wp_sBrk : wpS sBrk ε QS ↔ QS .bk ε := ⟨fun ⟨_, _, e, q⟩ => by cases e; exact q, fun q => ⟨_, _, rfl, q⟩⟩
theorem wp_sCnt : wpS sCnt ε QS ↔ QS .ct ε := ⟨fun ⟨_, _, e, q⟩ => by cases e; exact q, fun q => ⟨_, _, rfl, q⟩⟩
/-- what follows a statement -/
def thenS (b : S) (Q : Flw → Slots → Prop) (w : Flw) (ε : Slots) : Prop := match w with
  | .nx => wpS b ε Q
  | .bk => Q .bk ε
  | .ct => Q .ct ε
  | .rt d => Q (.rt d) ε
theorem wp_sSeq : wpS (sSeq sa sb) ε QS ↔ wpS sa ε (thenS sb QS) := by
  unfold wpS sSeq
  constructor
  · rintro ⟨w, ε', e, q⟩
    simp only [Option.bind_eq_some_iff] at e
    obtain ⟨⟨w1, ε1⟩, e1, e⟩ := e
    refine ⟨w1, ε1, e1, ?_⟩
    cases w1 with
    | nx => exact ⟨w, ε', e, q⟩
    | bk => cases e; exact q
    | ct => cases e; exact q
    | rt d => cases e; exact q
  · rintro ⟨w, ε', e, q⟩
    cases w with
    | nx =>
      obtain ⟨w, ε2, e2, q⟩ := q
      exact ⟨w, ε2, by simp only [e, Option.bind_some, e2], q⟩
    | bk => exact ⟨_, _, by simp only [e, Option.bind_some], q⟩
    | ct => exact ⟨_, _, by simp only [e, Option.bind_some], q⟩
    | rt d => exact ⟨_, _, by simp only [e, Option.bind_some], q⟩
theorem thenS_nx {Q : Flw → Slots → Prop} : thenS sb Q .nx ε ↔ wpS sb ε Q := Iff.rfl
theorem thenS_rt {Q : Flw → Slots → Prop} : thenS sb Q (.rt d) ε ↔ Q (.rt d) ε := Iff.rfl
theorem thenS_bk {Q : Flw → Slots → Prop} : thenS sb Q .bk ε ↔ Q .bk ε := Iff.rfl
theorem thenS_ct {Q : Flw → Slots → Prop} : thenS sb Q .ct ε ↔ Q .ct ε := Iff.rfl
theorem wp_sSet : wpS (sSet i m) ε QS ↔ wpV m ε fun d ε' => QS .nx (put ε' i d) := by
  rw [← wpV_val]
  unfold wpS sSet
  constructor
  · rintro ⟨w, ε', e, q⟩
    simp only [Option.bind_eq_some_iff] at e
    obtain ⟨⟨d, ε1⟩, e1, e⟩ := e
    cases e
    exact ⟨d, ε1, e1, q⟩
  · rintro ⟨d, ε', e, q⟩
    exact ⟨_, _, by simp only [e, Option.bind_some], q⟩
theorem wp_sDo : wpS (sDo m) ε QS ↔ wpV m ε fun _ ε' => QS .nx ε' := by
  rw [← wpV_val]
  unfold wpS sDo
  constructor
  · rintro ⟨w, ε', e, q⟩
    simp only [Option.bind_eq_some_iff] at e
    obtain ⟨⟨d, ε1⟩, e1, e⟩ := e
    cases e
    exact ⟨d, _, e1, q⟩
  · rintro ⟨d, ε', e, q⟩
    exact ⟨_, _, by simp only [e, Option.bind_some], q⟩
theorem wp_sRet : wpS (sRet m) ε QS ↔ wpV m ε fun d ε' => QS (.rt d) ε' := by
  rw [← wpV_val]
  unfold wpS sRet
  constructor
  · rintro ⟨w, ε', e, q⟩
    simp only [Option.bind_eq_some_iff] at e
    obtain ⟨⟨d, ε1⟩, e1, e⟩ := e
    cases e
    exact ⟨d, _, e1, q⟩
  · rintro ⟨d, ε', e, q⟩
    exact ⟨_, _, by simp only [e, Option.bind_some], q⟩
theorem wp_sIf : wpS (sIf t sa sb) ε QS ↔ wpT t ε fun c ε1 => if c = true then wpS sa ε1 QS else wpS sb ε1 QS := by
  unfold wpT
  constructor
  · rintro ⟨o, ε', e, q⟩
    simp only [sIf, Option.bind_eq_some_iff] at e
    obtain ⟨⟨c, ε1⟩, e1, e⟩ := e
    refine ⟨c, ε1, e1, ?_⟩
    cases c
    · exact (if_neg Bool.false_ne_true).mpr ⟨o, ε', by simpa using e, q⟩
    · exact (if_pos rfl).mpr ⟨o, ε', by simpa using e, q⟩
  · rintro ⟨c, ε1, e1, q⟩
    cases c
    · obtain ⟨o, ε', e, q⟩ := (if_neg Bool.false_ne_true).mp q
      exact ⟨o, ε', by simp [sIf, e1, e], q⟩
    · obtain ⟨o, ε', e, q⟩ := (if_pos rfl).mp q
      exact ⟨o, ε', by simp [sIf, e1, e], q⟩
theorem wp_sAsg {g : G} : wpS (sAsg g m) ε QS ↔ wpV m ε fun d ε1 => ∃ ε2, g d ε1 = some ε2 ∧ QS .nx ε2 := by
  rw [← wpV_val]
  unfold wpS sAsg
  constructor
  · rintro ⟨w, ε', e, q⟩
    simp only [Option.bind_eq_some_iff] at e
    obtain ⟨⟨d, ε1⟩, e1, ε2, e2, e⟩ := e
    cases e
    exact ⟨d, _, e1, _, e2, q⟩
  · rintro ⟨d, ε', e, ε2, e2, q⟩
    exact ⟨_, _, by simp only [e, e2, Option.bind_some], q⟩
theorem wp_sPar {j : Nat} : wpS (sPar i j a b) ε QS ↔ wpV a ε fun x ε1 => wpV b ε1 fun y ε2 => QS .nx (put (put ε2 i x) j y) := by
  rw [← wpV_val]
  unfold wpS sPar
  constructor
  · rintro ⟨w, ε', e, q⟩
    simp only [Option.bind_eq_some_iff] at e
    obtain ⟨⟨d, ε1⟩, e1, ⟨d2, ε2⟩, e2, e⟩ := e
    cases e
    exact ⟨d, _, e1, wpV_val.mp ⟨d2, ε2, e2, q⟩⟩
  · rintro ⟨d, ε', e, h⟩
    obtain ⟨d2, ε2, e2, q⟩ := wpV_val.mpr h
    exact ⟨_, _, by simp only [e, e2, Option.bind_some], q⟩
theorem wp_sSetIx : wpS (sSetIx i b a) ε QS ↔ wpV a ε fun x ε1 => wpV b ε1 fun y ε2 => ∃ k, y = .int k ∧ ∃ xs, lookL ε2 i = some xs ∧ ∃ j, ixN xs.length k = some j ∧ QS .nx (put ε2 i (.lst (xs.set j x))) := by
  rw [← wpV_val]
  unfold wpS sSetIx
  constructor
  · rintro ⟨w, ε', e, q⟩
    simp only [Option.bind_eq_some_iff] at e
    obtain ⟨⟨d, ε1⟩, e1, ⟨d2, ε2⟩, e2, e⟩ := e
    refine ⟨d, _, e1, wpV_val.mp ⟨d2, ε2, e2, ?_⟩⟩
    cases d2 with
    | int k =>
      simp only [Option.bind_eq_some_iff] at e
      obtain ⟨xs, h1, j, h2, e⟩ := e
      cases e
      exact ⟨k, rfl, xs, h1, j, h2, q⟩
    | _ => cases e
  · rintro ⟨d, ε', e, h⟩
    obtain ⟨d2, ε2, e2, k, rfl, xs, h1, j, h2, q⟩ := wpV_val.mpr h
    exact ⟨_, _, by simp only [e, e2, h1, h2, Option.bind_some], q⟩
/-! calls -/
theorem wp_anil : wpA [] ε QA ↔ QA [] ε := ⟨fun ⟨_, _, e, q⟩ => by cases e; exact q, fun q => ⟨_, _, rfl, q⟩⟩
theorem wp_av {as : List Arg} : wpA (.v m :: as) ε QA ↔ wpM m ε fun o ε1 => wpA as ε1 fun os ε2 => QA (o :: os) ε2 := by
  unfold wpA wpM
  constructor
  · rintro ⟨ds, ε', e, q⟩
    simp only [evalArgs, Option.bind_eq_some_iff] at e
    obtain ⟨⟨d, ε1⟩, e1, ⟨ds2, ε2⟩, e2, e⟩ := e
    cases e
    exact ⟨d, ε1, e1, ds2, _, e2, q⟩
  · rintro ⟨d, ε1, e1, ds, ε2, e2, q⟩
    exact ⟨_, _, by simp only [evalArgs, e1, e2, Option.bind_some], q⟩
theorem wp_aw {as : List Arg} : wpA (.w i :: as) ε QA ↔ wpA as ε fun os ε2 => QA (.slot i :: os) ε2 := by
  unfold wpA
  constructor
  · rintro ⟨ds, ε', e, q⟩
    simp only [evalArgs, Option.bind_eq_some_iff] at e
    obtain ⟨⟨ds2, ε2⟩, e2, e⟩ := e
    cases e
    exact ⟨ds2, _, e2, q⟩
  · rintro ⟨ds, ε2, e2, q⟩
    exact ⟨_, _, by simp only [evalArgs, e2, Option.bind_some], q⟩
theorem wp_call0 {fn : Fn} {as : List Arg} : wpM (eCall0 fn as) ε Q ↔ wpA as ε fun os ε1 => ∃ ds, gets os ε1 = some ds ∧ wpF fn ds fun d _ => Q (.val d) ε1 := by
  unfold wpM wpA wpF
  constructor
  · rintro ⟨o, ε', e, q⟩
    simp only [eCall0, Option.bind_eq_some_iff] at e
    obtain ⟨⟨os, ε1⟩, e1, ds, g, ⟨r, ws⟩, h, e⟩ := e
    cases e
    exact ⟨os, _, e1, ds, g, r, ws, h, q⟩
  · rintro ⟨os, ε1, e1, ds, g, r, ws, h, q⟩
    exact ⟨_, _, by simp only [eCall0, e1, g, h, Option.bind_some], q⟩
theorem wp_call1 {fn : Fn} {as : List Arg} : wpM (eCall1 fn as i) ε Q ↔ wpA as ε fun os ε1 => ∃ ds, gets os ε1 = some ds ∧ wpF fn ds fun d ws => ∃ w, ws = [w] ∧ Q (.val d) (put ε1 i w) := by
  unfold wpM wpA wpF
  constructor
  · rintro ⟨o, ε', e, q⟩
    simp only [eCall1, Option.bind_eq_some_iff] at e
    obtain ⟨⟨os, ε1⟩, e1, ds, g, ⟨r, ws⟩, h, e⟩ := e
    refine ⟨os, _, e1, ds, g, r, ws, h, ?_⟩
    match ws, e with
    | [w], e => cases e; exact ⟨w, rfl, q⟩
  · rintro ⟨os, ε1, e1, ds, g, r, ws, h, w, rfl, q⟩
    exact ⟨_, _, by simp only [eCall1, e1, g, h, Option.bind_some], q⟩
theorem wp_mut1 {f : List D → D → Option (List D × D)} : wpM (eMut1 i f a) ε Q ↔ ∃ xs, lookL ε i = some xs ∧ wpV a ε fun d ε1 => ∃ xs, lookL ε1 i = some xs ∧ ∃ r, f xs d = some r ∧ Q (.val r.2) (put ε1 i (.lst r.1)) := by
  constructor
  · rintro ⟨o, ε', e, q⟩
    simp only [eMut1, Option.bind_eq_some_iff] at e
    obtain ⟨xs, h1, ⟨d, ε1⟩, e1, ys, h2, r, h3, e⟩ := e
    cases e
    exact ⟨xs, h1, wpV_val.mp ⟨d, ε1, e1, ys, h2, r, h3, q⟩⟩
  · rintro ⟨xs, h1, h⟩
    obtain ⟨d, ε1, e1, ys, h2, r, h3, q⟩ := wpV_val.mpr h
    exact ⟨_, _, by simp only [eMut1, h1, e1, h2, h3, Option.bind_some], q⟩
theorem wp_mut0 {f : List D → Option (List D × D)} : wpM (eMut0 i f) ε Q ↔ ∃ xs, lookL ε i = some xs ∧ ∃ r, f xs = some r ∧ Q (.val r.2) (put ε i (.lst r.1)) := by
  constructor
  · rintro ⟨o, ε', e, q⟩
    simp only [eMut0, Option.bind_eq_some_iff] at e
    obtain ⟨xs, h1, r, h3, e⟩ := e
    cases e
    exact ⟨xs, h1, r, h3, q⟩
  · rintro ⟨xs, h1, r, h3, q⟩
    exact ⟨_, _, by simp only [eMut0, h1, h3, Option.bind_some], q⟩
/-- what is wanted at a def's end -/
def endS (ownp : List Nat) (P : D → List D → Prop) (w : Flw) (ε : Slots) : Prop := match w with
  | .rt d => ∃ ws, looks ε ownp = some ws ∧ P d ws
  | .nx => ∃ ws, looks ε ownp = some ws ∧ P .non ws
  | _ => False
theorem wp_run {n : Nat} {ownp : List Nat} {body : S} {ds : List D} {P : D → List D → Prop} : wpF (runDef n ownp body) ds P ↔ wpS body (startE n ds) (endS ownp P) := by
  unfold wpF wpS runDef
  constructor
  · rintro ⟨d, ws, e, q⟩
    simp only [Option.bind_eq_some_iff] at e
    obtain ⟨⟨w, ε1⟩, e1, e⟩ := e
    refine ⟨w, ε1, e1, ?_⟩
    cases w with
    | rt d =>
      simp only [Option.bind_eq_some_iff] at e
      obtain ⟨ws, h, e⟩ := e
      cases e
      exact ⟨_, h, q⟩
    | nx =>
      simp only [Option.bind_eq_some_iff] at e
      obtain ⟨ws, h, e⟩ := e
      cases e
      exact ⟨_, h, q⟩
    | _ => cases e
  · rintro ⟨w, ε1, e1, q⟩
    cases w with
    | rt d =>
      obtain ⟨ws, h, q⟩ := q
      exact ⟨_, _, by simp only [e1, h, Option.bind_some], q⟩
    | nx =>
      obtain ⟨ws, h, q⟩ := q
      exact ⟨_, _, by simp only [e1, h, Option.bind_some], q⟩
    | bk => exact q.elim
    | ct => exact q.elim
/-! loops -/
theorem wp_iA : wpI (iA m) ε QL ↔ wpV m ε fun d ε' => ∃ ds, dIter d = some ds ∧ QL ds ε' := by
  rw [← wpV_val]
  unfold wpI
  constructor
  · rintro ⟨ds, ε', e, q⟩
    simp only [iA, Option.bind_eq_some_iff] at e
    obtain ⟨⟨d, ε1⟩, e1, ds', h, e⟩ := e
    cases e
    exact ⟨d, _, e1, _, h, q⟩
  · rintro ⟨d, ε', e, ds, h, q⟩
    exact ⟨_, _, by simp only [iA, e, h, Option.bind_some], q⟩
theorem wp_iR1 : wpI (iR1 m) ε QL ↔ wpV m ε fun d ε' => ∃ j, d = .int j ∧ inB j = true ∧ QL (rangeL 0 1 j.toNat) ε' := by
  rw [← wpV_val]
  unfold wpI
  constructor
  · rintro ⟨ds, ε', e, q⟩
    simp only [iR1, Option.bind_eq_some_iff] at e
    obtain ⟨⟨d, ε1⟩, e1, e⟩ := e
    cases d with
    | int j =>
      simp only at e
      split at e
      · rename_i h
        cases e
        exact ⟨_, _, e1, j, rfl, h, q⟩
      · cases e
    | _ => cases e
  · rintro ⟨d, ε', e, j, rfl, h, q⟩
    exact ⟨_, _, by simp only [iR1, e, h, Option.bind_some, if_true], q⟩
theorem wp_iR2 : wpI (iR2 a b) ε QL ↔ wpV a ε fun d ε1 => wpV b ε1 fun d2 ε2 => ∃ i j, d = .int i ∧ d2 = .int j ∧ (inB i && inB j) = true ∧ QL (rangeL i 1 (j - i).toNat) ε2 := by
  rw [← wpV_val]
  unfold wpI
  constructor
  · rintro ⟨ds, ε', e, q⟩
    simp only [iR2, Option.bind_eq_some_iff] at e
    obtain ⟨⟨d, ε1⟩, e1, ⟨d2, ε2⟩, e2, e⟩ := e
    refine ⟨_, _, e1, wpV_val.mp ⟨_, _, e2, ?_⟩⟩
    cases d with
    | int j =>
      cases d2 with
      | int k =>
        simp only at e
        split at e
        · rename_i h
          cases e
          exact ⟨j, k, rfl, rfl, h, q⟩
        · cases e
      | _ => cases e
    | _ => cases e
  · rintro ⟨d, ε', e, h⟩
    obtain ⟨d2, ε2, e2, i, j, rfl, rfl, h, q⟩ := wpV_val.mpr h
    exact ⟨_, _, by simp only [iR2, e, e2, h, Option.bind_some, if_true], q⟩
theorem wp_sFor {it : I} {g : G} : wpS (sFor it g sb) ε QS ↔ wpI it ε fun ds ε1 => wpS (forL g sb ds) ε1 QS := by
  unfold wpS wpI
  constructor
  · rintro ⟨w, ε', e, q⟩
    simp only [sFor, Option.bind_eq_some_iff] at e
    obtain ⟨⟨ds, ε1⟩, e1, e⟩ := e
    exact ⟨ds, ε1, e1, w, ε', e, q⟩
  · rintro ⟨ds, ε1, e1, w, ε', e, q⟩
    exact ⟨w, ε', by simp only [sFor, e1, Option.bind_some, e], q⟩
theorem wp_for_nil {g : G} : wpS (forL g sb []) ε QS ↔ QS .nx ε := ⟨fun ⟨_, _, e, q⟩ => by cases e; exact q, fun q => ⟨_, _, rfl, q⟩⟩
/-- how a loop goes on behind a turn -/
def turnS (k : Slots → Prop) (Q : Flw → Slots → Prop) (w : Flw) (ε : Slots) : Prop := match w with
  | .nx => k ε
  | .ct => k ε
  | .bk => Q .nx ε
  | .rt d => Q (.rt d) ε
theorem wp_for_cons {g : G} {ds : List D} : wpS (forL g sb (d :: ds)) ε QS ↔ ∃ ε1, g d ε = some ε1 ∧ wpS sb ε1 (turnS (fun ε2 => wpS (forL g sb ds) ε2 QS) QS) := by
  unfold wpS
  constructor
  · rintro ⟨w, ε', e, q⟩
    simp only [forL, Option.bind_eq_some_iff] at e
    obtain ⟨ε1, h, ⟨w1, ε2⟩, e1, e⟩ := e
    refine ⟨ε1, h, w1, ε2, e1, ?_⟩
    cases w1 with
    | nx => exact ⟨w, ε', e, q⟩
    | ct => exact ⟨w, ε', e, q⟩
    | bk => cases e; exact q
    | rt d => cases e; exact q
  · rintro ⟨ε1, h, w1, ε2, e1, q⟩
    cases w1 with
    | nx =>
      obtain ⟨w, ε', e, q⟩ := q
      exact ⟨w, ε', by simp only [forL, h, e1, e, Option.bind_some], q⟩
    | ct =>
      obtain ⟨w, ε', e, q⟩ := q
      exact ⟨w, ε', by simp only [forL, h, e1, e, Option.bind_some], q⟩
    | bk => exact ⟨_, _, by simp only [forL, h, e1, Option.bind_some], q⟩
    | rt d => exact ⟨_, _, by simp only [forL, h, e1, Option.bind_some], q⟩
/-- a loop by its word: after i items -/
theorem wp_for {g : G} (W : Nat → Slots → Prop) {ds : List D} (h0 : W 0 ε)
    (hs : ∀ i d ε, ds[i]? = some d → W i ε → ∃ ε1, g d ε = some ε1 ∧ wpS sb ε1 (turnS (W (i + 1)) QS)) (hd : ∀ ε, W ds.length ε → QS .nx ε) : wpS (forL g sb ds) ε QS := by
  have gen : ∀ (rest : List D) (i : Nat) (ε : Slots), ds.drop i = rest → i ≤ ds.length → W i ε → wpS (forL g sb rest) ε QS := by
    intro rest
    induction rest with
    | nil =>
      intro i ε e hle w
      have hi : i = ds.length := by
        have := congrArg List.length e
        simp at this
        omega
      subst hi
      exact wp_for_nil.mpr (hd ε w)
    | cons d rest ih =>
      intro i ε e hle w
      have hlt : i < ds.length := by
        have := congrArg List.length e
        simp at this
        omega
      have hd' : ds[i]? = some d := by
        have := List.getElem?_drop (xs := ds) (i := i) (j := 0)
        rw [e] at this
        simpa using this.symm
      obtain ⟨ε1, g1, q⟩ := hs i d ε hd' w
      refine wp_for_cons.mpr ⟨ε1, g1, q.mono fun w ε2 z => ?_⟩
      have e2 : ds.drop (i + 1) = rest := by
        rw [← List.tail_drop, e]; rfl
      cases w with
      | nx => exact ih (i + 1) ε2 e2 hlt z
      | ct => exact ih (i + 1) ε2 e2 hlt z
      | bk => exact z
      | rt d => exact z
  exact gen ds 0 ε rfl (Nat.zero_le _) h0
theorem wp_while {n : Nat} (W : Slots → Prop) (μ : Slots → Nat) (h0 : W ε) (hn : μ ε < n)
    (hs : ∀ ε, W ε → wpT t ε fun c ε1 => if c = true then wpS sb ε1 (turnS (fun ε2 => W ε2 ∧ μ ε2 < μ ε) QS) else QS .nx ε1) : wpS (whileN t sb n) ε QS := by
  induction n generalizing ε with
  | zero => omega
  | succ n ih =>
    obtain ⟨c, ε1, e1, q⟩ := hs ε h0
    cases c with
    | false => exact ⟨.nx, ε1, by simp only [whileN, e1, Option.bind_some, Bool.false_eq_true, if_false], by simpa using q⟩
    | true =>
      obtain ⟨w, ε2, e2, q⟩ := (if_pos rfl).mp q
      cases w with
      | nx =>
        obtain ⟨w', ε', e, q'⟩ := ih q.1 (by have := q.2; omega)
        exact ⟨w', ε', by simp only [whileN, e1, e2, Option.bind_some, if_true, e], q'⟩
      | ct =>
        obtain ⟨w', ε', e, q'⟩ := ih q.1 (by have := q.2; omega)
        exact ⟨w', ε', by simp only [whileN, e1, e2, Option.bind_some, if_true, e], q'⟩
      | bk => exact ⟨.nx, ε2, by simp only [whileN, e1, e2, Option.bind_some, if_true], q⟩
      | rt d => exact ⟨.rt d, ε2, by simp only [whileN, e1, e2, Option.bind_some, if_true], q⟩
end
end L2.VS

/-! ### operators at values of known kinds -/
namespace L2.VS
section
variable {i j : Int} {a b : Bool} {x y : List Nat} {xs ys : List D} {d e : D}
theorem add_ii : dAdd (.int i) (.int j) = some (.int (i + j)) := rfl
theorem add_ss (h : x.length + y.length ≤ 16777216) : dAdd (.str x) (.str y) = some (.str (x ++ y)) := by simp [dAdd, lenOk, h]
theorem add_ll (h : xs.length + ys.length ≤ 16777216) : dAdd (.lst xs) (.lst ys) = some (.lst (xs ++ ys)) := by simp [dAdd, lenOk, h]
theorem add_tt (h : xs.length + ys.length ≤ 16777216) : dAdd (.tup xs) (.tup ys) = some (.tup (xs ++ ys)) := by simp [dAdd, lenOk, h]
theorem addL_ll (h : xs.length + ys.length ≤ 16777216) : dAddL (.lst xs) (.lst ys) = some (.lst (xs ++ ys)) := by simp [dAddL, lenOk, h]
theorem sub_ii : dSub (.int i) (.int j) = some (.int (i - j)) := rfl
theorem mul_ii (h : mulOk i j = true) : dMul (.int i) (.int j) = some (.int (i * j)) := by simp [dMul, h]
theorem mul_lit (h : smallI i = true) : dMul (.int i) (.int j) = some (.int (i * j)) := by simp [dMul, mulOk, h]
theorem mul_litr (h : smallI j = true) : dMul (.int i) (.int j) = some (.int (i * j)) := by simp [dMul, mulOk, h]
theorem fdiv_ii (h : divOk j = true) : dFdiv (.int i) (.int j) = some (.int (i.fdiv j)) := by simp [dFdiv, h]
theorem mod_ii (h : j ≠ 0) : dMod (.int i) (.int j) = some (.int (i.fmod j)) := by simp [dMod, h]
theorem pow_ii (h : powOk i j = true) : dPow (.int i) (.int j) = some (.int (i ^ j.toNat)) := by simp [dPow, h]
theorem shl_ii (h : powOk i j = true) : dShl (.int i) (.int j) = some (.int (i * 2 ^ j.toNat)) := by simp [dShl, h]
theorem shr_ii (h : 0 ≤ j) : dShr (.int i) (.int j) = some (.int (i / 2 ^ j.toNat)) := by simp [dShr, h]
theorem and_ii : dAnd (.int i) (.int j) = some (.int (PySem.Builtin.bitAnd i j)) := rfl
theorem neg_i : dNeg (.int i) = some (.int (-i)) := rfl
theorem lt_ii : dLt (.int i) (.int j) = some (.bl (decide (i < j))) := rfl
theorem le_ii : dLe (.int i) (.int j) = some (.bl (decide (i ≤ j))) := rfl
theorem gt_ii : dGt (.int i) (.int j) = some (.bl (decide (j < i))) := rfl
theorem ge_ii : dGe (.int i) (.int j) = some (.bl (decide (j ≤ i))) := rfl
theorem eq_ii : dEq (.int i) (.int j) = some (.bl (decide (i = j))) := by simp [dEq, canEq, deq, Bool.beq_eq_decide_eq]
theorem ne_ii : dNe (.int i) (.int j) = some (.bl (!decide (i = j))) := by simp [dNe, canEq, deq, Bool.beq_eq_decide_eq]
theorem eq_bb : dEq (.bl a) (.bl b) = some (.bl (a == b)) := by simp [dEq, canEq, deq]
theorem ne_bb : dNe (.bl a) (.bl b) = some (.bl (!(a == b))) := by simp [dNe, canEq, deq]
theorem eq_ss : dEq (.str x) (.str y) = some (.bl (decide (x = y))) := by simp [dEq, canEq, deq]
theorem ne_ss : dNe (.str x) (.str y) = some (.bl (!decide (x = y))) := by simp [dNe, canEq, deq]
theorem eq_of (h : canEq d 60 = true) (h2 : canEq e 60 = true) : dEq d e = some (.bl (deq d e)) := by simp [dEq, h, h2]
theorem ne_of' (h : canEq d 60 = true) (h2 : canEq e 60 = true) : dNe d e = some (.bl (!deq d e)) := by simp [dNe, h, h2]
theorem int_i : dInt (.int i) = some (.int i) := rfl
theorem int_b : dInt (.bl a) = some (.int (if a = true then 1 else 0)) := rfl
theorem abs_i : dAbs (.int i) = some (.int (if i < 0 then -i else i)) := rfl
theorem min_ii : dMin2 (.int i) (.int j) = some (.int (if j < i then j else i)) := rfl
theorem max_ii : dMax2 (.int i) (.int j) = some (.int (if j > i then j else i)) := rfl
theorem len_l : dLen (.lst xs) = some (.int (xs.length : Nat)) := rfl
theorem len_f : dLen (.fz xs) = some (.int (xs.length : Nat)) := rfl
theorem len_t : dLen (.tup xs) = some (.int (xs.length : Nat)) := rfl
theorem len_s (h : x.length ≤ 16777216) : dLen (.str x) = some (.int (x.length : Nat)) := by simp [dLen, lenOk, h]
theorem list_l : dList (.lst xs) = some (.lst xs) := rfl
theorem list_t : dList (.tup xs) = some (.lst xs) := rfl
theorem tuple_l : dTuple (.lst xs) = some (.tup xs) := rfl
theorem tuple_t : dTuple (.tup xs) = some (.tup xs) := rfl
theorem not_b : dNot (.bl a) = some (.bl (!a)) := rfl
theorem truth_b : truth (.bl a) = some a := rfl
theorem truth_i : truth (.int i) = some (i != 0) := rfl
theorem ix_l : dIx (.lst xs) (.int i) = atI xs i := rfl
theorem ix_f : dIx (.fz xs) (.int i) = atI xs i := rfl
theorem ix_t : dIx (.tup xs) (.int i) = atI xs i := rfl
theorem at_nat {α : Type} {l : List α} {k : Nat} {z : α} (h : l[k]? = some z) : atI l (k : Int) = some z := by
  have hk := (List.getElem?_eq_some_iff.mp h).1
  unfold atI ixN
  rw [if_pos (by omega), if_pos (by omega)]
  simpa using h
theorem at_int {α : Type} {l : List α} {z : α} (h0 : 0 ≤ i) (h : l[i.toNat]? = some z) : atI l i = some z := by
  have := at_nat h
  rwa [Int.toNat_of_nonneg h0] at this
theorem at_0 {α : Type} {p : α} {l : List α} : atI (p :: l) 0 = some p := at_nat (k := 0) rfl
theorem at_1 {α : Type} {p q : α} {l : List α} : atI (p :: q :: l) 1 = some q := at_nat (k := 1) rfl
theorem at_2 {α : Type} {p q r : α} {l : List α} : atI (p :: q :: r :: l) 2 = some r := at_nat (k := 2) rfl
theorem at_3 {α : Type} {p q r s : α} {l : List α} : atI (p :: q :: r :: s :: l) 3 = some s := at_nat (k := 3) rfl
theorem ixN_4 : ixN 4 1 = some 1 ∧ ixN 4 2 = some 2 ∧ ixN 4 3 = some 3 := ⟨rfl, rfl, rfl⟩
theorem ixN_int {n : Nat} (h0 : 0 ≤ i) (h : i < n) : ixN n i = some i.toNat := by
  unfold ixN
  rw [if_pos h0, if_pos h]
theorem app_ok (h : xs.length < 16777216) : fApp xs d = some (xs ++ [d], .non) := by simp [fApp, h]
theorem lookL_of {ε : Slots} {k : Nat} (h : look ε k = some (.lst xs)) : lookL ε k = some xs := by simp [lookL, h]
end
theorem mulOk_b {i j : Int} (hi : 0 ≤ i) (hi2 : i < 2 ^ 200) (hj : 0 ≤ j) (hj2 : j < 2 ^ 200) : mulOk i j = true := by
  have h1 : i.natAbs.log2 < 200 := PySem.Flt.log2_lt_of (by decide) (by omega)
  have h2 : j.natAbs.log2 < 200 := PySem.Flt.log2_lt_of (by decide) (by omega)
  simp [mulOk]
  omega
end L2.VS

/-! What the draws of a law's script give. -/
namespace L2.VS
open PySem PySem.Spec PyProof.Rows
def u_law_mixed_b : S :=
  (sSeq (sSet 2 (e2 dMod (e1 dInt (e2 dAdd (e2 dAdd (e2 dMul (eV 0) (eC (.int 48271))) (e2 dMul (eV 1) (eC (.int 69621)))) (eC (.int 11)))) (eC (.int 618970019642690137449562111))))
  (sSeq (sSet 3 (e2 dMod (e1 dInt (e2 dAdd (e2 dAdd (e2 dMul (eV 2) (eV 2)) (e2 dMul (eC (.int 7)) (eV 2))) (eV 1))) (eC (.int 162259276829213363391578010288127))))
  (sSeq (sSet 4 (e2 dMod (e1 dInt (e2 dAdd (e2 dMul (eV 3) (eV 3)) (eV 2))) (eC (.int 618970019642690137449562111))))
  (sRet (e2 dAdd (e2 dMul (eV 3) (eC (.int 618970019642690137449562111))) (eV 4))))))
def u_law_mixed_f : Fn := runDef 5 [] u_law_mixed_b
def u_law_rest_b : S :=
  (sSeq (sSet 3 (eC (.int 0)))
  (sSeq (sIf (VS.tB (e2 dGt (e1 dLen (eV 0)) (eC (.int 0)))) (sSet 3 (e1 dInt (e2 dIx (eV 0) (e2 dMod (e1 dInt (eV 1)) (e1 dLen (eV 0)))))) sNil)
  (sSeq (sIf (VS.tB (e2 dLt (eV 3) (eC (.int 0)))) (sSet 3 (e2 dSub (eC (.int 1)) (e2 dMul (eC (.int 2)) (eV 3)))) sNil)
  (sSeq (sIf (VS.tAnd (VS.tB (e2 dEq (eV 2) (eC (.int 0)))) (VS.tAnd (VS.tB (e2 dLt (eV 1) (e1 dLen (eV 0)))) (VS.tB (e2 dGe (eV 3) (e2 dPow (eC (.int 10)) (eC (.int 18))))))) (sRet (e2 dSub (eV 3) (e2 dPow (eC (.int 10)) (eC (.int 18))))) sNil)
  (sRet (eCall0 u_law_mixed_f [.v (e2 dAdd (eV 3) (e2 dMul (eV 2) (eC (.int 1000003)))), .v (eV 1)]))))))
def u_law_rest_f : Fn := runDef 4 [] u_law_rest_b
def u_law_pool_b : S :=
  (sRet (eLst [(eV 0), (eC (.int 0)), (eCall0 u_law_rest_f [.v (eV 0), .v (eC (.int 0)), .v (eC (.int 0))]), (eC (.int 0))]))
def u_law_pool_f : Fn := runDef 1 [] u_law_pool_b
def u_law_draw_b : S :=
  (sSeq (sIf (VS.tB (e2 dLe (e2 dIx (eO 0) (eC (.int 2))) (eC (.int 1)))) (sSeq (sSetIx 0 (eC (.int 3)) (e2 dAdd (e2 dIx (eO 0) (eC (.int 3))) (eC (.int 1))))
  (sSetIx 0 (eC (.int 2)) (eCall0 u_law_rest_f [.v (e2 dIx (eO 0) (eC (.int 0))), .v (e2 dIx (eO 0) (eC (.int 1))), .v (e2 dIx (eO 0) (eC (.int 3)))]))) sNil)
  (sSeq (sSet 2 (e2 dMod (e1 dInt (e2 dIx (eO 0) (eC (.int 2)))) (eV 1)))
  (sSeq (sSetIx 0 (eC (.int 2)) (e2 dFdiv (e1 dInt (e2 dIx (eO 0) (eC (.int 2)))) (eV 1)))
  (sRet (eV 2)))))
def u_law_draw_f : Fn := runDef 3 [0] u_law_draw_b
def u_law_pick_b : S :=
  (sRet (e2 dIx (eV 1) (eCall1 u_law_draw_f [.w 0, .v (e1 dLen (eV 1))] 0)))
def u_law_pick_f : Fn := runDef 2 [0] u_law_pick_b
def u_law_next_b : S :=
  (sSeq (sSetIx 0 (eC (.int 1)) (e2 dAdd (e2 dIx (eO 0) (eC (.int 1))) (eC (.int 1))))
  (sSeq (sSetIx 0 (eC (.int 2)) (eCall0 u_law_rest_f [.v (e2 dIx (eO 0) (eC (.int 0))), .v (e2 dIx (eO 0) (eC (.int 1))), .v (eC (.int 0))]))
  (sSetIx 0 (eC (.int 3)) (eC (.int 0)))))
def u_law_next_f : Fn := runDef 1 [0] u_law_next_b
theorem small_ok : smallI 48271 = true ∧ smallI 69621 = true ∧ smallI 7 = true ∧ smallI 1000003 = true ∧ smallI 2 = true := by decide
theorem mixed_ok (n p : Int) : wpF u_law_mixed_f [.int n, .int p] fun d ws => (∃ r : Int, d = .int r) ∧ ws = [] := by
  have m1 : ∀ x : Int, 0 ≤ x.fmod 618970019642690137449562111 ∧ x.fmod 618970019642690137449562111 < 618970019642690137449562111 := fun x => ⟨Int.fmod_nonneg_of_pos x (by decide), Int.fmod_lt_of_pos x (by decide)⟩
  have m2 : ∀ x : Int, 0 ≤ x.fmod 162259276829213363391578010288127 ∧ x.fmod 162259276829213363391578010288127 < 162259276829213363391578010288127 := fun x => ⟨Int.fmod_nonneg_of_pos x (by decide), Int.fmod_lt_of_pos x (by decide)⟩
  unfold u_law_mixed_f u_law_mixed_b
  simp only [wp_run, endS, startE, wp_sSeq, thenS, wp_sSet, wp_sIf, wp_sRet, wp_sDo, wp_sNil, wp_sAsg, wp_sPar, wp_sSetIx, wp_tB, wp_tTru, wp_tNot, wp_tAnd, wp_tOr, wp_wpV, wp_C, wp_V, wp_O, wp_R, wp_e1, wp_e2, wp_if, wp_and, wp_or, wp_lst, wp_tup, wp_nil, wp_cons, wp_call0, wp_call1, wp_anil, wp_av, wp_aw, wp_mut1, wp_mut0, gets, looks, look, put, lookL, Opd.get, Option.some.injEq, Option.bind_some, exists_eq_left', exists_eq_left, List.map, List.length_cons, List.length_nil, List.replicate, List.cons_append, List.nil_append, add_ii, sub_ii, mul_lit, mul_litr, mod_ii, fdiv_ii, neg_i, lt_ii, le_ii, gt_ii, ge_ii, eq_ii, ne_ii, eq_bb, ne_bb, int_i, int_b, abs_i, len_l, len_f, len_t, list_l, list_t, tuple_l, tuple_t, not_b, truth_b, truth_i, ix_l, ix_f, ix_t, ne_eq, if_true, decide_eq_true_eq, D.int.injEq, D.bl.injEq, reduceCtorEq, Int.reduceEq, Int.reduceNeg, Nat.reduceAdd, Nat.reduceSub, not_false_eq_true, gN, gT, gTs, at_0, at_1, at_2, at_3, ixN_4, List.set_cons_zero, List.set_cons_succ, Nat.reduceAdd, List.set, small_ok]
  generalize hx : Int.fmod _ 618970019642690137449562111 = x
  have hx0 := m1 (n * 48271 + p * 69621 + 11)
  rw [hx] at hx0
  rw [mul_ii (mulOk_b hx0.1 (by omega) hx0.1 (by omega))]
  simp only [wp_run, endS, startE, wp_sSeq, thenS, wp_sSet, wp_sIf, wp_sRet, wp_sDo, wp_sNil, wp_sAsg, wp_sPar, wp_sSetIx, wp_tB, wp_tTru, wp_tNot, wp_tAnd, wp_tOr, wp_wpV, wp_C, wp_V, wp_O, wp_R, wp_e1, wp_e2, wp_if, wp_and, wp_or, wp_lst, wp_tup, wp_nil, wp_cons, wp_call0, wp_call1, wp_anil, wp_av, wp_aw, wp_mut1, wp_mut0, gets, looks, look, put, lookL, Opd.get, Option.some.injEq, Option.bind_some, exists_eq_left', exists_eq_left, List.map, List.length_cons, List.length_nil, List.replicate, List.cons_append, List.nil_append, add_ii, sub_ii, mul_lit, mul_litr, mod_ii, fdiv_ii, neg_i, lt_ii, le_ii, gt_ii, ge_ii, eq_ii, ne_ii, eq_bb, ne_bb, int_i, int_b, abs_i, len_l, len_f, len_t, list_l, list_t, tuple_l, tuple_t, not_b, truth_b, truth_i, ix_l, ix_f, ix_t, ne_eq, if_true, decide_eq_true_eq, D.int.injEq, D.bl.injEq, reduceCtorEq, Int.reduceEq, Int.reduceNeg, Nat.reduceAdd, Nat.reduceSub, not_false_eq_true, gN, gT, gTs, at_0, at_1, at_2, at_3, ixN_4, List.set_cons_zero, List.set_cons_succ, Nat.reduceAdd, List.set, small_ok]
  generalize hy : Int.fmod _ 162259276829213363391578010288127 = y
  have hy0 := m2 (x * x + 7 * x + p)
  rw [hy] at hy0
  rw [mul_ii (mulOk_b hy0.1 (by omega) hy0.1 (by omega))]
  simp only [wp_run, endS, startE, wp_sSeq, thenS, wp_sSet, wp_sIf, wp_sRet, wp_sDo, wp_sNil, wp_sAsg, wp_sPar, wp_sSetIx, wp_tB, wp_tTru, wp_tNot, wp_tAnd, wp_tOr, wp_wpV, wp_C, wp_V, wp_O, wp_R, wp_e1, wp_e2, wp_if, wp_and, wp_or, wp_lst, wp_tup, wp_nil, wp_cons, wp_call0, wp_call1, wp_anil, wp_av, wp_aw, wp_mut1, wp_mut0, gets, looks, look, put, lookL, Opd.get, Option.some.injEq, Option.bind_some, exists_eq_left', exists_eq_left, List.map, List.length_cons, List.length_nil, List.replicate, List.cons_append, List.nil_append, add_ii, sub_ii, mul_lit, mul_litr, mod_ii, fdiv_ii, neg_i, lt_ii, le_ii, gt_ii, ge_ii, eq_ii, ne_ii, eq_bb, ne_bb, int_i, int_b, abs_i, len_l, len_f, len_t, list_l, list_t, tuple_l, tuple_t, not_b, truth_b, truth_i, ix_l, ix_f, ix_t, ne_eq, if_true, decide_eq_true_eq, D.int.injEq, D.bl.injEq, reduceCtorEq, Int.reduceEq, Int.reduceNeg, Nat.reduceAdd, Nat.reduceSub, not_false_eq_true, gN, gT, gTs, at_0, at_1, at_2, at_3, ixN_4, List.set_cons_zero, List.set_cons_succ, Nat.reduceAdd, List.set, small_ok]
  rw [mul_ii (mulOk_b hy0.1 (by omega) (by decide) (by decide))]
  simp only [wp_run, endS, startE, wp_sSeq, thenS, wp_sSet, wp_sIf, wp_sRet, wp_sDo, wp_sNil, wp_sAsg, wp_sPar, wp_sSetIx, wp_tB, wp_tTru, wp_tNot, wp_tAnd, wp_tOr, wp_wpV, wp_C, wp_V, wp_O, wp_R, wp_e1, wp_e2, wp_if, wp_and, wp_or, wp_lst, wp_tup, wp_nil, wp_cons, wp_call0, wp_call1, wp_anil, wp_av, wp_aw, wp_mut1, wp_mut0, gets, looks, look, put, lookL, Opd.get, Option.some.injEq, Option.bind_some, exists_eq_left', exists_eq_left, List.map, List.length_cons, List.length_nil, List.replicate, List.cons_append, List.nil_append, add_ii, sub_ii, mul_lit, mul_litr, mod_ii, fdiv_ii, neg_i, lt_ii, le_ii, gt_ii, ge_ii, eq_ii, ne_ii, eq_bb, ne_bb, int_i, int_b, abs_i, len_l, len_f, len_t, list_l, list_t, tuple_l, tuple_t, not_b, truth_b, truth_i, ix_l, ix_f, ix_t, ne_eq, if_true, decide_eq_true_eq, D.int.injEq, D.bl.injEq, reduceCtorEq, Int.reduceEq, Int.reduceNeg, Nat.reduceAdd, Nat.reduceSub, not_false_eq_true, gN, gT, gTs, at_0, at_1, at_2, at_3, ixN_4, List.set_cons_zero, List.set_cons_succ, Nat.reduceAdd, List.set, small_ok]
  exact ⟨⟨_, rfl⟩, trivial⟩
theorem at_mod {α : Type} (l : List α) (hl : 0 < l.length) (p : Int) : ∃ x, atI l (p.fmod (l.length : Nat)) = some x ∧ x ∈ l := by
  have h0 := Int.fmod_nonneg_of_pos p (show (0 : Int) < (l.length : Nat) by omega)
  have h1 := Int.fmod_lt_of_pos p (show (0 : Int) < (l.length : Nat) by omega)
  have hk : (p.fmod (l.length : Nat)).toNat < l.length := by omega
  exact ⟨l[(p.fmod (l.length : Nat)).toNat], at_int h0 (List.getElem?_eq_getElem hk), List.getElem_mem hk⟩
theorem rest_ok (ns : List Int) (p f : Int) : wpF u_law_rest_f [.fz (ns.map .int), .int p, .int f] fun d ws => (∃ r : Int, d = .int r) ∧ ws = [] := by
  have pw : powOk 10 18 = true := by decide
  have fin : ∀ n : Int, wpS (sSeq (sIf (VS.tB (e2 dLt (eV 3) (eC (.int 0)))) (sSet 3 (e2 dSub (eC (.int 1)) (e2 dMul (eC (.int 2)) (eV 3)))) sNil)
      (sSeq (sIf (VS.tAnd (VS.tB (e2 dEq (eV 2) (eC (.int 0)))) (VS.tAnd (VS.tB (e2 dLt (eV 1) (e1 dLen (eV 0)))) (VS.tB (e2 dGe (eV 3) (e2 dPow (eC (.int 10)) (eC (.int 18))))))) (sRet (e2 dSub (eV 3) (e2 dPow (eC (.int 10)) (eC (.int 18))))) sNil)
      (sRet (eCall0 u_law_mixed_f [.v (e2 dAdd (eV 3) (e2 dMul (eV 2) (eC (.int 1000003)))), .v (eV 1)])))) [some (.fz (ns.map .int)), some (.int p), some (.int f), some (.int n)]
      (endS [] fun d ws => (∃ r : Int, d = .int r) ∧ ws = []) := fun n => by
    have last : ∀ n : Int, wpF u_law_mixed_f [.int (n + f * 1000003), .int p] fun d _ => (∃ r : Int, d = .int r) ∧ True := fun n => (mixed_ok _ _).mono fun _ _ h => ⟨h.1, trivial⟩
    simp only [wp_run, endS, startE, wp_sSeq, thenS, wp_sSet, wp_sIf, wp_sRet, wp_sDo, wp_sNil, wp_sAsg, wp_sPar, wp_sSetIx, wp_tB, wp_tTru, wp_tNot, wp_tAnd, wp_tOr, wp_wpV, wp_C, wp_V, wp_O, wp_R, wp_e1, wp_e2, wp_if, wp_and, wp_or, wp_lst, wp_tup, wp_nil, wp_cons, wp_call0, wp_call1, wp_anil, wp_av, wp_aw, wp_mut1, wp_mut0, gets, looks, look, put, lookL, Opd.get, Option.some.injEq, Option.bind_some, exists_eq_left', exists_eq_left, List.map, List.length_cons, List.length_nil, List.replicate, List.cons_append, List.nil_append, add_ii, sub_ii, mul_lit, mul_litr, mod_ii, fdiv_ii, neg_i, lt_ii, le_ii, gt_ii, ge_ii, eq_ii, ne_ii, eq_bb, ne_bb, int_i, int_b, abs_i, len_l, len_f, len_t, list_l, list_t, tuple_l, tuple_t, not_b, truth_b, truth_i, ix_l, ix_f, ix_t, ne_eq, if_true, decide_eq_true_eq, D.int.injEq, D.bl.injEq, reduceCtorEq, Int.reduceEq, Int.reduceNeg, Nat.reduceAdd, Nat.reduceSub, not_false_eq_true, gN, gT, gTs, at_0, at_1, at_2, at_3, ixN_4, List.set_cons_zero, List.set_cons_succ, Nat.reduceAdd, List.set, small_ok, pow_ii pw]
    repeat' split
    all_goals first | exact ⟨⟨_, rfl⟩, trivial⟩ | exact last _ | contradiction
  unfold u_law_rest_f u_law_rest_b
  rw [wp_run, wp_sSeq, wp_sSet]
  simp only [wp_wpV, wp_C, Opd.get, Option.some.injEq, exists_eq_left', startE, List.map, List.length_cons, List.length_nil, List.replicate, List.cons_append, List.nil_append, put, thenS]
  rw [wp_sSeq]
  simp only [wp_sIf, wp_tB, wp_wpV, wp_e2, wp_e1, wp_V, look, wp_C, Opd.get, Option.some.injEq, exists_eq_left', len_f, gt_ii, D.bl.injEq, List.length_map]
  split
  · rename_i h
    have hl : 0 < ns.length := by simpa using h
    obtain ⟨x, hx, hm⟩ := at_mod (ns.map D.int) (by simpa using hl) p
    obtain ⟨n, _, rfl⟩ := List.mem_map.mp hm
    have hn : ((ns.length : Nat) : Int) ≠ 0 := by omega
    rw [List.length_map] at hx
    simp only [wp_sSet, wp_wpV, wp_e2, wp_e1, wp_V, look, Opd.get, Option.some.injEq, exists_eq_left', int_i, len_f, mod_ii hn, List.length_map, ix_f, hx, put, thenS]
    exact fin n
  · simp only [wp_sNil, thenS]
    exact fin 0
/-- the draws' pool -/
def IsPool (ns : List Int) (d : D) : Prop := ∃ a b c : Int, d = .lst [.fz (ns.map .int), .int a, .int b, .int c]
theorem pool_ok (ns : List Int) : wpF u_law_pool_f [.fz (ns.map .int)] fun d ws => IsPool ns d ∧ ws = [] := by
  unfold u_law_pool_f u_law_pool_b
  simp only [wp_run, endS, startE, wp_sSeq, thenS, wp_sSet, wp_sIf, wp_sRet, wp_sDo, wp_sNil, wp_sAsg, wp_sPar, wp_sSetIx, wp_tB, wp_tTru, wp_tNot, wp_tAnd, wp_tOr, wp_wpV, wp_C, wp_V, wp_O, wp_R, wp_e1, wp_e2, wp_if, wp_and, wp_or, wp_lst, wp_tup, wp_nil, wp_cons, wp_call0, wp_call1, wp_anil, wp_av, wp_aw, wp_mut1, wp_mut0, gets, looks, look, put, lookL, Opd.get, Option.some.injEq, Option.bind_some, exists_eq_left', exists_eq_left, List.map, List.length_cons, List.length_nil, List.replicate, List.cons_append, List.nil_append, add_ii, sub_ii, mul_lit, mul_litr, mod_ii, fdiv_ii, neg_i, lt_ii, le_ii, gt_ii, ge_ii, eq_ii, ne_ii, eq_bb, ne_bb, int_i, int_b, abs_i, len_l, len_f, len_t, list_l, list_t, tuple_l, tuple_t, not_b, truth_b, truth_i, ix_l, ix_f, ix_t, ne_eq, if_true, decide_eq_true_eq, D.int.injEq, D.bl.injEq, reduceCtorEq, Int.reduceEq, Int.reduceNeg, Nat.reduceAdd, Nat.reduceSub, not_false_eq_true, gN, gT, gTs, at_0, at_1, at_2, at_3, ixN_4, List.set_cons_zero, List.set_cons_succ, Nat.reduceAdd, List.set]
  refine (rest_ok ns 0 0).mono fun d ws h => ?_
  obtain ⟨⟨r, rfl⟩, _⟩ := h
  exact ⟨⟨_, _, _, rfl⟩, trivial⟩
theorem next_ok {ns : List Int} {d : D} (h : IsPool ns d) : wpF u_law_next_f [d] fun z ws => z = .non ∧ ∃ d', ws = [d'] ∧ IsPool ns d' := by
  obtain ⟨a, b, c, rfl⟩ := h
  unfold u_law_next_f u_law_next_b
  simp only [wp_run, endS, startE, wp_sSeq, thenS, wp_sSet, wp_sIf, wp_sRet, wp_sDo, wp_sNil, wp_sAsg, wp_sPar, wp_sSetIx, wp_tB, wp_tTru, wp_tNot, wp_tAnd, wp_tOr, wp_wpV, wp_C, wp_V, wp_O, wp_R, wp_e1, wp_e2, wp_if, wp_and, wp_or, wp_lst, wp_tup, wp_nil, wp_cons, wp_call0, wp_call1, wp_anil, wp_av, wp_aw, wp_mut1, wp_mut0, gets, looks, look, put, lookL, Opd.get, Option.some.injEq, Option.bind_some, exists_eq_left', exists_eq_left, List.map, List.length_cons, List.length_nil, List.replicate, List.cons_append, List.nil_append, add_ii, sub_ii, mul_lit, mul_litr, mod_ii, fdiv_ii, neg_i, lt_ii, le_ii, gt_ii, ge_ii, eq_ii, ne_ii, eq_bb, ne_bb, int_i, int_b, abs_i, len_l, len_f, len_t, list_l, list_t, tuple_l, tuple_t, not_b, truth_b, truth_i, ix_l, ix_f, ix_t, ne_eq, if_true, decide_eq_true_eq, D.int.injEq, D.bl.injEq, reduceCtorEq, Int.reduceEq, Int.reduceNeg, Nat.reduceAdd, Nat.reduceSub, not_false_eq_true, gN, gT, gTs, at_0, at_1, at_2, at_3, ixN_4, List.set_cons_zero, List.set_cons_succ, Nat.reduceAdd, List.set]
  refine (rest_ok ns (a + 1) 0).mono fun d ws h => ?_
  obtain ⟨⟨r, rfl⟩, _⟩ := h
  exact ⟨trivial, ⟨_, rfl, _, _, _, rfl⟩⟩
theorem draw_ok {ns : List Int} {d : D} (h : IsPool ns d) {n : Int} (hn : 0 < n) (hn2 : n < 4611686018427387904) : wpF u_law_draw_f [d, .int n] fun z ws => ∃ v : Int, z = .int v ∧ 0 ≤ v ∧ v < n ∧ ∃ d', ws = [d'] ∧ IsPool ns d' := by
  obtain ⟨a, b, c, rfl⟩ := h
  have hd : divOk n = true := by
    have : n.natAbs.log2 < 9000 := PySem.Flt.log2_lt_of (by decide) (Nat.lt_trans (show n.natAbs < 2 ^ 62 by omega) (by decide +kernel))
    have h0 : n ≠ 0 := by omega
    simp [divOk, this, h0]
  have hm : n ≠ 0 := by omega
  have fin : ∀ b c : Int, wpS (sSeq (sSet 2 (e2 dMod (e1 dInt (e2 dIx (eO 0) (eC (.int 2)))) (eV 1)))
      (sSeq (sSetIx 0 (eC (.int 2)) (e2 dFdiv (e1 dInt (e2 dIx (eO 0) (eC (.int 2)))) (eV 1))) (sRet (eV 2)))) [some (.lst [.fz (ns.map .int), .int a, .int b, .int c]), some (.int n), none]
      (endS [0] fun z ws => ∃ v : Int, z = .int v ∧ 0 ≤ v ∧ v < n ∧ ∃ d', ws = [d'] ∧ IsPool ns d') := fun b c => by
    simp only [wp_run, endS, startE, wp_sSeq, thenS, wp_sSet, wp_sIf, wp_sRet, wp_sDo, wp_sNil, wp_sAsg, wp_sPar, wp_sSetIx, wp_tB, wp_tTru, wp_tNot, wp_tAnd, wp_tOr, wp_wpV, wp_C, wp_V, wp_O, wp_R, wp_e1, wp_e2, wp_if, wp_and, wp_or, wp_lst, wp_tup, wp_nil, wp_cons, wp_call0, wp_call1, wp_anil, wp_av, wp_aw, wp_mut1, wp_mut0, gets, looks, look, put, lookL, Opd.get, Option.some.injEq, Option.bind_some, exists_eq_left', exists_eq_left, List.map, List.length_cons, List.length_nil, List.replicate, List.cons_append, List.nil_append, add_ii, sub_ii, mul_lit, mul_litr, mod_ii, fdiv_ii, neg_i, lt_ii, le_ii, gt_ii, ge_ii, eq_ii, ne_ii, eq_bb, ne_bb, int_i, int_b, abs_i, len_l, len_f, len_t, list_l, list_t, tuple_l, tuple_t, not_b, truth_b, truth_i, ix_l, ix_f, ix_t, ne_eq, if_true, decide_eq_true_eq, D.int.injEq, D.bl.injEq, reduceCtorEq, Int.reduceEq, Int.reduceNeg, Nat.reduceAdd, Nat.reduceSub, not_false_eq_true, gN, gT, gTs, at_0, at_1, at_2, at_3, ixN_4, List.set_cons_zero, List.set_cons_succ, Nat.reduceAdd, List.set, mod_ii hm, fdiv_ii hd]
    exact ⟨Int.fmod_nonneg_of_pos b hn, Int.fmod_lt_of_pos b hn, _, rfl, _, _, _, rfl⟩
  unfold u_law_draw_f u_law_draw_b
  rw [wp_run, wp_sSeq, wp_sIf]
  simp only [wp_tB, wp_wpV, wp_e2, wp_O, wp_C, Opd.get, look, startE, List.map, List.length_cons, List.length_nil, List.replicate, List.cons_append, List.nil_append, Option.some.injEq, exists_eq_left', ix_l, at_2, le_ii, D.bl.injEq, decide_eq_true_eq]
  split
  · simp only [wp_sSeq, wp_sSetIx, thenS, wp_wpV, wp_e2, wp_O, wp_V, wp_C, Opd.get, look, lookL, put, Option.some.injEq, exists_eq_left', ix_l, at_0, at_1, at_2, at_3, add_ii, D.int.injEq, List.length_cons, List.length_nil, Nat.reduceAdd, ixN_4, List.set, wp_call0, wp_av, wp_anil, gets, Option.bind_some]
    refine (rest_ok ns a (c + 1)).mono fun d ws h => ?_
    obtain ⟨⟨r, rfl⟩, _⟩ := h
    exact wp_sSeq.mp (fin r (c + 1))
  · simp only [wp_sNil, thenS]
    exact fin b c
theorem pick_ok {ns : List Int} {d : D} (h : IsPool ns d) {xs : List D} (hn : 0 < xs.length) (hn2 : xs.length < 1073741824) : wpF u_law_pick_f [d, .lst xs] fun z ws => z ∈ xs ∧ ∃ d', ws = [d'] ∧ IsPool ns d' := by
  unfold u_law_pick_f u_law_pick_b
  simp only [wp_run, endS, startE, wp_sSeq, thenS, wp_sSet, wp_sIf, wp_sRet, wp_sDo, wp_sNil, wp_sAsg, wp_sPar, wp_sSetIx, wp_tB, wp_tTru, wp_tNot, wp_tAnd, wp_tOr, wp_wpV, wp_C, wp_V, wp_O, wp_R, wp_e1, wp_e2, wp_if, wp_and, wp_or, wp_lst, wp_tup, wp_nil, wp_cons, wp_call0, wp_call1, wp_anil, wp_av, wp_aw, wp_mut1, wp_mut0, gets, looks, look, put, lookL, Opd.get, Option.some.injEq, Option.bind_some, exists_eq_left', exists_eq_left, List.map, List.length_cons, List.length_nil, List.replicate, List.cons_append, List.nil_append, add_ii, sub_ii, mul_lit, mul_litr, mod_ii, fdiv_ii, neg_i, lt_ii, le_ii, gt_ii, ge_ii, eq_ii, ne_ii, eq_bb, ne_bb, int_i, int_b, abs_i, len_l, len_f, len_t, list_l, list_t, tuple_l, tuple_t, not_b, truth_b, truth_i, ix_l, ix_f, ix_t, ne_eq, if_true, decide_eq_true_eq, D.int.injEq, D.bl.injEq, reduceCtorEq, Int.reduceEq, Int.reduceNeg, Nat.reduceAdd, Nat.reduceSub, not_false_eq_true, gN, gT, gTs, at_0, at_1, at_2, at_3, ixN_4, List.set_cons_zero, List.set_cons_succ, Nat.reduceAdd, List.set]
  refine (draw_ok h (n := (xs.length : Nat)) (by omega) (by omega)).mono fun z ws h => ?_
  obtain ⟨v, rfl, h0, h1, d', rfl, hp⟩ := h
  have hk : v.toNat < xs.length := by omega
  simp only [wp_run, endS, startE, wp_sSeq, thenS, wp_sSet, wp_sIf, wp_sRet, wp_sDo, wp_sNil, wp_sAsg, wp_sPar, wp_sSetIx, wp_tB, wp_tTru, wp_tNot, wp_tAnd, wp_tOr, wp_wpV, wp_C, wp_V, wp_O, wp_R, wp_e1, wp_e2, wp_if, wp_and, wp_or, wp_lst, wp_tup, wp_nil, wp_cons, wp_call0, wp_call1, wp_anil, wp_av, wp_aw, wp_mut1, wp_mut0, gets, looks, look, put, lookL, Opd.get, Option.some.injEq, Option.bind_some, exists_eq_left', exists_eq_left, List.map, List.length_cons, List.length_nil, List.replicate, List.cons_append, List.nil_append, add_ii, sub_ii, mul_lit, mul_litr, mod_ii, fdiv_ii, neg_i, lt_ii, le_ii, gt_ii, ge_ii, eq_ii, ne_ii, eq_bb, ne_bb, int_i, int_b, abs_i, len_l, len_f, len_t, list_l, list_t, tuple_l, tuple_t, not_b, truth_b, truth_i, ix_l, ix_f, ix_t, ne_eq, if_true, decide_eq_true_eq, D.int.injEq, D.bl.injEq, reduceCtorEq, Int.reduceEq, Int.reduceNeg, Nat.reduceAdd, Nat.reduceSub, not_false_eq_true, gN, gT, gTs, at_0, at_1, at_2, at_3, ixN_4, List.set_cons_zero, List.set_cons_succ, Nat.reduceAdd, List.set, List.cons.injEq, and_true]
  exact ⟨_, at_int h0 (List.getElem?_eq_getElem hk), List.getElem_mem hk, hp⟩
end L2.VS

/-! More rules about code over trees. -/
namespace L2.VS
/-- a tree of plain things, less deep than n -/
def Pl : Nat → D → Prop
  | 0, _ => False
  | n + 1, d => d = .non ∨ (∃ b, d = .bl b) ∨ (∃ i, d = .int i) ∨ (∃ x, d = .str x) ∨ ∃ xs, (d = .lst xs ∨ d = .tup xs) ∧ xs.length ≤ 16777216 ∧ ∀ x ∈ xs, Pl n x
theorem pl_non {n : Nat} : Pl (n + 1) .non := .inl rfl
theorem pl_bl {n : Nat} {b : Bool} : Pl (n + 1) (.bl b) := .inr (.inl ⟨_, rfl⟩)
theorem pl_int {n : Nat} {i : Int} : Pl (n + 1) (.int i) := .inr (.inr (.inl ⟨_, rfl⟩))
theorem pl_str {n : Nat} {x : List Nat} : Pl (n + 1) (.str x) := .inr (.inr (.inr (.inl ⟨_, rfl⟩)))
theorem pl_lst {n : Nat} {xs : List D} (h : xs.length ≤ 16777216) (h2 : ∀ x ∈ xs, Pl n x) : Pl (n + 1) (.lst xs) := .inr (.inr (.inr (.inr ⟨xs, .inl rfl, h, h2⟩)))
theorem pl_tup {n : Nat} {xs : List D} (h : xs.length ≤ 16777216) (h2 : ∀ x ∈ xs, Pl n x) : Pl (n + 1) (.tup xs) := .inr (.inr (.inr (.inr ⟨xs, .inr rfl, h, h2⟩)))
theorem pl_eq : ∀ (n : Nat) (d : D), Pl n d → deq d d = true ∧ ∀ m, n ≤ m → canEq d m = true
  | 0, _, h => h.elim
  | n + 1, d, h => by
    have hs : ∀ xs : List D, (∀ x ∈ xs, Pl n x) → deqs xs xs = true ∧ ∀ m, n ≤ m → canEqs xs m = true := by
      intro xs
      induction xs with
      | nil => exact fun _ => ⟨rfl, fun _ _ => rfl⟩
      | cons x xs ih =>
        intro h
        have h1 := pl_eq n x (h x (List.mem_cons_self ..))
        have h2 := ih fun y hy => h y (List.mem_cons_of_mem _ hy)
        exact ⟨by simp [deqs, h1.1, h2.1], fun m hm => by simp [canEqs, h1.2 m hm, h2.2 m hm]⟩
    rcases h with rfl | ⟨b, rfl⟩ | ⟨i, rfl⟩ | ⟨x, rfl⟩ | ⟨xs, rfl | rfl, _, h⟩
    · exact ⟨rfl, fun _ _ => rfl⟩
    · exact ⟨by simp [deq], fun _ _ => rfl⟩
    · exact ⟨by simp [deq], fun _ _ => rfl⟩
    · exact ⟨by simp [deq], fun _ _ => rfl⟩
    · exact ⟨(hs xs h).1, fun m hm => by simp [canEq, (hs xs h).2 (m - 1) (by omega)]; omega⟩
    · exact ⟨(hs xs h).1, fun m hm => by simp [canEq, (hs xs h).2 (m - 1) (by omega)]; omega⟩
theorem pl_dEq {n : Nat} {d : D} (h : Pl n d) (hn : n ≤ 60 := by omega) : dEq d d = some (.bl true) := by
  have := pl_eq n d h
  simp [dEq, this.1, this.2 60 hn]
theorem pl_dNe {n : Nat} {d : D} (h : Pl n d) (hn : n ≤ 60 := by omega) : dNe d d = some (.bl false) := by
  have := pl_eq n d h
  simp [dNe, this.1, this.2 60 hn]
/-- a comprehension that touches nothing -/
theorem compL_fm {g : G} {t : T} {elt : M} {vs : List Nat} {ε : Slots} (p : D → Bool) (f : D → D) : ∀ (ds acc : List D),
    (∀ d ∈ ds, ∃ ε1, g d ε = some ε1 ∧ ∃ ε2, t ε1 = some (p d, ε2) ∧ if p d = true then ∃ ε3, val elt ε2 = some (f d, ε3) ∧ wipeE ε3 vs = ε else wipeE ε2 vs = ε) →
    compL g t elt vs ds acc ε = some (acc ++ (ds.filter p).map f, ε)
  | [], acc, _ => by simp [compL]
  | d :: ds, acc, h => by
    obtain ⟨ε1, h1, ε2, h2, h3⟩ := h d (List.mem_cons_self ..)
    have ih := fun acc => compL_fm p f ds acc fun x hx => h x (List.mem_cons_of_mem _ hx)
    by_cases hp : p d = true
    · obtain ⟨ε3, h4, h5⟩ := (if_pos hp).mp h3
      simp [compL, h1, h2, hp, h4, h5, ih, List.filter_cons]
    · have h4 := (if_neg hp).mp h3
      simp [compL, h1, h2, hp, h4, ih, List.filter_cons]
theorem wp_comp_fm {it : I} {g : G} {t : T} {elt : M} {vs : List Nat} {ε : Slots} {Q : Opd → Slots → Prop} (p : D → Bool) (f : D → D)
    (h : wpI it ε fun ds ε1 => (∀ d ∈ ds, ∃ ε2, g d (wipeE ε1 vs) = some ε2 ∧ wpT t ε2 fun b ε3 => b = p d ∧ if p d = true then wpV elt ε3 fun z ε4 => z = f d ∧ wipeE ε4 vs = wipeE ε1 vs else wipeE ε3 vs = wipeE ε1 vs) ∧
      ds.length ≤ 16777216 ∧ Q (.val (.lst ((ds.filter p).map f))) (backE ε1 (wipeE ε1 vs) vs)) : wpM (eComp it g t elt vs) ε Q := by
  obtain ⟨ds, ε1, e1, h1, h2, h3⟩ := h
  have := compL_fm (g := g) (t := t) (elt := elt) (vs := vs) (ε := wipeE ε1 vs) p f ds [] fun d hd => by
    obtain ⟨ε2, g1, b, ε3, t1, rfl, h⟩ := h1 d hd
    refine ⟨ε2, g1, ε3, t1, ?_⟩
    split
    · rename_i hp
      rw [if_pos hp] at h
      obtain ⟨z, ε4, e4, rfl, e5⟩ := wpV_val.mpr h
      exact ⟨ε4, e4, e5⟩
    · rename_i hp
      rwa [if_neg hp] at h
  have hl : ((ds.filter p).map f).length ≤ 16777216 := by
    rw [List.length_map]
    exact Nat.le_trans (List.length_filter_le ..) h2
  exact ⟨_, _, by simp only [eComp, e1, Option.bind_some, this, List.nil_append, hl, if_true], h3⟩
theorem wp_comp_inv {it : I} {g : G} {t : T} {elt : M} {vs : List Nat} {ε : Slots} {Q : Opd → Slots → Prop} (W : Nat → List D → Slots → Prop)
    (h : wpI it ε fun ds ε1 => W 0 [] (wipeE ε1 vs) ∧ (∀ i d acc ε, ds[i]? = some d → W i acc ε → ∃ ε2, g d ε = some ε2 ∧ wpT t ε2 fun b ε3 => if b = true then wpV elt ε3 fun z ε4 => W (i + 1) (acc ++ [z]) (wipeE ε4 vs) else W (i + 1) acc (wipeE ε3 vs)) ∧
      ∀ acc ε, W ds.length acc ε → acc.length ≤ 16777216 ∧ Q (.val (.lst acc)) (backE ε1 ε vs)) : wpM (eComp it g t elt vs) ε Q := by
  obtain ⟨ds, ε1, e1, h0, h1, h2⟩ := h
  have gen : ∀ (rest : List D) (i : Nat) (acc : List D) (ε : Slots), ds.drop i = rest → i ≤ ds.length → W i acc ε → ∃ acc' ε', compL g t elt vs rest acc ε = some (acc', ε') ∧ W ds.length acc' ε' := by
    intro rest
    induction rest with
    | nil =>
      intro i acc ε e hle w
      have hi : i = ds.length := by
        have := congrArg List.length e
        simp at this
        omega
      subst hi
      exact ⟨acc, ε, rfl, w⟩
    | cons d rest ih =>
      intro i acc ε e hle w
      have hlt : i < ds.length := by
        have := congrArg List.length e
        simp at this
        omega
      have hd' : ds[i]? = some d := by
        have := List.getElem?_drop (xs := ds) (i := i) (j := 0)
        rw [e] at this
        simpa using this.symm
      have e2 : ds.drop (i + 1) = rest := by
        rw [← List.tail_drop, e]; rfl
      obtain ⟨ε2, g1, b, ε3, t1, q⟩ := h1 i d acc ε hd' w
      by_cases hb : b = true
      · rw [if_pos hb] at q
        obtain ⟨z, ε4, e4, w4⟩ := wpV_val.mpr q
        obtain ⟨acc', ε', c, w'⟩ := ih (i + 1) _ _ e2 hlt w4
        exact ⟨acc', ε', by simp only [compL, g1, t1, hb, e4, c, Option.bind_some, if_true], w'⟩
      · rw [if_neg hb] at q
        obtain ⟨acc', ε', c, w'⟩ := ih (i + 1) _ _ e2 hlt q
        exact ⟨acc', ε', by simp only [compL, g1, t1, hb, c, Option.bind_some, Bool.false_eq_true, if_false], w'⟩
  obtain ⟨acc', ε', c, w'⟩ := gen ds 0 [] _ rfl (Nat.zero_le _) h0
  obtain ⟨hl, q⟩ := h2 acc' ε' w'
  exact ⟨_, _, by simp only [eComp, e1, c, Option.bind_some, hl, if_true], q⟩
/-! slices -/
def wpP (m : Option M) (ε : Slots) (Q : Option Int → Slots → Prop) : Prop := match m with
  | none => Q none ε
  | some m => wpV m ε fun d ε1 => ∃ i, d = .int i ∧ Q (some i) ε1
theorem wpP_none {ε : Slots} {Q : Option Int → Slots → Prop} : wpP none ε Q ↔ Q none ε := Iff.rfl
theorem wpP_some {m : M} {ε : Slots} {Q : Option Int → Slots → Prop} : wpP (some m) ε Q ↔ wpV m ε fun d ε1 => ∃ i, d = .int i ∧ Q (some i) ε1 := Iff.rfl
theorem wpP_of {m : Option M} {ε : Slots} {Q : Option Int → Slots → Prop} (h : wpP m ε Q) : ∃ o ε', partE m ε = some (o, ε') ∧ Q o ε' := by
  cases m with
  | none => exact ⟨none, ε, rfl, h⟩
  | some m =>
    obtain ⟨d, ε1, e, i, rfl, q⟩ := wpV_val.mpr h
    exact ⟨some i, ε1, by simp only [partE, e, Option.bind_some], q⟩
theorem wpP_mpr {m : Option M} {ε : Slots} {Q : Option Int → Slots → Prop} (h : ∃ o ε', partE m ε = some (o, ε') ∧ Q o ε') : wpP m ε Q := by
  obtain ⟨o, ε', e, q⟩ := h
  cases m with
  | none => cases e; exact q
  | some m =>
    simp only [partE, Option.bind_eq_some_iff] at e
    obtain ⟨⟨d, ε1⟩, e1, e⟩ := e
    refine wpV_val.mp ⟨d, ε1, e1, ?_⟩
    cases d with
    | int i => cases e; exact ⟨i, rfl, q⟩
    | _ => cases e
theorem wp_cut {a : M} {lo hi : Option M} {ε : Slots} {Q : Opd → Slots → Prop} : wpM (eCut a lo hi) ε Q ↔ wpM a ε fun o ε1 => wpP lo ε1 fun l ε2 => wpP hi ε2 fun h ε3 => ∃ x, o.get ε3 = some x ∧ ∃ z, dCut l h x = some z ∧ Q (.val z) ε3 := by
  constructor
  · rintro ⟨o, ε', e, q⟩
    simp only [eCut, Option.bind_eq_some_iff] at e
    obtain ⟨⟨o1, ε1⟩, e1, ⟨l, ε2⟩, e2, ⟨h, ε3⟩, e3, x, g, z, d, e⟩ := e
    cases e
    exact ⟨o1, ε1, e1, wpP_mpr ⟨l, ε2, e2, wpP_mpr ⟨h, _, e3, x, g, z, d, q⟩⟩⟩
  · rintro ⟨o, ε1, e1, h⟩
    obtain ⟨l, ε2, e2, h⟩ := wpP_of h
    obtain ⟨h, ε3, e3, x, g, z, d, q⟩ := wpP_of h
    exact ⟨_, _, by simp only [eCut, e1, e2, e3, Option.bind_some, g, d], q⟩
theorem cut_l {lo hi : Option Int} {xs : List D} : dCut lo hi (.lst xs) = some (.lst (cutL xs lo hi)) := rfl
theorem cut_s {lo hi : Option Int} {x : List Nat} (h : x.length ≤ 16777216) : dCut lo hi (.str x) = some (.str (cutL x lo hi)) := by simp [dCut, lenOk, h]
theorem ix_s {x : List Nat} {i : Int} {c : Nat} (h : x.length ≤ 16777216) (hc : atI x i = some c) : dIx (.str x) (.int i) = some (.str [c]) := by simp [dIx, lenOk, h, hc]
theorem at_getD {α : Type} {l : List α} {i : Int} {z : α} (h0 : 0 ≤ i) (h : i < l.length) : atI l i = some (l.getD i.toNat z) := by
  refine at_int h0 ?_
  rw [List.getD_eq_getElem?_getD, List.getElem?_eq_getElem (by omega)]; rfl
theorem at_neg {α : Type} {l : List α} {i : Int} {z : α} (h0 : i < 0) (h : 0 ≤ i + l.length) : atI l i = some (l.getD (i + l.length).toNat z) := by
  have : ixN l.length i = some (i + l.length).toNat := by
    unfold ixN
    rw [if_neg (by omega), if_pos (by omega)]
  have hl : (i + l.length).toNat < l.length := by omega
  unfold atI
  rw [this, Option.bind_some, List.getD_eq_getElem?_getD, List.getElem?_eq_getElem hl]; rfl
theorem ix_li {L : List Int} {i : Int} (h0 : 0 ≤ i) (h : i < L.length) : dIx (.lst (L.map .int)) (.int i) = some (.int (L.getD i.toNat 0)) := by
  rw [ix_l, at_int h0 (z := .int (L.getD i.toNat 0))]
  rw [List.getElem?_map, List.getElem?_eq_getElem (by omega), List.getD_eq_getElem?_getD, List.getElem?_eq_getElem (by omega)]; rfl
theorem ix_ln {L : List Int} {i : Int} (h0 : i < 0) (h : 0 ≤ i + L.length) : dIx (.lst (L.map .int)) (.int i) = some (.int (L.getD (i + L.length).toNat 0)) := by
  rw [ix_l, at_neg h0 (z := .int 0) (by simpa using h), List.length_map]
  congr 1
  rw [List.getD_eq_getElem?_getD, List.getElem?_map, List.getD_eq_getElem?_getD]
  cases L[(i + L.length).toNat]? <;> rfl
theorem at_li {L : List Int} {i : Int} (h0 : 0 ≤ i) (h : i < L.length) : atI (L.map D.int) i = some (.int (L.getD i.toNat 0)) := ix_li h0 h
theorem at_ln {L : List Int} {i : Int} (h0 : i < 0) (h : 0 ≤ i + L.length) : atI (L.map D.int) i = some (.int (L.getD (i + L.length).toNat 0)) := ix_ln h0 h
theorem ints_map : ∀ L : List Int, dInts (.lst (L.map .int)) = some L := by
  intro L
  have : ∀ L : List Int, intsOf (L.map .int) = some L := by
    intro L
    induction L with
    | nil => rfl
    | cons x L ih => simp [intsOf, ih]
  simpa [dInts] using this L
theorem sum_l {L : List Int} : dSum (.lst (L.map .int)) = some (.int L.sum) := by simp [dSum, ints_map]
end L2.VS

/-! The same rules, so told that simp goes the way the code goes. -/
namespace L2.VS
theorem wpM.mono {m : M} {ε : Slots} {Q Q' : Opd → Slots → Prop} (h : wpM m ε Q) (k : ∀ d ws, Q d ws → Q' d ws) : wpM m ε Q' :=
  let ⟨d, ws, e, q⟩ := h
  ⟨d, ws, e, k d ws q⟩
def exO {α : Type} (o : Option α) (P : α → Prop) : Prop := ∃ x, o = some x ∧ P x
theorem exO_some {α : Type} {x : α} {P : α → Prop} : exO (some x) P ↔ P x := ⟨fun ⟨_, e, p⟩ => by cases e; exact p, fun p => ⟨x, rfl, p⟩⟩
theorem exO_of {α : Type} {o : Option α} {x : α} {P : α → Prop} (h : o = some x) (p : P x) : exO o P := ⟨x, h, p⟩
theorem exO_congr {α : Type} {o o' : Option α} {P : α → Prop} (h : o = o') : exO o P = exO o' P := by rw [h]
def asB : D → Option Bool
  | .bl b => some b
  | _ => none
def asI : D → Option Int
  | .int b => some b
  | _ => none
theorem asB_eq {d : D} {b : Bool} : d = .bl b ↔ asB d = some b := by cases d <;> simp [asB]
theorem asI_eq {d : D} {b : Int} : d = .int b ↔ asI d = some b := by cases d <;> simp [asI]
theorem wpF_congr {f : Fn} {ds ds' : List D} {Q : D → List D → Prop} (h : ds = ds') : wpF f ds Q = wpF f ds' Q := by rw [h]
theorem wpS_congr {f : S} {ds ds' : Slots} {Q : Flw → Slots → Prop} (h : ds = ds') : wpS f ds Q = wpS f ds' Q := by rw [h]
theorem wpM_congr {f : M} {ds ds' : Slots} {Q : Opd → Slots → Prop} (h : ds = ds') : wpM f ds Q = wpM f ds' Q := by rw [h]
theorem wpT_congr {f : T} {ds ds' : Slots} {Q : Bool → Slots → Prop} (h : ds = ds') : wpT f ds Q = wpT f ds' Q := by rw [h]
section
variable {m a b c : M} {ε : Slots} {Q : Opd → Slots → Prop} {R : D → Slots → Prop} {t u : T} {QT : Bool → Slots → Prop} {QS : Flw → Slots → Prop} {sa sb : S} {QA : List Opd → Slots → Prop} {QL : List D → Slots → Prop} {i : Nat} {d : D}
theorem xp_wpV : wpV m ε R ↔ wpM m ε fun o ε' => exO (o.get ε') fun d => R d ε' := Iff.rfl
theorem xp_V : wpM (eV i) ε Q ↔ exO (look ε i) fun d => Q (.val d) ε := wp_V
theorem xp_R : wpM (eR i) ε Q ↔ exO (look ε i) fun d => Q (.slot i) ε := wp_R
theorem xp_e1 {f : D → Option D} : wpM (e1 f a) ε Q ↔ wpM a ε fun o ε1 => exO (o.get ε1) fun x => exO (f x) fun z => Q (.val z) ε1 := wp_e1
theorem xp_e2 {f : D → D → Option D} : wpM (e2 f a b) ε Q ↔ wpM a ε fun o ε1 => wpM b ε1 fun o2 ε2 => exO (o.get ε2) fun x => exO (o2.get ε2) fun y => exO (f x y) fun z => Q (.val z) ε2 := wp_e2
theorem wpV_iff {P P' : D → Slots → Prop} (h : ∀ d ε, P d ε ↔ P' d ε) : wpV m ε P ↔ wpV m ε P' := by
  have : P = P' := by funext d ε; exact propext (h d ε)
  rw [this]
theorem exO_b {P : Bool → Prop} : (∃ c, d = .bl c ∧ P c) ↔ exO (asB d) P := ⟨fun ⟨c, e, p⟩ => ⟨c, asB_eq.mp e, p⟩, fun ⟨c, e, p⟩ => ⟨c, asB_eq.mpr e, p⟩⟩
theorem xp_and : wpM (eAnd a b) ε Q ↔ wpM a ε fun o ε1 => exO (o.get ε1) fun d => exO (asB d) fun c => if c = true then wpM b ε1 Q else Q (.val (.bl false)) ε1 := by
  rw [wp_and, ← xp_wpV (R := fun d ε1 => exO (asB d) fun c => if c = true then wpM b ε1 Q else Q (.val (.bl false)) ε1)]
  exact wpV_iff fun d ε => exO_b
theorem xp_or : wpM (eOr a b) ε Q ↔ wpM a ε fun o ε1 => exO (o.get ε1) fun d => exO (asB d) fun c => if c = true then Q (.val (.bl true)) ε1 else wpM b ε1 Q := by
  rw [wp_or, ← xp_wpV (R := fun d ε1 => exO (asB d) fun c => if c = true then Q (.val (.bl true)) ε1 else wpM b ε1 Q)]
  exact wpV_iff fun d ε => exO_b
theorem xp_tB : wpT (VS.tB m) ε QT ↔ wpM m ε fun o ε1 => exO (o.get ε1) fun d => exO (asB d) fun c => QT c ε1 := by
  rw [wp_tB, ← xp_wpV (R := fun d ε1 => exO (asB d) fun c => QT c ε1)]
  exact wpV_iff fun d ε => exO_b
theorem xp_tTru : wpT (tTru m) ε QT ↔ wpM m ε fun o ε1 => exO (o.get ε1) fun d => exO (truth d) fun c => QT c ε1 := wp_tTru
theorem xp_cons {ms : List M} : wpVs (m :: ms) ε QL ↔ wpM m ε fun o ε1 => exO (o.get ε1) fun d => wpVs ms ε1 fun ds ε2 => QL (d :: ds) ε2 := wp_cons
theorem xp_call0 {fn : Fn} {as : List Arg} : wpM (eCall0 fn as) ε Q ↔ wpA as ε fun os ε1 => exO (gets os ε1) fun ds => wpF fn ds fun d _ => Q (.val d) ε1 := wp_call0
theorem xp_call1 {fn : Fn} {as : List Arg} : wpM (eCall1 fn as i) ε Q ↔ wpA as ε fun os ε1 => exO (gets os ε1) fun ds => wpF fn ds fun d ws => ∃ w, ws = [w] ∧ Q (.val d) (put ε1 i w) := wp_call1
theorem xp_mut1 {f : List D → D → Option (List D × D)} : wpM (eMut1 i f a) ε Q ↔ exO (lookL ε i) fun _ => wpM a ε fun o ε1 => exO (o.get ε1) fun d => exO (lookL ε1 i) fun xs => exO (f xs d) fun r => Q (.val r.2) (put ε1 i (.lst r.1)) := wp_mut1
theorem xp_mut0 {f : List D → Option (List D × D)} : wpM (eMut0 i f) ε Q ↔ exO (lookL ε i) fun xs => exO (f xs) fun r => Q (.val r.2) (put ε i (.lst r.1)) := wp_mut0
theorem xp_cut {a : M} {lo hi : Option M} : wpM (eCut a lo hi) ε Q ↔ wpM a ε fun o ε1 => wpP lo ε1 fun l ε2 => wpP hi ε2 fun h ε3 => exO (o.get ε3) fun x => exO (dCut l h x) fun z => Q (.val z) ε3 := wp_cut
theorem xp_psome {m : M} {Q : Option Int → Slots → Prop} : wpP (some m) ε Q ↔ wpM m ε fun o ε1 => exO (o.get ε1) fun d => exO (asI d) fun i => Q (some i) ε1 := by
  rw [wpP_some, ← xp_wpV (R := fun d ε1 => exO (asI d) fun i => Q (some i) ε1)]
  exact wpV_iff fun d ε => ⟨fun ⟨c, e, p⟩ => ⟨c, asI_eq.mp e, p⟩, fun ⟨c, e, p⟩ => ⟨c, asI_eq.mpr e, p⟩⟩
theorem xp_sSet : wpS (sSet i m) ε QS ↔ wpM m ε fun o ε1 => exO (o.get ε1) fun d => QS .nx (put ε1 i d) := wp_sSet
theorem xp_sDo : wpS (sDo m) ε QS ↔ wpM m ε fun o ε1 => exO (o.get ε1) fun d => QS .nx ε1 := wp_sDo
theorem xp_sRet : wpS (sRet m) ε QS ↔ wpM m ε fun o ε1 => exO (o.get ε1) fun d => QS (.rt d) ε1 := wp_sRet
theorem xp_sAsg {g : G} : wpS (sAsg g m) ε QS ↔ wpM m ε fun o ε1 => exO (o.get ε1) fun d => exO (g d ε1) fun ε2 => QS .nx ε2 := wp_sAsg
theorem xp_sPar {j : Nat} : wpS (sPar i j a b) ε QS ↔ wpM a ε fun o ε1 => exO (o.get ε1) fun x => wpM b ε1 fun o2 ε2 => exO (o2.get ε2) fun y => QS .nx (put (put ε2 i x) j y) := wp_sPar
theorem xp_sSetIx : wpS (sSetIx i b a) ε QS ↔ wpM a ε fun o ε1 => exO (o.get ε1) fun x => wpM b ε1 fun o2 ε2 => exO (o2.get ε2) fun y => exO (asI y) fun k => exO (lookL ε2 i) fun xs => exO (ixN xs.length k) fun j => QS .nx (put ε2 i (.lst (xs.set j x))) := by
  rw [wp_sSetIx, ← xp_wpV (R := fun x ε1 => wpM b ε1 fun o2 ε2 => exO (o2.get ε2) fun y => exO (asI y) fun k => exO (lookL ε2 i) fun xs => exO (ixN xs.length k) fun j => QS .nx (put ε2 i (.lst (xs.set j x))))]
  refine wpV_iff fun x ε1 => ?_
  rw [← xp_wpV (R := fun y ε2 => exO (asI y) fun k => exO (lookL ε2 i) fun xs => exO (ixN xs.length k) fun j => QS .nx (put ε2 i (.lst (xs.set j x))))]
  exact wpV_iff fun d ε => ⟨fun ⟨c, e, p⟩ => ⟨c, asI_eq.mp e, p⟩, fun ⟨c, e, p⟩ => ⟨c, asI_eq.mpr e, p⟩⟩
theorem xp_end_rt {ownp : List Nat} {P : D → List D → Prop} : endS ownp P (.rt d) ε ↔ exO (looks ε ownp) fun ws => P d ws := Iff.rfl
theorem xp_end_nx {ownp : List Nat} {P : D → List D → Prop} : endS ownp P .nx ε ↔ exO (looks ε ownp) fun ws => P .non ws := Iff.rfl
theorem turn_nx {k : Slots → Prop} : turnS k QS .nx ε ↔ k ε := Iff.rfl
theorem turn_ct {k : Slots → Prop} : turnS k QS .ct ε ↔ k ε := Iff.rfl
theorem turn_bk {k : Slots → Prop} : turnS k QS .bk ε ↔ QS .nx ε := Iff.rfl
theorem turn_rt {k : Slots → Prop} : turnS k QS (.rt d) ε ↔ QS (.rt d) ε := Iff.rfl
theorem get_val : (Opd.val d).get ε = some d := rfl
theorem get_slot : (Opd.slot i).get ε = look ε i := rfl
theorem xp_iA : wpI (iA m) ε QL ↔ wpM m ε fun o ε1 => exO (o.get ε1) fun d => exO (dIter d) fun ds => QL ds ε1 := wp_iA
theorem xp_iR1 : wpI (iR1 m) ε QL ↔ wpM m ε fun o ε1 => exO (o.get ε1) fun d => exO (asI d) fun j => inB j = true ∧ QL (rangeL 0 1 j.toNat) ε1 := by
  rw [wp_iR1, ← xp_wpV (R := fun d ε1 => exO (asI d) fun j => inB j = true ∧ QL (rangeL 0 1 j.toNat) ε1)]
  exact wpV_iff fun d ε => ⟨fun ⟨c, e, p⟩ => ⟨c, asI_eq.mp e, p⟩, fun ⟨c, e, p⟩ => ⟨c, asI_eq.mpr e, p⟩⟩
theorem xp_iR2 : wpI (iR2 a b) ε QL ↔ wpM a ε fun o ε1 => exO (o.get ε1) fun d => wpM b ε1 fun o2 ε2 => exO (o2.get ε2) fun d2 => exO (asI d) fun i => exO (asI d2) fun j => (inB i && inB j) = true ∧ QL (rangeL i 1 (j - i).toNat) ε2 := by
  rw [wp_iR2, ← xp_wpV (R := fun d ε1 => wpM b ε1 fun o2 ε2 => exO (o2.get ε2) fun d2 => exO (asI d) fun i => exO (asI d2) fun j => (inB i && inB j) = true ∧ QL (rangeL i 1 (j - i).toNat) ε2)]
  refine wpV_iff fun d ε1 => ?_
  rw [← xp_wpV (R := fun d2 ε2 => exO (asI d) fun i => exO (asI d2) fun j => (inB i && inB j) = true ∧ QL (rangeL i 1 (j - i).toNat) ε2)]
  exact wpV_iff fun d2 ε => ⟨fun ⟨x, y, e, e2, p⟩ => ⟨x, asI_eq.mp e, y, asI_eq.mp e2, p⟩, fun ⟨x, e, y, e2, p⟩ => ⟨x, y, asI_eq.mpr e, asI_eq.mpr e2, p⟩⟩
end
/-- on to what stands behind, with P -/
def nxS (P : Slots → Prop) (w : Flw) (ε : Slots) : Prop := match w with
  | .nx => P ε
  | _ => False
theorem nxS_nx {P : Slots → Prop} {ε : Slots} : nxS P .nx ε ↔ P ε := Iff.rfl
theorem wp_seq_of {sa sb : S} {ε : Slots} {QS : Flw → Slots → Prop} (P : Slots → Prop) (h1 : wpS sa ε (nxS P)) (h2 : ∀ ε', P ε' → wpS sb ε' QS) : wpS (sSeq sa sb) ε QS :=
  wp_sSeq.mpr (h1.mono fun w ε' h => by cases w <;> first | exact h2 _ h | exact h.elim)
theorem wpF_eq {f : Fn} {ds : List D} {Q : D → List D → Prop} {d : D} {ws : List D} (h : f ds = some (d, ws)) : wpF f ds Q ↔ Q d ws := ⟨fun ⟨_, _, e, q⟩ => by rw [h] at e; cases e; exact q, fun q => ⟨_, _, h, q⟩⟩
theorem iter_l {xs : List D} : dIter (.lst xs) = some xs := rfl
theorem iter_t {xs : List D} : dIter (.tup xs) = some xs := rfl
theorem wpI.mono {m : I} {ε : Slots} {Q Q' : List D → Slots → Prop} (h : wpI m ε Q) (k : ∀ d ws, Q d ws → Q' d ws) : wpI m ε Q' :=
  let ⟨d, ws, e, q⟩ := h
  ⟨d, ws, e, k d ws q⟩
theorem xp_chain {f g : D → D → Option D} {a b c : M} {ε : Slots} {Q : Opd → Slots → Prop} : wpM (eChain f g a b c) ε Q ↔ wpM a ε fun o ε1 => wpM b ε1 fun o2 ε2 => exO (o.get ε2) fun x => exO (o2.get ε2) fun y => exO (f x y) fun z => exO (asB z) fun t =>
    if t = true then wpM c ε2 fun o3 ε3 => exO (o2.get ε3) fun y' => exO (o3.get ε3) fun w => exO (g y' w) fun z' => Q (.val z') ε3 else Q (.val (.bl false)) ε2 := by
  constructor
  · rintro ⟨o, ε', e, q⟩
    simp only [eChain, Option.bind_eq_some_iff] at e
    obtain ⟨⟨o1, ε1⟩, e1, ⟨o2, ε2⟩, e2, x, gx, y, gy, z, hz, e⟩ := e
    refine ⟨o1, ε1, e1, o2, ε2, e2, x, gx, y, gy, z, hz, ?_⟩
    cases z with
    | bl t =>
      refine ⟨t, rfl, ?_⟩
      cases t with
      | true =>
        simp only [Option.bind_eq_some_iff] at e
        obtain ⟨⟨o3, ε3⟩, e3, y', gy', w, gw, z', hz', e⟩ := e
        cases e
        exact (if_pos rfl).mpr ⟨o3, _, e3, y', gy', w, gw, z', hz', q⟩
      | false => cases e; exact (if_neg Bool.false_ne_true).mpr q
    | _ => cases e
  · rintro ⟨o1, ε1, e1, o2, ε2, e2, x, gx, y, gy, z, hz, t, ht, h⟩
    have := asB_eq.mpr ht
    subst this
    cases t with
    | true =>
      obtain ⟨o3, ε3, e3, y', gy', w, gw, z', hz', q⟩ := (if_pos rfl).mp h
      exact ⟨_, _, by simp only [eChain, e1, e2, Option.bind_some, gx, gy, hz, e3, gy', gw, hz'], q⟩
    | false => exact ⟨_, _, by simp only [eChain, e1, e2, Option.bind_some, gx, gy, hz], (if_neg Bool.false_ne_true).mp h⟩
end L2.VS

/-! More built-ins. -/
namespace L2.VS
open PySem PySem.Spec PyProof.Rows
section
variable {X : Cx} {fl fl1 fl2 : List Fl} {a b : Expr} {p pos : Pos} {ma mb : M}
def dMaxL (d : D) : Option D := (dInts d).bind fun is => is.max?.bind fun m => some (.int m)
def dMinL (d : D) : Option D := (dInts d).bind fun is => is.min?.bind fun m => some (.int m)
theorem max_iff {is : List Int} {m : Int} : is.max? = some m ↔ m ∈ is ∧ ∀ b ∈ is, b ≤ m := List.max?_eq_some_iff
theorem min_iff {is : List Int} {m : Int} : is.min? = some m ↔ m ∈ is ∧ ∀ b ∈ is, m ≤ b := List.min?_eq_some_iff
theorem ped_maxL (ha : POD X fl a fl1 ma) (hm : X.mg "max" = none) (hc : X.calm = true := by rfl) (hg : Gl X "max" := by rfl) (na : NoStar a := by intro _ _; rfl) : PED X fl (.Call (.Name "max" p) [a] [] pos) fl1 (e1 dMaxL ma) :=
  ped_b1 (cr_max hc) boot_max (fun v d z H O Q dm hv ef k => by
    simp only [dMaxL, Option.bind_eq_some_iff] at ef
    obtain ⟨is, e1, m, e2, e3⟩ := ef
    cases e3
    obtain ⟨p, e3, q⟩ := repR_ints hv e1
    have hx := max_iff.mp e2
    refine ⟨p, is, by rw [e3], q, List.length_pos_of_mem hx.1, fun m' h1 h2 => ?_⟩
    have : m' = m := Int.le_antisymm (hx.2 m' h1) (h2 m hx.1)
    subst this
    exact k _ H (Same.refl H) rep_int) ha hm hg na (by decide) (by decide)
theorem ped_minL (ha : POD X fl a fl1 ma) (hm : X.mg "min" = none) (hc : X.calm = true := by rfl) (hg : Gl X "min" := by rfl) (na : NoStar a := by intro _ _; rfl) : PED X fl (.Call (.Name "min" p) [a] [] pos) fl1 (e1 dMinL ma) :=
  ped_b1 (cr_min hc) boot_min (fun v d z H O Q dm hv ef k => by
    simp only [dMinL, Option.bind_eq_some_iff] at ef
    obtain ⟨is, e1, m, e2, e3⟩ := ef
    cases e3
    obtain ⟨p, e3, q⟩ := repR_ints hv e1
    have hx := min_iff.mp e2
    refine ⟨p, is, by rw [e3], q, List.length_pos_of_mem hx.1, fun m' h1 h2 => ?_⟩
    have : m' = m := Int.le_antisymm (h2 m hx.1) (hx.2 m' h1)
    subst this
    exact k _ H (Same.refl H) rep_int) ha hm hg na (by decide) (by decide)
def dGcd : D → D → Option D
  | .int i, .int j => some (.int ((Nat.gcd i.natAbs j.natAbs : Nat) : Int))
  | _, _ => none
theorem gcd_ii {i j : Int} : dGcd (.int i) (.int j) = some (.int ((Nat.gcd i.natAbs j.natAbs : Nat) : Int)) := rfl
theorem ped_gcd (ha : PED X fl a fl1 ma) (hb : PED X fl1 b fl2 mb) (hm : X.mg "gcd" = some (.builtin "math.gcd")) (hg : Gl X "gcd" := by rfl) (na : NoStar a := by intro _ _; rfl) (nb : NoStar b := by intro _ _; rfl) : PED X fl (.Call (.Name "gcd" p) [a, b] [] pos) fl2 (e2 dGcd ma mb) :=
  ⟨isv_e2, ha.sub.trans hb.sub, (pe_callBfun cr_gcd hg hm (pa_cons ha.run (pa_cons hb.run pa_nil (nb _ _)) (na _ _)) (by decide) (na _ _) (by rw [nb]; rfl)).imp fun σ H Q h => by
    have h2 := bin_imp (r := fun v u H Q => ∃ i j, [v, u] = [V.int i, V.int j] ∧ Q (.int ((Nat.gcd i.natAbs j.natAbs : Nat) : Int)) H) ha.sub hb.sub (fun v u d e z H O Q dm hv hu ef k => by
      cases d <;> cases e <;> simp only [dGcd] at ef <;> try (cases ef; done)
      cases ef
      exact ⟨_, _, by rw [repR_int hv, repR_int hu], k _ H (Same.refl H) rep_int⟩) h
    obtain ⟨ε, O, o, ε1, r, e1, kk⟩ := h2
    obtain ⟨d, rfl⟩ := ha.isv _ _ _ e1
    refine ⟨ε, O, d, ε1, r, e1, fun v H1 O1 r1 s1 w => ?_⟩
    obtain ⟨ε, O, o, ε1, r, e1, kk⟩ := kk v H1 O1 r1 s1 w
    obtain ⟨d, rfl⟩ := hb.isv _ _ _ e1
    exact ⟨ε, O, d, ε1, r, e1, kk⟩⟩
end
end L2.VS

/-! Texts joined; lists told backwards. -/
namespace L2.VS
open PySem PySem.Spec PyProof.Rows
section
variable {KF : PySem.W.Frag} {X : Cx} {fl fl1 fl2 : List Fl} {e o : Expr} {p pos : Pos} {m mo : M}
def strsOf : List D → Option (List (List Nat))
  | [] => some []
  | .str x :: ds => (strsOf ds).bind fun is => some (x :: is)
  | _ :: _ => none
theorem strsOf_reps : ∀ {ds : List D} {is : List (List Nat)} {vs : List V} {H : Hp} {O : Addr → Prop}, strsOf ds = some is → Reps KF H O vs ds → vs = is.map (fun x => V.str ⟨x.toArray⟩) ∧ ∀ x ∈ is, strOkL x = true
  | [], is, [], H, O, e, _ => by cases e; exact ⟨rfl, fun x hx => by simp at hx⟩
  | .str x :: ds, is, v :: vs, H, O, e, w => by
    simp only [strsOf, Option.bind_eq_some_iff] at e
    obtain ⟨is', e1, e2⟩ := e
    cases e2
    simp only [Reps, Rep] at w
    obtain ⟨⟨w1, w2⟩, w3⟩ := w
    obtain ⟨h1, h2⟩ := strsOf_reps e1 w3
    rw [w1, h1]
    refine ⟨rfl, fun y hy => ?_⟩
    rcases List.mem_cons.mp hy with rfl | hy
    · exact w2
    · exact h2 y hy
  | [], _, _ :: _, _, _, _, w => by simp [Reps] at w
  | .str _ :: _, _, [], _, _, _, w => by simp [Reps] at w
  | .non :: _, _, _, _, _, e, _ => by simp [strsOf] at e
  | .bl _ :: _, _, _, _, _, e, _ => by simp [strsOf] at e
  | .int _ :: _, _, _, _, _, e, _ => by simp [strsOf] at e
  | .lst _ :: _, _, _, _, _, e, _ => by simp [strsOf] at e
  | .tup _ :: _, _, _, _, _, e, _ => by simp [strsOf] at e
  | .fz _ :: _, _, _, _, _, e, _ => by simp [strsOf] at e
  | .dic _ _ _ :: _, _, _, _, _, e, _ => by simp [strsOf] at e
  | .set _ _ :: _, _, _, _, _, e, _ => by simp [strsOf] at e
def dJoin (d : D) : Option D := match d with
  | .lst xs => (strsOf xs).bind fun ys => if (ys.map List.length).sum ≤ 16777216 then some (.str ys.flatten) else none
  | _ => none
theorem joinL_flat : ∀ ys : List (List Nat), TL.joinL [] ys = ys.flatten
  | [] => rfl
  | [p] => by simp [TL.joinL]
  | p :: q :: r => by
    have := joinL_flat (q :: r)
    simp only [TL.joinL, List.nil_append, this, List.flatten_cons]
theorem strOk_flat : ∀ {ys : List (List Nat)}, (∀ x ∈ ys, strOkL x = true) → strOkL ys.flatten = true := by
  intro ys h
  simp only [strOkL, List.all_eq_true, List.mem_flatten] at h ⊢
  rintro c ⟨x, hx, hc⟩
  exact h x hx c hc
theorem ped_join {apos : Pos} {kk : Nat} {spos : Pos} (ha : POD X fl e fl1 m) (hs : starEach [e] X.env = [(false, eval e X.env)] := by intros; rfl)
    (hbase : attributeBase (.Constant (.str (Str.ofString "")) kk spos) "join" X.env (eval (.Constant (.str (Str.ofString "")) kk spos) X.env) = eval (.Constant (.str (Str.ofString "")) kk spos) X.env := by rfl) (hline : (apos.endLine == pos.line) = true := by rfl) :
    PED X fl (.Call (.Attribute (.Constant (.str (Str.ofString "")) kk spos) "join" apos) [e] [] pos) fl1 (e1 dJoin m) :=
  ⟨isv_e1, ha.sub, (pe_join pe_str ha.run hs hbase hline).imp fun σ H Q h => ⟨⟨_, rfl⟩, un_imp (r := fun y H Q => ∃ a p, ∃ ys : List Str, V.str (Str.ofString "") = .str a ∧ [y] = [V.ref p] ∧ (SqL X.K H p (ys.map V.str) ∨ SqT X.K H p (ys.map V.str)) ∧
      (ys.map (·.length)).sum + ys.length * a.length ≤ 16777216 ∧ Q (.str (Txt.join a ys)) H) (fun v d z H O Q dm hv ef k => by
    cases d with
    | lst ds =>
      simp only [dJoin, Option.bind_eq_some_iff] at ef
      obtain ⟨ys, e1, ef⟩ := ef
      split at ef
      · rename_i hl
        cases ef
        obtain ⟨p, vs, e2, q, w⟩ := repR_lst hv
        obtain ⟨h1, h2⟩ := strsOf_reps e1 w
        have e0 : Str.ofString "" = SX.S [] := by decide +kernel
        refine ⟨SX.S [], p, ys.map SX.S, by rw [e0], by rw [e2], .inl ?_, ?_, ?_⟩
        · rw [List.map_map]
          rw [h1] at q
          exact .of q
        · rw [SX.lens, SX.S_len]
          simpa using hl
        · rw [SX.join_S, joinL_flat]
          exact k _ H (Same.refl H) (by simp only [Rep]; exact ⟨trivial, strOk_flat h2⟩)
      · cases ef
    | _ => cases ef) h⟩⟩
/-- xs[::-1] of a list -/
def dRevL (d : D) : Option D := match d with
  | .lst xs => some (.lst xs.reverse)
  | .fz xs => some (.lst xs.reverse)
  | _ => none
theorem reps_app {H : Hp} {O : Addr → Prop} : ∀ {vs us : List V} {ds es : List D}, Reps KF H O vs ds → Reps KF H O us es → Reps KF H O (vs ++ us) (ds ++ es)
  | [], _, [], _, _, h => h
  | v :: vs, us, d :: ds, es, h, g => by
    simp only [Reps] at h
    simp only [List.cons_append, Reps]
    exact ⟨h.1, reps_app h.2 g⟩
  | [], _, _ :: _, _, h, _ => by simp [Reps] at h
  | _ :: _, _, [], _, h, _ => by simp [Reps] at h
theorem reps_rev {H : Hp} {O : Addr → Prop} : ∀ {vs : List V} {ds : List D}, Reps KF H O vs ds → Reps KF H O vs.reverse ds.reverse
  | [], [], h => h
  | v :: vs, d :: ds, h => by
    simp only [Reps] at h
    rw [List.reverse_cons, List.reverse_cons]
    exact reps_app (reps_rev h.2) (by simp only [Reps]; exact ⟨h.1, trivial⟩)
  | [], _ :: _, h => by simp [Reps] at h
  | _ :: _, [], h => by simp [Reps] at h
theorem pfd_revL {k : Nat} {p1 p2 p3 : Pos} (ha : POD X fl e fl1 m) : PFD X fl (.Subscript e (.Slice none none (some (.UnaryOp .USub (.Constant (.int 1) k p1) p2)) p3) pos) fl1 (e1 dRevL m) :=
  ⟨isv_e1, ha.sub, (pe_revL ha.run).imp fun σ H Q h => un_impF (r := fun x H Q => ∃ a xs, x = .ref a ∧ SqL X.K H a xs ∧ ∀ p, H p = none → Q (.ref p) (upd H p (.lst xs.reverse))) (fun v d z H O Q dm hv ef k => by
    cases d <;> simp only [dRevL] at ef <;> try (cases ef; done)
    · cases ef
      obtain ⟨p, vs, e1, q, w⟩ := repR_lst hv
      exact ⟨p, vs, e1, .of q, fun q2 hq => k q2 _ hq (same_upd hq) (top_lst hq (reps_rev w))⟩
    · cases ef
      obtain ⟨p, vs, e1, q, w⟩ := repR_fz hv
      exact ⟨p, vs, e1, q, fun q2 hq => k q2 _ hq (same_upd hq) (top_lst hq (reps_rev w))⟩) h⟩
/-- the items of xs[l:h:s] -/
def pickL {α : Type} (xs : List α) (l h s : Option Int) : List α := (sliceRange (sliceBounds l h s xs.length).1 (sliceBounds l h s xs.length).2.1 (sliceBounds l h s xs.length).2.2).filterMap (xs[·]?)
theorem vals_pick {xs : List V} {us : List Value} (r : Vals xs us) : ∀ is : List Nat, Vals (is.filterMap (xs[·]?)) (is.filterMap (us[·]?))
  | [] => .nil
  | i :: is => by
    cases h : xs[i]? with
    | none =>
      rw [List.filterMap_cons_none (by simpa using h), List.filterMap_cons_none (by simpa using r.none_of h)]
      exact vals_pick r is
    | some x =>
      obtain ⟨u, hu, ru⟩ := r.get h
      rw [List.filterMap_cons_some (by simpa using h), List.filterMap_cons_some (by simpa using hu)]
      exact .cons ru (vals_pick r is)
theorem reps_pick {H : Hp} {O : Addr → Prop} {vs : List V} {ds : List D} (w : Reps KF H O vs ds) : ∀ is : List Nat, Reps KF H O (is.filterMap (vs[·]?)) (is.filterMap (ds[·]?))
  | [] => by simp [Reps]
  | i :: is => by
    cases h : ds[i]? with
    | none =>
      have hv : vs[i]? = none := by
        rw [List.getElem?_eq_none_iff] at h ⊢
        rw [w.length]; exact h
      rw [List.filterMap_cons_none (by simpa using hv), List.filterMap_cons_none (by simpa using h)]
      exact reps_pick w is
    | some d =>
      obtain ⟨v, hv, rv⟩ := w.get h
      rw [List.filterMap_cons_some (by simpa using hv), List.filterMap_cons_some (by simpa using h)]
      simp only [Reps]
      exact ⟨rv, reps_pick w is⟩
theorem pe_stepL {lo : Option Expr} {te : TE} {tl : TO} {c : Int} {k : Nat} {p1 p3 : Pos} (hc : c ≠ 0) (he : PE X e te) (hl : PO X lo tl) : PE X (.Subscript e (.Slice lo none (some (.Constant (.int c) k p1)) p3) pos)
    (fun σ H Q => te σ H fun x H1 => tl σ H1 fun l H2 => ∃ a xs, x = .ref a ∧ SqL X.K H2 a xs ∧ ∀ p, H2 p = none → Q (.ref p) (upd H2 p (.lst (pickL xs l none (some c))))) := by
  refine ⟨fun pins s σ H Q I h => ?_⟩
  refine Subscript_ (thn (he.run pins s σ H _ I h) fun v s1 ⟨x, H1, I1, r1, q1⟩ => ?_)
  have hst : PO X (some (.Constant (.int c) k p1)) (tPart (tC (.int c))) := po_some pe_int
  refine wpAny_Slice (thn (hl.run pins s1 σ H1 _ I1 q1) fun vl s2 ⟨l, H2, I2, pl, q2⟩ => ?_)
  obtain ⟨a, xs, ex, hx, q⟩ := q2
  subst ex
  cases r1
  refine thn (po_none.run pins s2 σ H2 (fun o H3 => o = none ∧ H3 = H2) I2 ⟨rfl, rfl⟩) fun vu s3 ⟨u, H3, I3, pu, eu, e3⟩ => ?_
  subst eu e3
  refine thn (hst.run pins s3 σ H3 (fun o H4 => o = some c ∧ H4 = H3) I3 ⟨c, rfl, rfl, rfl⟩) fun vs s4 ⟨o, H4, I4, ps, eo, e4⟩ => ?_
  subst eo e4
  have I5 : Inv X pins σ H4 { s4 with heap := s4.heap.push { cls := .type "slice", data := .fields #[vl, vu, vs] } } := I4.kept (t' := s4.toks) fun b ob q => Heap.get?_push_of_some _ q
  obtain ⟨its, r, ht, hz⟩ := I5.list hx
  have hlen := r.length
  show wpAny (model X.prog X.w) X.A (subscriptTail e (.Slice lo none (some (.Constant (.int c) k p1)) p3) (.ref a) (.ref s4.heap.objs.size)) (EP X pins σ Q) X.xe { s4 with heap := s4.heap.push { cls := .type "slice", data := .fields #[vl, vu, vs] } }
  refine tail_any (ops := [.ref a, .ref s4.heap.objs.size]) ht.isList.typeIs (PySem.slot_list_getitem.lookup) ?_ (by with_unfolding_all rfl)
  refine wpAny_getItem_list_slice ht.isList (Heap.IsSliceOf.new _ vl vu vs) pl pu ps (by simpa using hc) ?_ (by rw [List.size_toArray]; omega)
  have hp : slicePick its.toArray l none (some c) = (pickL its l none (some c)).toArray := by
    unfold slicePick pickL
    simp
  have hpl : (pickL xs l none (some c)).length ≤ xs.length := by
    have := slicePick_size_le its.toArray l none (some c)
    have r2 : Vals (pickL xs l none (some c)) (pickL its l none (some c)) := by
      unfold pickL
      rw [r.length]
      exact vals_pick r _
    rw [hp, List.size_toArray, List.size_toArray] at this
    rw [r2.length, r.length]; exact this
  have r2 : Vals (pickL xs l none (some c)) (pickL its l none (some c)) := by
    unfold pickL
    rw [r.length]
    exact vals_pick r _
  rw [hp]
  refine ⟨.ref _, _, I5.laid (t' := s4.toks) (o := .lst (pickL xs l none (some c))) (fun b ob q => Heap.get?_push_of_some _ q) (Nat.le_refl _) ?_, rfl, q _ (I5.hok.fresh (Nat.le_refl _))⟩
  exact ⟨by omega, _, 0, r2, Heap.get?_push_size _ rfl⟩
def dStepL (lo : Option Int) (c : Int) (d : D) : Option D := match d with
  | .lst xs => some (.lst (pickL xs lo none (some c)))
  | .fz xs => some (.lst (pickL xs lo none (some c)))
  | _ => none
theorem reps_pickL {H : Hp} {O : Addr → Prop} {vs : List V} {ds : List D} {lo : Option Int} {c : Int} (w : Reps KF H O vs ds) : Reps KF H O (pickL vs lo none (some c)) (pickL ds lo none (some c)) := by
  unfold pickL
  rw [w.length]
  exact reps_pick w _
/-- xs[::c] -/
theorem pfd_stepL {c : Int} {k : Nat} {p1 p3 : Pos} (ha : POD X fl e fl1 m) (hc : c ≠ 0 := by decide) : PFD X fl (.Subscript e (.Slice none none (some (.Constant (.int c) k p1)) p3) pos) fl1 (e1 (dStepL none c) m) :=
  ⟨isv_e1, ha.sub, (pe_stepL hc ha.run po_none).imp fun σ H Q h => un_impF (r := fun x H Q => ∃ a xs, x = .ref a ∧ SqL X.K H a xs ∧ ∀ p, H p = none → Q (.ref p) (upd H p (.lst (pickL xs none none (some c))))) (fun v d z H O Q dm hv ef k => by
    cases d <;> simp only [dStepL] at ef <;> try (cases ef; done)
    · cases ef
      obtain ⟨p, vs, e1, q, w⟩ := repR_lst hv
      exact ⟨p, vs, e1, .of q, fun q2 hq => k q2 _ hq (same_upd hq) (top_lst hq (reps_pickL w))⟩
    · cases ef
      obtain ⟨p, vs, e1, q, w⟩ := repR_fz hv
      exact ⟨p, vs, e1, q, fun q2 hq => k q2 _ hq (same_upd hq) (top_lst hq (reps_pickL w))⟩) h⟩
/-- xs[i::c] -/
theorem pfd_stepFL {c i : Int} {k k2 : Nat} {p1 p2 p3 : Pos} (ha : POD X fl e fl1 m) (hc : c ≠ 0 := by decide) : PFD X fl (.Subscript e (.Slice (some (.Constant (.int i) k2 p2)) none (some (.Constant (.int c) k p1)) p3) pos) fl1 (e1 (dStepL (some i) c) m) :=
  ⟨isv_e1, ha.sub, (pe_stepL hc ha.run (po_some pe_int)).imp fun σ H Q h => un_impF (r := fun x H Q => ∃ j : Int, V.int i = .int j ∧ ∃ a xs, x = .ref a ∧ SqL X.K H a xs ∧ ∀ p, H p = none → Q (.ref p) (upd H p (.lst (pickL xs (some j) none (some c))))) (fun v d z H O Q dm hv ef k => by
    refine ⟨i, rfl, ?_⟩
    cases d <;> simp only [dStepL] at ef <;> try (cases ef; done)
    · cases ef
      obtain ⟨p, vs, e1, q, w⟩ := repR_lst hv
      exact ⟨p, vs, e1, .of q, fun q2 hq => k q2 _ hq (same_upd hq) (top_lst hq (reps_pickL w))⟩
    · cases ef
      obtain ⟨p, vs, e1, q, w⟩ := repR_fz hv
      exact ⟨p, vs, e1, q, fun q2 hq => k q2 _ hq (same_upd hq) (top_lst hq (reps_pickL w))⟩) h⟩
end
end L2.VS

/-! Texts by steps. -/
namespace L2.VS
open PySem PySem.Spec PyProof.Rows
section
variable {KF : PySem.W.Frag} {X : Cx} {fl fl1 fl2 : List Fl} {e o : Expr} {p pos : Pos} {m mo : M}
def stepS (z : Str) (l : Option Int) (c : Int) : Str := if (c == 1 && (Builtin.Str.strSliceIndices l none c z.length).length == z.length) = true then z else ⟨((Builtin.Str.strSliceIndices l none c z.length).filterMap (z.cps[·]?)).toArray⟩
theorem stepS_by (z : Str) (l : Option (Int × Tok)) (c : Int) (u : Tok) : Txt.sliceBy z l none (c, u) = stepS z (l.map (·.1)) c := rfl
theorem pe_stepS {lo : Option Expr} {st : Expr} {te : TE} {tl ts : TO} {c : Int} {p3 : Pos} (hc : (c == 0) = false) (he : PE X e te) (hl : PO X lo tl) (hst : PO X (some st) ts) (hts : ∀ σ H Q, Q (some c) H → ts σ H Q) : PE X (.Subscript e (.Slice lo none (some st) p3) pos)
    (fun σ H Q => te σ H fun x H1 => tl σ H1 fun l H2 => ∃ z : Str, x = .str z ∧ z.length ≤ sizeLine ∧ Q (.str (stepS z l c)) H2) := by
  refine ⟨fun pins s σ H Q I h => ?_⟩
  refine Subscript_ (thn (he.run pins s σ H _ I h) fun v s1 ⟨x, H1, I1, r1, q1⟩ => ?_)
  refine wpAny_Slice (thn (hl.run pins s1 σ H1 _ I1 q1) fun vl s2 ⟨l, H2, I2, pl, q2⟩ => ?_)
  obtain ⟨z, ex, hz, q⟩ := q2
  subst ex
  obtain ⟨t, rfl⟩ := r1
  refine thn (po_none.run pins s2 σ H2 (fun o H3 => o = none ∧ H3 = H2) I2 ⟨rfl, rfl⟩) fun vu s3 ⟨u, H3, I3, pu, eu, e3⟩ => ?_
  subst eu e3
  refine thn (hst.run pins s3 σ H3 (fun o H4 => o = some c ∧ H4 = H3) I3 (hts _ _ _ ⟨rfl, rfl⟩)) fun vs s4 ⟨o, H4, I4, ps, eo, e4⟩ => ?_
  subst eo e4
  have I5 : Inv X pins σ H4 { s4 with heap := s4.heap.push { cls := .type "slice", data := .fields #[vl, vu, vs] } } := I4.kept (t' := s4.toks) fun b ob q => Heap.get?_push_of_some _ q
  obtain ⟨lr, rfl, rfl⟩ := IsPart.raw pl
  obtain ⟨ur, rfl, eur⟩ := IsPart.raw pu
  obtain ⟨sr, rfl, esr⟩ := IsPart.raw ps
  have hur : ur = none := by cases ur with
    | none => rfl
    | some x => simp at eur
  subst hur
  obtain ⟨⟨c', uk⟩, rfl⟩ : ∃ x, sr = some x := by cases sr with
    | none => simp at esr
    | some x => exact ⟨x, rfl⟩
  have hcc : c' = c := by simpa using esr
  subst hcc
  show wpAny (model X.prog X.w) X.A (subscriptTail e (.Slice lo none (some st) p3) (.str z t) (.ref s4.heap.objs.size)) (EP X pins σ Q) X.xe { s4 with heap := s4.heap.push { cls := .type "slice", data := .fields #[_, _, _] } }
  refine tail_any (ops := [.ref s4.heap.objs.size, .str z t]) (typeIs_str _ _ _) F.slot_str_getitem.lookup ?_ (by with_unfolding_all rfl)
  refine wpAny_getItem_str_slice (l := lr) (u := none) (st := some (c', uk)) ⟨_, Heap.get?_push_size _ rfl, rfl, rfl⟩ hc ?_
  refine post_val_or_str ⟨Nat.le_trans (Txt.sliceBy_le z _ _ (c', uk) (by simpa using hc)) hz, fun t' c2 => ?_⟩
  exact ⟨.str _, _, I5.tok _, ⟨t', rfl⟩, q⟩
/-- two rules for one text: which, the value tells -/
theorem ped_alt {m1 m2 : M} (h1 : PED X fl e fl1 m1) (h2 : PED X fl e fl1 m2) (hv : IsV m) (h : ∀ ε r, m ε = some r → m1 ε = some r ∨ m2 ε = some r) : PED X fl e fl1 m :=
  ⟨hv, h1.sub, ⟨fun pins s σ H Q I ⟨ε, O, d, ε', r, em, k⟩ => by
    rcases h _ _ em with e1 | e1
    · exact h1.run.run pins s σ H Q I ⟨ε, O, d, ε', r, e1, k⟩
    · exact h2.run.run pins s σ H Q I ⟨ε, O, d, ε', r, e1, k⟩⟩⟩
def dRevS (d : D) : Option D := match d with
  | .str x => if lenOk x.length = true then some (.str x.reverse) else none
  | _ => none
theorem stepS_rev (x : List Nat) : stepS ⟨x.toArray⟩ none (-1) = ⟨x.reverse.toArray⟩ := by
  have h := step_rev_list ⟨x.toArray⟩ default
  rw [stepS_by] at h
  have h2 : (stepS ⟨x.toArray⟩ none (-1)).cps.toList = x.reverse := by
    rw [show (none : Option Int) = (none : Option (Int × Tok)).map (·.1) from rfl, h]
    apply List.ext_getElem
    · simp [Str.length]
    · intro i h1 h2
      simp [Str.length] at h1 h2 ⊢
      have : x.length - 1 - i < x.length := by omega
      simp [Array.getD, this]
  calc stepS ⟨x.toArray⟩ none (-1) = ⟨(stepS ⟨x.toArray⟩ none (-1)).cps.toList.toArray⟩ := by simp
    _ = _ := by rw [h2]
theorem ped_revS {k : Nat} {p1 p2 p3 : Pos} (ha : POD X fl e fl1 m) : PED X fl (.Subscript e (.Slice none none (some (.UnaryOp .USub (.Constant (.int 1) k p1) p2)) p3) pos) fl1 (e1 dRevS m) :=
  ⟨isv_e1, ha.sub, (pe_stepS (c := -1) (by decide) ha.run po_none (po_some (pe_un un_neg pe_int)) (fun σ H Q q => ⟨1, rfl, -1, rfl, q⟩)).imp fun σ H Q h => un_imp (r := fun x H Q => ∃ z : Str, x = .str z ∧ z.length ≤ sizeLine ∧ Q (.str (stepS z none (-1))) H) (fun v d z H O Q dm hv ef k => by
    cases d <;> simp only [dRevS] at ef <;> try (cases ef; done)
    split at ef
    · rename_i x hl
      cases ef
      obtain ⟨h1, h2⟩ := repR_str hv
      simp only [lenOk, decide_eq_true_eq] at hl
      refine ⟨_, h1, by show x.toArray.size ≤ _; rw [sizeLine_eq]; simpa using hl, ?_⟩
      rw [stepS_rev]
      refine k _ H (Same.refl H) ?_
      simp only [Rep]
      exact ⟨trivial, by simpa [strOkL] using h2⟩
    · cases ef) h⟩
def dRev (d : D) : Option D := match d with
  | .str _ => dRevS d
  | _ => dRevL d
theorem ped_rev {k : Nat} {p1 p2 p3 : Pos} (ha : POD X fl e fl1 m) : PED X fl (.Subscript e (.Slice none none (some (.UnaryOp .USub (.Constant (.int 1) k p1) p2)) p3) pos) fl1 (e1 dRev m) :=
  ped_alt (ped_of_pfd (pfd_revL ha)) (ped_revS ha) isv_e1 fun ε r h => by
    simp only [e1, Option.bind_eq_some_iff] at h ⊢
    obtain ⟨q, e1, x, g, z, f, h⟩ := h
    cases x <;> first
      | exact .inr ⟨q, e1, _, g, z, f, h⟩
      | exact .inl ⟨q, e1, _, g, z, f, h⟩
def stepSL (x : List Nat) (l : Option Int) (c : Int) : List Nat := if (c == 1 && (Builtin.Str.strSliceIndices l none c x.length).length == x.length) = true then x else (Builtin.Str.strSliceIndices l none c x.length).filterMap (x[·]?)
theorem stepSL_eq (x : List Nat) (l : Option Int) (c : Int) : stepS ⟨x.toArray⟩ l c = ⟨(stepSL x l c).toArray⟩ := by
  unfold stepS stepSL
  have : (⟨x.toArray⟩ : Str).length = x.length := by simp [Str.length]
  rw [this]
  split
  · rfl
  · simp
theorem stepSL_ok {x : List Nat} {l : Option Int} {c : Int} (h : strOkL x = true) : strOkL (stepSL x l c) = true := by
  unfold stepSL
  split
  · exact h
  · simp only [strOkL, List.all_eq_true, List.mem_filterMap] at h ⊢
    rintro y ⟨i, _, hi⟩
    exact h y (List.mem_of_getElem? hi)
def dStepS (lo : Option Int) (c : Int) (d : D) : Option D := match d with
  | .str x => if lenOk x.length = true then some (.str (stepSL x lo c)) else none
  | _ => none
theorem step_hr {lo : Option Int} {c : Int} {v : V} {d z : D} {H : Hp} {O : Addr → Prop} {Q : VK} (hv : RepR X.K H O v d) (ef : dStepS lo c d = some z) (k : ∀ v' H', Same H H' → Rep X.K H' O v' z → Q v' H') : ∃ z : Str, v = .str z ∧ z.length ≤ sizeLine ∧ Q (.str (stepS z lo c)) H := by
  cases d <;> simp only [dStepS] at ef <;> try (cases ef; done)
  split at ef
  · rename_i x hl
    cases ef
    obtain ⟨h1, h2⟩ := repR_str hv
    simp only [lenOk, decide_eq_true_eq] at hl
    refine ⟨_, h1, by show x.toArray.size ≤ _; rw [sizeLine_eq]; simpa using hl, ?_⟩
    rw [stepSL_eq]
    refine k _ H (Same.refl H) ?_
    simp only [Rep]
    exact ⟨trivial, stepSL_ok h2⟩
  · cases ef
theorem ped_stepS {c : Int} {k : Nat} {p1 p3 : Pos} (ha : POD X fl e fl1 m) (hc : (c == 0) = false := by decide) : PED X fl (.Subscript e (.Slice none none (some (.Constant (.int c) k p1)) p3) pos) fl1 (e1 (dStepS none c) m) :=
  ⟨isv_e1, ha.sub, (pe_stepS hc ha.run po_none (po_some pe_int) (fun σ H Q q => ⟨c, rfl, q⟩)).imp fun σ H Q h => un_imp (fun v d z H O Q dm hv ef k => step_hr hv ef k) h⟩
theorem ped_stepFS {c i : Int} {k k2 : Nat} {p1 p2 p3 : Pos} (ha : POD X fl e fl1 m) (hc : (c == 0) = false := by decide) : PED X fl (.Subscript e (.Slice (some (.Constant (.int i) k2 p2)) none (some (.Constant (.int c) k p1)) p3) pos) fl1 (e1 (dStepS (some i) c) m) :=
  ⟨isv_e1, ha.sub, (pe_stepS hc ha.run (po_some pe_int) (po_some pe_int) (fun σ H Q q => ⟨c, rfl, q⟩)).imp fun σ H Q h => un_imp (r := fun x H Q => ∃ j : Int, V.int i = .int j ∧ ∃ z : Str, x = .str z ∧ z.length ≤ sizeLine ∧ Q (.str (stepS z (some j) c)) H) (fun v d z H O Q dm hv ef k => ⟨i, rfl, step_hr hv ef k⟩) h⟩
def dStep (lo : Option Int) (c : Int) (d : D) : Option D := match d with
  | .str _ => dStepS lo c d
  | _ => dStepL lo c d
theorem step_alt {lo : Option Int} {c : Int} {ε : Slots} {r : Opd × Slots} (h : e1 (dStep lo c) m ε = some r) : e1 (dStepL lo c) m ε = some r ∨ e1 (dStepS lo c) m ε = some r := by
  simp only [e1, Option.bind_eq_some_iff] at h ⊢
  obtain ⟨q, e1, x, g, z, f, h⟩ := h
  cases x <;> first
    | exact .inr ⟨q, e1, _, g, z, f, h⟩
    | exact .inl ⟨q, e1, _, g, z, f, h⟩
theorem ped_step {c : Int} {k : Nat} {p1 p3 : Pos} (ha : POD X fl e fl1 m) (hc : c ≠ 0 := by decide) (hc2 : (c == 0) = false := by decide) : PED X fl (.Subscript e (.Slice none none (some (.Constant (.int c) k p1)) p3) pos) fl1 (e1 (dStep none c) m) :=
  ped_alt (ped_of_pfd (pfd_stepL ha hc)) (ped_stepS ha hc2) isv_e1 fun ε r h => step_alt h
theorem ped_stepF {c i : Int} {k k2 : Nat} {p1 p2 p3 : Pos} (ha : POD X fl e fl1 m) (hc : c ≠ 0 := by decide) (hc2 : (c == 0) = false := by decide) : PED X fl (.Subscript e (.Slice (some (.Constant (.int i) k2 p2)) none (some (.Constant (.int c) k p1)) p3) pos) fl1 (e1 (dStep (some i) c) m) :=
  ped_alt (ped_of_pfd (pfd_stepFL ha hc)) (ped_stepFS ha hc2) isv_e1 fun ε r h => step_alt h
end
end L2.VS

/-! name = [.. for ..], the name a local. -/
namespace L2.VS
open PySem PySem.Spec PyProof.Rows
section
variable {X : Cx} {sg : Sg} {fl fl1 fl2 : List Fl} {tg : Expr} {pos spos py : Pos} {y : Str} {t : T}
theorem run_setC {i : Nat} {iter elt : Expr} {ifs : List Expr} {scope : Scope} {it : I} {g : G} {me : M} {ws : List Nat} {flT fl3 : List Fl} (own : List (Str × Nat)) (flH : List Fl) (nd : X.N.Nodup) (hi : PID X fl tg iter fl1 it)
    (hg : ∀ (s : Shared) (H : Hp) (C : Addr) (cl : List (Str × Addr)) (fp : List Addr), PGD (X.blk s H scope (compEnvC scope cl C X.env) fp) [] flH tg flT ws g)
    (ht : ∀ (s : Shared) (H : Hp) (C : Addr) (cl : List (Str × Addr)) (fp : List Addr), PTsD (X.blk s H scope (compEnvC scope cl C X.env) fp) flT ifs fl2 t)
    (he : ∀ (s : Shared) (H : Hp) (C : Addr) (cl : List (Str × Addr)) (fp : List Addr), PED (X.blk s H scope (compEnvC scope cl C X.env) fp) fl2 elt fl3 me)
    (hy : X.N[i]? = some y) (hyl : X.env.scope.names.lookup y = some .local) (hsw : swapsWith (.ListComp elt [⟨tg, iter, ifs, 0⟩] scope pos) (some (.Name y py)) spos.line X.env = pure true)
    (ok : BlkOk X.N X.env.scope scope own)
    (w0 : wkB fl1 flH = true) (w2 : wkB fl2 flH = true) (w3 : wkB fl3 flH = true) (hv : ∀ j ∈ own.map (·.2), flH[j]? = some .sh) (hro : flH.all (fun f => decide (f ≠ .ro)) = true) (hws : ∀ j ∈ ws, j ∈ own.map (·.2)) (how : owChk flT flH (own.map (·.2)) = true)
    (hc : X.calm = true) (hs : ∀ x, foldedSetIterable iter X.env x = pure x) :
    PS X (.Assign [.Name y py] (.ListComp elt [⟨tg, iter, ifs, 0⟩] scope pos) spos) (tAsg (tF X.K fl flH (eComp it g t me (own.map (·.2)))) (gName i)) := by
  obtain ⟨wi, hw, hq⟩ := hi.run
  have e0 : ∀ (s : Shared) (H : Hp) (C : Addr) (cl : List (Str × Addr)) (fp : List Addr), IsV me ∧ Subf flT fl2 ∧ Subf fl2 fl3 := fun s H C cl fp => ⟨(he s H C cl fp).isv, (ht s H C cl fp).sub, (he s H C cl fp).sub⟩
  refine ⟨fun pins s σ H Q I h => ?_⟩
  obtain ⟨iv, s1, s2⟩ := e0 s H 0 [] []
  exact (ps_setLc hc nd hy hyl hsw hw ok (fun s H C cl fp => (hg s H C cl fp).run) (fun s H C cl fp => (ht s H C cl fp).run) (fun s H C cl fp => (he s H C cl fp).run) hs).run pins s σ H Q I
    (comp_imp hi.sub hq s1 s2 iv w0 w3 w2 hv (fun i z => by
      have := List.all_eq_true.mp hro _ (List.mem_of_getElem? z)
      simp at this) hws how h)
theorem psd_setC (i : Nat) {iter elt : Expr} {ifs : List Expr} {scope : Scope} {it : I} {g : G} {me : M} {ws : List Nat} {flT fl3 : List Fl} (own : List (Str × Nat)) (flH : List Fl) (nd : X.N.Nodup) (hi : PID X fl tg iter fl1 it)
    (hg : ∀ (s : Shared) (H : Hp) (C : Addr) (cl : List (Str × Addr)) (fp : List Addr), PGD (X.blk s H scope (compEnvC scope cl C X.env) fp) [] flH tg flT ws g)
    (ht : ∀ (s : Shared) (H : Hp) (C : Addr) (cl : List (Str × Addr)) (fp : List Addr), PTsD (X.blk s H scope (compEnvC scope cl C X.env) fp) flT ifs fl2 t)
    (he : ∀ (s : Shared) (H : Hp) (C : Addr) (cl : List (Str × Addr)) (fp : List Addr), PED (X.blk s H scope (compEnvC scope cl C X.env) fp) fl2 elt fl3 me)
    (sb : Subf fl flH) (ho : i ∉ sg.ownp := by decide) (hl : i < flH.length := by decide)
    (hy : X.N[i]? = some y := by rfl) (hyl : X.env.scope.names.lookup y = some .local := by rfl) (hsw : swapsWith (.ListComp elt [⟨tg, iter, ifs, 0⟩] scope pos) (some (.Name y py)) spos.line X.env = pure true := by exact sw_true rfl rfl rfl rfl)
    (ok : BlkOk X.N X.env.scope scope own := by exact blkOk_by (by kernel_rfl))
    (w0 : wkB fl1 flH = true := by rfl) (w2 : wkB fl2 flH = true := by rfl) (w3 : wkB fl3 flH = true := by rfl) (hv : ∀ j ∈ own.map (·.2), flH[j]? = some .sh := by decide) (hro : flH.all (fun f => decide (f ≠ .ro)) = true := by rfl) (hws : ∀ j ∈ ws, j ∈ own.map (·.2) := by decide) (how : owChk flT flH (own.map (·.2)) = true := by rfl)
    (hc : X.calm = true := by rfl) (hs : ∀ x, foldedSetIterable iter X.env x = pure x := by intro _; rfl) :
    PSD X sg fl (.Assign [.Name y py] (.ListComp elt [⟨tg, iter, ifs, 0⟩] scope pos) spos) (flH.set i .ow) (sSet i (eComp it g t me (own.map (·.2)))) :=
  ⟨(run_setC own flH nd hi hg ht he hy hyl hsw ok w0 w2 w3 hv hro hws how hc hs).imp fun D σ H ⟨Γ, ε, O, w, ε', r, em, k⟩ => by
  simp only [sSet, Option.bind_eq_some_iff] at em
  obtain ⟨⟨d, ε1⟩, e1, em⟩ := em
  cases em
  refine ⟨ε, O, d, ε1, r.rel, isv_comp.val e1, fun p H' O' r' s o t ap n => ?_⟩
  refine k _ _ _ ((r.step r' s sb).setOw o t ap hl ?_ ho)
  rcases n with n | n
  · exact .inr (r.dom p n)
  · exact r.hit p n⟩
theorem psd_setCS (i : Nat) {iter elt : Expr} {ifs : List Expr} {scope : Scope} {it : I} {g : G} {me : M} {ws : List Nat} {flT fl3 : List Fl} (own : List (Str × Nat)) (flH : List Fl) (nd : X.N.Nodup) (hi : PID X fl tg iter fl1 it)
    (hg : ∀ (s : Shared) (H : Hp) (C : Addr) (cl : List (Str × Addr)) (fp : List Addr), PGD (X.blk s H scope (compEnvC scope cl C X.env) fp) [] flH tg flT ws g)
    (ht : ∀ (s : Shared) (H : Hp) (C : Addr) (cl : List (Str × Addr)) (fp : List Addr), PTsD (X.blk s H scope (compEnvC scope cl C X.env) fp) flT ifs fl2 t)
    (he : ∀ (s : Shared) (H : Hp) (C : Addr) (cl : List (Str × Addr)) (fp : List Addr), PED (X.blk s H scope (compEnvC scope cl C X.env) fp) fl2 elt fl3 me)
    (sb : Subf fl flH) (ho : i ∉ sg.ownp := by decide)
    (hy : X.N[i]? = some y := by rfl) (hyl : X.env.scope.names.lookup y = some .local := by rfl) (hsw : swapsWith (.ListComp elt [⟨tg, iter, ifs, 0⟩] scope pos) (some (.Name y py)) spos.line X.env = pure true := by exact sw_true rfl rfl rfl rfl)
    (ok : BlkOk X.N X.env.scope scope own := by exact blkOk_by (by kernel_rfl))
    (w0 : wkB fl1 flH = true := by rfl) (w2 : wkB fl2 flH = true := by rfl) (w3 : wkB fl3 flH = true := by rfl) (hv : ∀ j ∈ own.map (·.2), flH[j]? = some .sh := by decide) (hro : flH.all (fun f => decide (f ≠ .ro)) = true := by rfl) (hws : ∀ j ∈ ws, j ∈ own.map (·.2) := by decide) (how : owChk flT flH (own.map (·.2)) = true := by rfl)
    (hc : X.calm = true := by rfl) (hs : ∀ x, foldedSetIterable iter X.env x = pure x := by intro _; rfl) :
    PSD X sg fl (.Assign [.Name y py] (.ListComp elt [⟨tg, iter, ifs, 0⟩] scope pos) spos) (flH.set i .sh) (sSet i (eComp it g t me (own.map (·.2)))) :=
  ⟨(run_setC own flH nd hi hg ht he hy hyl hsw ok w0 w2 w3 hv hro hws how hc hs).imp fun D σ H ⟨Γ, ε, O, w, ε', r, em, k⟩ => by
  simp only [sSet, Option.bind_eq_some_iff] at em
  obtain ⟨⟨d, ε1⟩, e1, em⟩ := em
  cases em
  refine ⟨ε, O, d, ε1, r.rel, isv_comp.val e1, fun p H' O' r' s o t ap n => ?_⟩
  obtain ⟨r2, q⟩ := r'.let ap t
  have s2 : Step fl σ O H (fun b => O' b ∧ b ≠ p) H' := ⟨s.keep, s.dom, fun b h => s.new b h.1, fun b h nh => ⟨s.old b h nh, fun z => by
    subst z
    rcases n with n | n
    · exact r.rel.dom _ h n
    · exact nh n⟩⟩
  exact k _ _ _ ((r.step r2 s2 sb).setSh q ho)⟩
end
end L2.VS

/-! range with a step, enumerate; x[i::c] as what is at i, i + c, .. -/
namespace L2.VS
open PySem PySem.Spec PyProof.Rows
section
variable {m a b c : M} {ε : Slots} {QL : List D → Slots → Prop}
theorem exO_iff {α : Type} {o : Option α} {P : α → Prop} : exO o P ↔ ∃ x, o = some x ∧ P x := by
  cases o with
  | none => simp [exO]
  | some x => simp [exO]
theorem wp_yes {Q : Bool → Slots → Prop} : wpT tYesD ε Q ↔ Q true ε := ⟨fun ⟨_, _, e, q⟩ => by cases e; exact q, fun q => ⟨_, _, rfl, q⟩⟩
theorem xp_iR3 : wpI (iR3 a b c) ε QL ↔ wpM a ε fun o ε1 => exO (o.get ε1) fun d => wpM b ε1 fun o2 ε2 => exO (o2.get ε2) fun d2 => wpM c ε2 fun o3 ε3 => exO (o3.get ε3) fun d3 => exO (asI d) fun i => exO (asI d2) fun j => exO (asI d3) fun k => rangeOk i j k = true ∧ QL (rangeL i k (rangeSz i j k).toNat) ε3 := by
  rw [← xp_wpV (R := fun d ε1 => wpM b ε1 fun o2 ε2 => exO (o2.get ε2) fun d2 => wpM c ε2 fun o3 ε3 => exO (o3.get ε3) fun d3 => exO (asI d) fun i => exO (asI d2) fun j => exO (asI d3) fun k => rangeOk i j k = true ∧ QL (rangeL i k (rangeSz i j k).toNat) ε3)]
  have h2 : ∀ d ε1, (wpM b ε1 fun o2 ε2 => exO (o2.get ε2) fun d2 => wpM c ε2 fun o3 ε3 => exO (o3.get ε3) fun d3 => exO (asI d) fun i => exO (asI d2) fun j => exO (asI d3) fun k => rangeOk i j k = true ∧ QL (rangeL i k (rangeSz i j k).toNat) ε3) ↔ ∃ d2 ε2, val b ε1 = some (d2, ε2) ∧ ∃ d3 ε3, val c ε2 = some (d3, ε3) ∧ exO (asI d) fun i => exO (asI d2) fun j => exO (asI d3) fun k => rangeOk i j k = true ∧ QL (rangeL i k (rangeSz i j k).toNat) ε3 := by
    intro d ε1
    rw [← xp_wpV (R := fun d2 ε2 => wpM c ε2 fun o3 ε3 => exO (o3.get ε3) fun d3 => exO (asI d) fun i => exO (asI d2) fun j => exO (asI d3) fun k => rangeOk i j k = true ∧ QL (rangeL i k (rangeSz i j k).toNat) ε3), ← wpV_val]
    constructor
    · rintro ⟨d2, ε2, e2, h⟩
      rw [← xp_wpV (R := fun d3 ε3 => exO (asI d) fun i => exO (asI d2) fun j => exO (asI d3) fun k => rangeOk i j k = true ∧ QL (rangeL i k (rangeSz i j k).toNat) ε3), ← wpV_val] at h
      obtain ⟨d3, ε3, e3, h⟩ := h
      exact ⟨d2, ε2, e2, d3, ε3, e3, h⟩
    · rintro ⟨d2, ε2, e2, d3, ε3, e3, h⟩
      refine ⟨d2, ε2, e2, ?_⟩
      rw [← xp_wpV (R := fun d3 ε3 => exO (asI d) fun i => exO (asI d2) fun j => exO (asI d3) fun k => rangeOk i j k = true ∧ QL (rangeL i k (rangeSz i j k).toNat) ε3), ← wpV_val]
      exact ⟨d3, ε3, e3, h⟩
  rw [← wpV_val]
  unfold wpI
  constructor
  · rintro ⟨ds, ε', e, q⟩
    simp only [iR3, Option.bind_eq_some_iff] at e
    obtain ⟨⟨d, ε1⟩, e1, ⟨d2, ε2⟩, e2, ⟨d3, ε3⟩, e3, e⟩ := e
    refine ⟨d, ε1, e1, (h2 d ε1).mpr ⟨d2, ε2, e2, d3, ε3, e3, ?_⟩⟩
    cases d <;> cases d2 <;> cases d3 <;> try (cases e; done)
    simp only at e
    split at e
    · rename_i h
      cases e
      exact ⟨_, rfl, _, rfl, _, rfl, h, q⟩
    · cases e
  · rintro ⟨d, ε1, e1, h⟩
    obtain ⟨d2, ε2, e2, d3, ε3, e3, h⟩ := (h2 d ε1).mp h
    obtain ⟨i, hi, j, hj, k, hk, h, q⟩ := h
    have hi' := asI_eq.mpr hi
    have hj' := asI_eq.mpr hj
    have hk' := asI_eq.mpr hk
    subst hi' hj' hk'
    exact ⟨_, _, by simp only [iR3, e1, e2, e3, Option.bind_some]; rw [if_pos (by assumption)], q⟩
theorem xp_iEn : wpI (iEn m) ε QL ↔ wpM m ε fun o ε1 => exO (o.get ε1) fun d => exO (match d with | .lst ds => some (enumL 0 ds) | .fz ds => some (enumL 0 ds) | _ => none) fun ds => QL ds ε1 := by
  rw [← xp_wpV (R := fun d ε1 => exO (match d with | .lst ds => some (enumL 0 ds) | .fz ds => some (enumL 0 ds) | _ => none) fun ds => QL ds ε1), ← wpV_val]
  unfold wpI
  constructor
  · rintro ⟨ds, ε', e, q⟩
    simp only [iEn, Option.bind_eq_some_iff] at e
    obtain ⟨⟨d, ε1⟩, e1, e⟩ := e
    refine ⟨d, ε1, e1, ?_⟩
    cases d <;> first | (cases e; done) | (cases e; exact ⟨_, rfl, q⟩)
  · rintro ⟨d, ε1, e1, ds, e, q⟩
    refine ⟨ds, ε1, ?_, q⟩
    cases d <;> first | (cases e; done) | (cases e; simp only [iEn, e1, Option.bind_some])
end
/-- what lies at i, i + c, i + 2 c .. -/
def th {α : Type} (c i : Nat) (x : List α) : List α := (List.range ((x.length + c - 1 - i) / c)).filterMap fun k => x[i + c * k]?
theorem th_in {c i n k : Nat} (hc : 0 < c) (h : k < (n + c - 1 - i) / c) : i + c * k < n := by
  have h2 : (n + c - 1 - i) / c * c ≤ n + c - 1 - i := Nat.div_mul_le_self _ _
  have h3 : (k + 1) * c ≤ (n + c - 1 - i) / c * c := Nat.mul_le_mul_right _ h
  have : (k + 1) * c = c * k + c := by rw [Nat.succ_mul, Nat.mul_comm]
  omega
theorem th_map {α : Type} {c i : Nat} {x : List α} (z : α) (hc : 0 < c) : th c i x = (List.range ((x.length + c - 1 - i) / c)).map fun k => x.getD (i + c * k) z := by
  unfold th
  have : ∀ L : List Nat, (∀ k ∈ L, i + c * k < x.length) → (L.filterMap fun k => x[i + c * k]?) = L.map fun k => x.getD (i + c * k) z := by
    intro L
    induction L with
    | nil => intro _; rfl
    | cons k L ih =>
      intro h
      have hk := h k (List.mem_cons_self ..)
      rw [List.filterMap_cons, List.getElem?_eq_getElem hk]
      simp only [List.map_cons]
      rw [ih fun k hk => h k (List.mem_cons_of_mem _ hk), List.getD_eq_getElem?_getD, List.getElem?_eq_getElem hk]
      rfl
  exact this _ fun k hk => th_in hc (List.mem_range.mp hk)
theorem th_len {α : Type} {c i : Nat} {x : List α} (hc : 0 < c) : (th c i x).length = (x.length + c - 1 - i) / c := by
  cases x with
  | nil =>
    unfold th
    have : ([] : List α).length + c - 1 - i = c - 1 - i := by simp
    rw [this]
    have : (c - 1 - i) / c = 0 := Nat.div_eq_of_lt (by omega)
    rw [this]; rfl
  | cons z x => rw [th_map z hc]; simp
theorem th_get {α : Type} {c i k : Nat} {x : List α} (hc : 0 < c) (h : k < (th c i x).length) : (th c i x)[k]? = x[i + c * k]? := by
  rw [th_len hc] at h
  have h2 := th_in hc h
  obtain ⟨z, hz⟩ : ∃ z, x[i + c * k]? = some z := ⟨_, List.getElem?_eq_getElem h2⟩
  rw [th_map z hc, List.getElem?_map, List.getElem?_range h, hz, Option.map_some, List.getD_eq_getElem?_getD, hz]; rfl
theorem th_map2 {α β : Type} {c i : Nat} {x : List α} (f : α → β) : th c i (x.map f) = (th c i x).map f := by
  unfold th
  rw [List.length_map, List.map_filterMap]
  congr 1
  funext k
  rw [List.getElem?_map]
theorem sliceRange_th {n i c : Nat} (hc : 0 < c) : sliceRange (min (i : Int) n) n c = (List.range ((n + c - 1 - i) / c)).map fun k => i + c * k := by
  unfold sliceRange
  rw [if_pos (by omega)]
  by_cases h : i < n
  · rw [if_pos (by omega), show min (i : Int) n = i by omega]
    have e : ((n : Int) - i + c - 1) / c = (((n + c - 1 - i) / c : Nat) : Int) := by
      rw [show (n : Int) - i + c - 1 = ((n + c - 1 - i : Nat) : Int) by omega]; rfl
    rw [e]
    show ((List.range (((n + c - 1 - i) / c : Nat) : Int).toNat).map fun (k : Nat) => ((i : Int) + (c : Int) * (k : Int)).toNat) = _
    rw [Int.toNat_natCast]
    refine List.map_congr_left fun k _ => ?_
    have : (i : Int) + (c : Int) * (k : Int) = ((i + c * k : Nat) : Int) := by simp
    rw [this, Int.toNat_natCast]
  · rw [if_neg (by omega)]
    have : (n + c - 1 - i) / c = 0 := Nat.div_eq_of_lt (by omega)
    rw [this]; rfl
theorem stepSL_th {x : List Nat} {i c : Nat} (hc : 1 < c) : stepSL x (some (i : Int)) c = th c i x := by
  unfold stepSL
  have h1 : (((c : Int) == 1) = false) := by rw [beq_eq_false_iff_ne]; omega
  have e : Builtin.Str.strSliceIndices (some (i : Int)) none c x.length = (List.range ((x.length + c - 1 - i) / c)).map fun k => i + c * k := by
    unfold Builtin.Str.strSliceIndices
    have hp : (c : Int) > 0 := by omega
    have hi : ¬ (i : Int) < 0 := by omega
    simp only [hp, hi, if_true, if_false]
    rw [show max 0 (min (i : Int) (x.length : Nat)) = min (i : Int) (x.length : Nat) by omega]
    exact sliceRange_th (by omega)
  rw [h1, Bool.false_and, if_neg (by decide), e, List.filterMap_map]
  rfl
theorem stepSL_th0 {x : List Nat} {c : Nat} (hc : 1 < c) : stepSL x none c = th c 0 x := by
  unfold stepSL
  have h1 : (((c : Int) == 1) = false) := by rw [beq_eq_false_iff_ne]; omega
  have e : Builtin.Str.strSliceIndices none none c x.length = (List.range ((x.length + c - 1 - 0) / c)).map fun k => 0 + c * k := by
    unfold Builtin.Str.strSliceIndices
    have hp : (c : Int) > 0 := by omega
    simp only [hp, if_true]
    have := sliceRange_th (n := x.length) (i := 0) (c := c) (by omega)
    rw [← this]
    congr 1
  rw [h1, Bool.false_and, if_neg (by decide), e, List.filterMap_map]
  rfl
theorem step_s {x : List Nat} {i c : Nat} (h : x.length ≤ 16777216) (hc : 1 < c) : dStep (some (i : Int)) c (.str x) = some (.str (th c i x)) := by
  show dStepS (some (i : Int)) (c : Int) (.str x) = _
  simp only [dStepS, lenOk, h, decide_true, if_true, stepSL_th hc]
theorem step_s0 {x : List Nat} {c : Nat} (h : x.length ≤ 16777216) (hc : 1 < c) : dStep none c (.str x) = some (.str (th c 0 x)) := by
  show dStepS none (c : Int) (.str x) = _
  simp only [dStepS, lenOk, h, decide_true, if_true, stepSL_th0 hc]
/-- range(i, n, c) -/
theorem rangeL_th {i n c : Nat} (hc : 0 < c) : rangeL i c (rangeSz i n c).toNat = (List.range ((n + c - 1 - i) / c)).map fun k => .int ((i + c * k : Nat) : Int) := by
  have e : (rangeSz i n c).toNat = (n + c - 1 - i) / c := by
    unfold rangeSz Builtin.Range.rangeSize
    rw [if_pos (by omega)]
    by_cases h : i < n
    · rw [if_pos (by omega), show (n : Int) - i - 1 = ((n - i - 1 : Nat) : Int) by omega]
      have : ((n - i - 1 : Nat) : Int) / c + 1 = (((n - i - 1) / c + 1 : Nat) : Int) := by simp
      rw [this, Int.toNat_natCast, show n + c - 1 - i = n - i - 1 + c by omega, Nat.add_div_right _ hc]
    · rw [if_neg (by omega)]
      have : (n + c - 1 - i) / c = 0 := Nat.div_eq_of_lt (by omega)
      rw [this]; rfl
  unfold rangeL
  rw [e]
  refine List.map_congr_left fun k _ => ?_
  congr 1
  rw [Int.natCast_add, Int.natCast_mul, Int.mul_comm]
theorem rangeOk_th {i n c : Nat} (hc : 0 < c) (hc2 : c < 1000) (hn : n < 1000000000) (hi : i < 1000000000) : rangeOk i n c = true := by
  have h0 : 0 ≤ rangeSz i n c ∧ rangeSz i n c ≤ 1000000000 := by
    unfold rangeSz Builtin.Range.rangeSize
    rw [if_pos (by omega)]
    by_cases h : i < n
    · rw [if_pos (by omega), show (n : Int) - i - 1 = ((n - i - 1 : Nat) : Int) by omega]
      have e : ((n - i - 1 : Nat) : Int) / c + 1 = (((n - i - 1) / c + 1 : Nat) : Int) := by simp
      have h5 := Nat.div_le_self (n - i - 1) c
      rw [e]
      generalize (n - i - 1) / c = q at h5 ⊢
      omega
    · rw [if_neg (by omega)]
      omega
  have h1 : Builtin.Range.small i n c = true := by
    have f1 : ∀ x : Int, 0 ≤ x → x ≤ 2000000000 → Builtin.Range.rangeFitsLong x = true := fun x hx hy => by
      simp only [Builtin.Range.rangeFitsLong, Bool.and_eq_true, decide_eq_true_eq]; omega
    have h6 := h0
    unfold rangeSz at h6
    simp only [Builtin.Range.small]
    rw [f1 _ (by omega) (by omega), f1 _ (by omega) (by omega), f1 _ (by omega) (by omega), f1 _ h6.1 (by omega), if_pos (by omega), f1 _ (by omega) (by omega)]
    simp
  have h2 : (c : Int) ≠ 0 := by omega
  have h3 : ((c : Int)).natAbs < 1073741824 := by omega
  simp only [rangeOk, h1, h2, h3, h0.1, decide_true, Bool.and_self, ne_eq, not_false_eq_true]
end L2.VS

/-! a list so many times -/
namespace L2.VS
open PySem PySem.Spec PyProof.Rows
section
variable {KF : PySem.W.Frag} {X : Cx} {fl fl1 fl2 : List Fl} {a b : Expr} {pos : Pos} {ma mb : M}
def dRep : D → D → Option D
  | .lst xs, .int k => if (decide (-4611686018427387904 < k) && decide (k < 4611686018427387904) && lenOk (xs.length * k.toNat)) = true then some (.lst (List.replicate k.toNat xs).flatten) else none
  | _, _ => none
theorem reps_rep {H : Hp} {O : Addr → Prop} {vs : List V} {ds : List D} (w : Reps KF H O vs ds) : ∀ n, Reps KF H O (List.replicate n vs).flatten (List.replicate n ds).flatten
  | 0 => by simp [Reps]
  | n + 1 => by
    rw [List.replicate_succ, List.replicate_succ, List.flatten_cons, List.flatten_cons]
    exact w.append (reps_rep w n)
theorem ped_repL (ha : POD X fl a fl1 ma) (hb : POD X fl1 b fl2 mb) : PED X fl (.BinOp a .Mult b pos) fl2 (e2 dRep ma mb) :=
  ped_op op_rep (fun v u d e z H O Q dm hv hu ef k => by
    cases d <;> cases e <;> simp only [dRep] at ef <;> try (cases ef; done)
    split at ef
    · rename_i hl
      cases ef
      simp only [Bool.and_eq_true, decide_eq_true_eq] at hl
      obtain ⟨p, vs, e1, q1, w1⟩ := repR_lst hv
      refine ⟨p, _, vs, e1, repR_int hu, q1, by omega, by omega, ?_, fun n hn => k _ _ (same_upd hn) (rep_lst hn dm (reps_rep w1 _))⟩
      rw [w1.length]; exact lenOk_of hl.2
    · cases ef) ha hb
theorem pfd_repL (ha : POD X fl a fl1 ma) (hb : POD X fl1 b fl2 mb) : PFD X fl (.BinOp a .Mult b pos) fl2 (e2 dRep ma mb) :=
  pfd_op op_rep (fun v u d e z H O Q dm hv hu ef k => by
    cases d <;> cases e <;> simp only [dRep] at ef <;> try (cases ef; done)
    split at ef
    · rename_i hl
      cases ef
      simp only [Bool.and_eq_true, decide_eq_true_eq] at hl
      obtain ⟨p, vs, e1, q1, w1⟩ := repR_lst hv
      refine ⟨p, _, vs, e1, repR_int hu, q1, by omega, by omega, ?_, fun n hn => k _ _ hn (same_upd hn) (top_lst hn (reps_rep w1 _))⟩
      rw [w1.length]; exact lenOk_of hl.2
    · cases ef) ha hb
theorem rep_1 {d : D} {k : Int} (h : -1000000 ≤ k) (h2 : k ≤ 1000000) : dRep (.lst [d]) (.int k) = some (.lst (List.replicate k.toNat d)) := by
  have h3 : (decide (-4611686018427387904 < k) && decide (k < 4611686018427387904) && lenOk (([d] : List D).length * k.toNat)) = true := by
    simp only [lenOk, List.length_cons, List.length_nil, Bool.and_eq_true, decide_eq_true_eq]
    omega
  have h4 : ∀ n, (List.replicate n [d]).flatten = List.replicate n d := fun n => by
    induction n with
    | zero => rfl
    | succ n ih => rw [List.replicate_succ, List.flatten_cons, ih]; rfl
  simp only [dRep, h3, if_true, h4]
end
theorem pickL_th {α : Type} {xs : List α} {i c : Nat} (hc : 0 < c) : pickL xs (some (i : Int)) none (some (c : Int)) = th c i xs := by
  have hi : ¬ (i : Int) < 0 := by omega
  have hp : (c : Int) > 0 := by omega
  have e : sliceBounds (some (i : Int)) none (some (c : Int)) xs.length = (min (i : Int) xs.length, (xs.length : Int), (c : Int)) := by
    unfold sliceBounds
    simp only [Option.getD_some, hp, hi, if_true, if_false]
    rw [show max 0 (min (i : Int) (xs.length : Nat)) = min (i : Int) (xs.length : Nat) by omega]
  unfold pickL
  rw [e, sliceRange_th hc, List.filterMap_map]
  rfl
theorem pickL_th0 {α : Type} {xs : List α} {c : Nat} (hc : 0 < c) : pickL xs none none (some (c : Int)) = th c 0 xs := by
  have hp : (c : Int) > 0 := by omega
  have e : sliceBounds none none (some (c : Int)) xs.length = (min ((0 : Nat) : Int) xs.length, (xs.length : Int), (c : Int)) := by
    unfold sliceBounds
    simp only [Option.getD_some, hp, if_true]
    rw [show min ((0 : Nat) : Int) (xs.length : Nat) = 0 by omega]
  unfold pickL
  rw [e, sliceRange_th hc, List.filterMap_map]
  rfl
theorem step_l {xs : List D} {i c : Nat} (hc : 0 < c) : dStep (some (i : Int)) c (.lst xs) = some (.lst (th c i xs)) := by
  show dStepL (some (i : Int)) (c : Int) (.lst xs) = _
  simp only [dStepL, pickL_th hc]
theorem step_l0 {xs : List D} {c : Nat} (hc : 0 < c) : dStep none c (.lst xs) = some (.lst (th c 0 xs)) := by
  show dStepL none (c : Int) (.lst xs) = _
  simp only [dStepL, pickL_th0 hc]
/-! small help for the math texts -/
theorem inb {i : Int} (h : -1000000000 ≤ i) (h2 : i ≤ 1000000000) : inB i = true := by simp only [inB, Bool.and_eq_true, decide_eq_true_eq]; omega
theorem cutTo {α : Type} {xs : List α} {i : Int} (h0 : 0 ≤ i) (h : i ≤ xs.length) : cutL xs none (some i) = xs.take i.toNat := by
  simp only [cutL, HT.sIx, if_neg (show ¬ i < 0 by omega), List.drop_zero, Nat.sub_zero]
  congr 1; omega
theorem cutFrom {α : Type} {xs : List α} {i : Int} (h0 : 0 ≤ i) (h : i ≤ xs.length) : cutL xs (some i) none = xs.drop i.toNat := by
  simp only [cutL, HT.sIx, if_neg (show ¬ i < 0 by omega)]
  rw [show min i.toNat xs.length = i.toNat by omega]
  exact List.take_of_length_le (by rw [List.length_drop]; omega)
theorem cutMid {α : Type} {xs : List α} {i j : Int} (h0 : 0 ≤ i) (h : i ≤ j) (h2 : j ≤ xs.length) : cutL xs (some i) (some j) = (xs.drop i.toNat).take (j - i).toNat := by
  simp only [cutL, HT.sIx, if_neg (show ¬ i < 0 by omega), if_neg (show ¬ j < 0 by omega)]
  rw [show min i.toNat xs.length = i.toNat by omega, show min j.toNat xs.length - i.toNat = (j - i).toNat by omega]
theorem fmodN (q c : Nat) : Int.fmod (q : Int) (c : Int) = ((q % c : Nat) : Int) := by rw [Int.fmod_eq_emod_of_nonneg _ (by omega)]; rfl
theorem fdivN (q c : Nat) : Int.fdiv (q : Int) (c : Int) = ((q / c : Nat) : Int) := by rw [Int.fdiv_eq_ediv_of_nonneg _ (by omega)]; rfl
theorem modN {q c : Nat} (h : 0 < c) : dMod (.int (q : Nat)) (.int (c : Nat)) = some (.int ((q % c : Nat) : Int)) := by rw [mod_ii (by omega), fmodN]
theorem filt_t {α : Type} (l : List α) : l.filter (fun _ => true) = l := List.filter_eq_self.mpr (by simp)
theorem filt_f {α : Type} (l : List α) : l.filter (fun _ => false) = [] := by simp
end L2.VS

/-! enumerate of a list or a str -/
namespace L2.VS
open PySem PySem.Spec PyProof.Rows L2
def Ites (z : Str) : It :=
  ⟨fun i _ => i < z.cps.size, fun i H v H' => ∃ T c, v = .ref T ∧ H T = none ∧ H' = upd H T (.tup [.int (i : Nat), .str ⟨#[c]⟩]) ∧ z.cps[i]? = some c, fun i _ => z.cps.size ≤ i⟩
theorem turn_enumS {P : Program} {w : World} {K : PySem.W.Frag} {elts : List Expr} {kk : Nat} {tpos : Pos} (z : Str) (t : Tok) (e it : Addr) :
    Turn P w K (.Tuple elts kk tpos) (Ites z) [e, it] e (fun i h => (∃ old, IsEnum h e it ((i : Nat) : Int) old) ∧ h.IsStrIter it (strIterType z) z t i ∧ e ≠ it ∧ i ≤ z.cps.size) where
  mem := by simp
  obj := fun i h st b hb => by
    obtain ⟨⟨old, he⟩, ⟨o, ho, hc, hd⟩, _⟩ := st
    have e' : b = e ∨ b = it := by simpa using hb
    rcases e' with z | z
    · rw [z]; exact ⟨_, he, fun v q => nomatch q⟩
    · rw [z]; exact ⟨o, ho, fun v q => by rw [hd] at q; cases q⟩
  keep := fun i h h' st k => let ⟨⟨old, he⟩, ⟨o, ho, r⟩, hne⟩ := st; ⟨⟨old, k e (by simp) _ he⟩, ⟨o, k it (by simp) o ho, r⟩, hne⟩
  item := by
    intro X hP hw hK hc i pins s σ H E I hf st hg
    subst hP hw hK
    obtain ⟨⟨old, he⟩, hit, hne, _⟩ := st
    have hel : e < s.heap.objs.size := Heap.lt_size he
    have hil : it < s.heap.objs.size := by obtain ⟨_, q, _⟩ := hit; exact Heap.lt_size q
    refine wpAny_pyNext_enum_itemD (PySem.Draws.text (A := X.A.in1) (I.ok.hd hc) it z t) he hit hg hne (by simpa using hne) fun x h' tk hP ho hit' hT hsz hk => ?_
    obtain ⟨c, u, hcx, rfl⟩ := hP
    refine ⟨_, rfl, wpAny_letOwnedTupleGo_enum (s := { s with heap := h', toks := tk + 1 }) ho fun h'' he' sb => ?_⟩
    have hT2 : h''.get? s.heap.objs.size = some { cls := .type "tuple", data := .seq #[.int i tk, .str ⟨#[c]⟩ u] } := (sb.2 _ (Nat.ne_of_gt hel)).trans hT
    have new : ObjOk X.prog X.w (upd H s.heap.objs.size (.tup [.int (i : Nat), .str ⟨#[c]⟩])) h'' s.heap.objs.size (.tup [.int (i : Nat), .str ⟨#[c]⟩]) :=
      ⟨by show 2 ≤ sizeLine; decide, [.int i tk, .str ⟨#[c]⟩ u], .cons ⟨_, rfl⟩ (.cons ⟨_, rfl⟩ .nil), ⟨_, hT2, rfl, _, rfl⟩⟩
    have I1 : Inv X pins σ (upd H s.heap.objs.size (.tup [.int (i : Nat), .str ⟨#[c]⟩])) { s with heap := h'', toks := tk + 1 } :=
      I.turnedNew (ch := [e, it]) (fun b ob hb q => (sb.2 b (fun z => hb (by simp [z]))).trans (hk b ob (fun z => hb (by simp [z])) (fun z => hb (by simp [z])) q)) hf (Nat.le_refl _) new
    refine ⟨.ref s.heap.objs.size, _, I1, rfl, ⟨_, c, rfl, I.hok.fresh (Nat.le_refl _), rfl, hcx⟩, ⟨⟨.str ⟨#[c]⟩ u, ?_⟩, ?_, hne, hg⟩, fun b hb => ?_⟩
    · have e1 : ((i + 1 : Nat) : Int) = (i : Int) + 1 := by omega
      rw [e1]; exact he'
    · obtain ⟨o, ho, r⟩ := hit'
      exact ⟨o, (sb.2 it (Ne.symm hne)).trans ho, r⟩
    · have hb' : b < s.heap.objs.size := by
        have e' : b = e ∨ b = it := by simpa using hb
        rcases e' with z | z
        · rw [z]; exact hel
        · rw [z]; exact hil
      rw [upd_ne (Nat.ne_of_lt hb')]
      exact (hf b hb).1
  done := by
    intro X hP hw hK hc i pins s σ H E I hf st hg
    subst hP hw hK
    obtain ⟨⟨old, he⟩, hit, hne, hle⟩ := st
    obtain ⟨f0, f1, f2, f3, f4, f5⟩ := hf it (by simp)
    have hg : z.cps.size ≤ i := hg
    obtain rfl : i = z.cps.size := by omega
    exact wpAny_pyNext_enum_endD (PySem.Draws.text (A := X.A.in1) (I.ok.hd hc) it z t) he hit fun h' eb => ⟨rfl, I.turned (t' := s.toks) (fun b o hb q => eb b o hb q) f0 f1 f3 f4 f5⟩
  self := fun A i s Q E st h => let ⟨⟨_, he⟩, _⟩ := st; wpAny_pyIter_enum he h
def dEnum : D → Option (List D)
  | .lst ds => some (enumL 0 ds)
  | .fz ds => some (enumL 0 ds)
  | .str x => some (enumL 0 (x.map fun c => .str [c]))
  | _ => none
def iEn2 (a : M) : I := fun ε => (val a ε).bind fun p => (dEnum p.1).bind fun ds => some (ds, p.2)
def iEnum2 (K : PySem.W.Frag) (ta : TA) : TI := fun σ H R => ta σ H fun vs H1 => (∃ a xs, vs = [.ref a] ∧ SqL K H1 a xs ∧ R (Ite K a) H1) ∨ ∃ z, vs = [.str z] ∧ R (Ites z) H1
theorem pi_enum2 {X : Cx} {e : Expr} {ta : TA} {p pos tpos : Pos} {elts : List Expr} {kk : Nat} (hg : Gl X "enumerate") (hm : X.mg "enumerate" = none) (ha : PA X [e] ta) (hs : starEach [e] X.env = [(false, eval e X.env)] := by rfl) :
    PI X (.Tuple elts kk tpos) (.Call (.Name "enumerate" p) [e] [] pos) (iEnum2 X.K ta) := by
  refine ⟨fun pins s σ H R I h => ?_⟩
  refine Call_ (ld_blt I hg hm boot_enumerate (PyProof.Rows.callWith_type1 (thn (ha.run pos pins s σ H _ I h) fun us s1 ⟨vs, H1, I1, r1, q1⟩ => ?_) hs rfl))
  rcases q1 with ⟨a, xs, ex, hq, q⟩ | ⟨z, ex, q⟩
  · subst ex
    cases r1 with
    | cons r rr =>
      cases rr
      cases r
      obtain ⟨its, rv, p', hz⟩ := I1.list hq
      refine call_enumerate_list p'.isList fun h' he hit hsz hk => wpAny_pyIter_enum he ?_
      have I2 : Inv X pins σ H1 { s1 with heap := h' } := I1.kept (t' := s1.toks) hk
      refine ⟨s1.heap.objs.size + 1, [s1.heap.objs.size + 1, s1.heap.objs.size], _, _, H1, rfl, I2, turn_enum a (s1.heap.objs.size + 1) s1.heap.objs.size, ⟨⟨.none, he⟩, hit, Nat.succ_ne_self _⟩, fun b hb => ?_, q⟩
      have e' : b = s1.heap.objs.size + 1 ∨ b = s1.heap.objs.size := by simpa using hb
      have hle : s1.heap.objs.size ≤ b := by
        rcases e' with z | z
        · rw [z]; exact Nat.le_add_right _ _
        · rw [z]; exact Nat.le_refl _
      exact I1.fpOk hle (I1.hok.fresh hle)
  · subst ex
    cases r1 with
    | cons r rr =>
      cases rr
      obtain ⟨t, rfl⟩ := r
      refine call_enumerate_str fun h' he hit hsz hk => wpAny_pyIter_enum he ?_
      have I2 : Inv X pins σ H1 { s1 with heap := h' } := I1.kept (t' := s1.toks) hk
      refine ⟨s1.heap.objs.size + 1, [s1.heap.objs.size + 1, s1.heap.objs.size], _, _, H1, rfl, I2, turn_enumS z t (s1.heap.objs.size + 1) s1.heap.objs.size, ⟨⟨.none, he⟩, hit, Nat.succ_ne_self _, Nat.zero_le _⟩, fun b hb => ?_, q⟩
      have e' : b = s1.heap.objs.size + 1 ∨ b = s1.heap.objs.size := by simpa using hb
      have hle : s1.heap.objs.size ≤ b := by
        rcases e' with z | z
        · rw [z]; exact Nat.le_add_right _ _
        · rw [z]; exact Nat.le_refl _
      exact I1.fpOk hle (I1.hok.fresh hle)
section
variable {KF : PySem.W.Frag} {X : Cx} {fl fl1 fl2 : List Fl} {e : Expr} {pos : Pos} {m : M} {σ : St} {H : Hp} {O : Addr → Prop}
theorem walks_enumS {x : List Nat} (ok : strOkL x = true) : Walks KF fl σ (Ites ⟨x.toArray⟩) (enumL 0 (x.map fun c => D.str [c])) H O := fun i H2 O2 kp dm => by
  refine ⟨fun d hd => ?_, fun hi => ?_⟩
  · obtain ⟨y, hy, rfl⟩ := enumL_get hd
    rw [List.getElem?_map] at hy
    cases hc : x[i]? with
    | none => rw [hc] at hy; cases hy
    | some c =>
      rw [hc] at hy
      cases hy
      have hlt := (List.getElem?_eq_some_iff.mp hc).1
      refine ⟨show i < x.toArray.size by simpa using hlt, fun v H3 hy => ?_⟩
      obtain ⟨T, c', e1, hT, e2, hc'⟩ := hy
      subst e1 e2
      have e3 : c' = c := by
        have q : x[i]? = some c' := by simpa using hc'
        rw [hc] at q
        cases q; rfl
      subst e3
      have hok : strOkL [c'] = true := by
        simp only [strOkL, List.all_eq_true] at ok ⊢
        intro a ha
        rw [List.mem_singleton] at ha
        subst ha
        exact ok _ (List.mem_of_getElem? hc)
      exact rep_tup2 (KF := KF) (x := .int (i : Nat)) (d := .int ((0 + i : Nat) : Int)) hT dm (by simp [Rep]) (by simp only [Rep]; exact ⟨trivial, hok⟩)
  · rw [enumL_len, List.length_map] at hi
    show x.toArray.size ≤ i
    simp; omega
theorem pid_en2 {elts : List Expr} {kk : Nat} {tpos p : Pos} (h : PED X fl e fl1 m) (hm : X.mg "enumerate" = none) (hg : Gl X "enumerate" := by rfl) (na : NoStar e := by intro _ _; rfl) : PID X fl (.Tuple elts kk tpos) (.Call (.Name "enumerate" p) [e] [] pos) fl1 (iEn2 m) :=
  ⟨h.sub, _, pi_enum2 hg hm (pa_cons h.run pa_nil (na _ _)) (na _ _), fun σ H R ⟨ε, O, ds, ε', r, em, k⟩ => by
    simp only [iEn2, Option.bind_eq_some_iff] at em
    obtain ⟨⟨d, ε1⟩, e1, ds', em, em2⟩ := em
    cases em2
    refine ⟨ε, O, d, ε1, r, h.isv.val e1, fun v H1 O1 r1 s1 w => ?_⟩
    cases d with
    | lst ds2 =>
      cases em
      simp only [Rep] at w
      obtain ⟨a, vs, e, n, q, ws⟩ := w
      exact .inl ⟨a, vs, by rw [e], .of q, k _ H1 O1 r1 s1 (walks_enum r1 (.inl ⟨n, .inl q⟩) ws)⟩
    | fz ds2 =>
      cases em
      simp only [Rep] at w
      obtain ⟨a, vs, e, q, ws⟩ := w
      exact .inl ⟨a, vs, by rw [e], q.seq, k _ H1 O1 r1 s1 (walks_enum r1 q ws)⟩
    | str x =>
      cases em
      simp only [Rep] at w
      obtain ⟨e, ok⟩ := w
      exact .inr ⟨_, by rw [e], k _ H1 O1 r1 s1 (walks_enumS ok)⟩
    | _ => cases em⟩
theorem xp_iEn2 {ε : Slots} {QL : List D → Slots → Prop} : wpI (iEn2 m) ε QL ↔ wpM m ε fun o ε1 => exO (o.get ε1) fun d => exO (dEnum d) fun ds => QL ds ε1 := by
  rw [← xp_wpV (R := fun d ε1 => exO (dEnum d) fun ds => QL ds ε1), ← wpV_val]
  unfold wpI
  constructor
  · rintro ⟨ds, ε', e, q⟩
    simp only [iEn2, Option.bind_eq_some_iff] at e
    obtain ⟨⟨d, ε1⟩, e1, ds', e, e3⟩ := e
    cases e3
    exact ⟨d, ε1, e1, ds, e, q⟩
  · rintro ⟨d, ε1, e1, ds, e, q⟩
    exact ⟨ds, ε1, by simp only [iEn2, e1, e, Option.bind_some], q⟩
theorem enum_l {xs : List D} : dEnum (.lst xs) = some (enumL 0 xs) := rfl
theorem enum_s {x : List Nat} : dEnum (.str x) = some (enumL 0 (x.map fun c => .str [c])) := rfl
theorem cr_listS (hc : X.calm = true) : CallR X (.type "list") (fun xs H Q => ∃ z, xs = [.str z] ∧ z.length ≤ sizeLine ∧ ∀ l, H l = none → Q (.ref l) (upd H l (.lst (z.cps.toList.map fun c => V.str ⟨#[c]⟩)))) := by
  intro pins s σ H xs us Q I r h
  obtain ⟨z, rfl, hz, q⟩ := h
  obtain ⟨u, rfl, t, rfl⟩ := vals1 r
  refine call_list_str (I.ok.hd hc) z t (fun h' tk acc' c' kp e hi => ?_) hz
  obtain ⟨h1, h2⟩ := hi
  have hl : (z.cps.toList.map fun c => V.str ⟨#[c]⟩).length = z.cps.size := by simp
  have hv : Vals (z.cps.toList.map fun c => V.str ⟨#[c]⟩) acc'.toList := vals_of_idx _ _ (by simp [h1]) fun j u hj => by
    obtain ⟨c, t, hc, rfl⟩ := h2 j u (by simpa using hj)
    exact ⟨.str ⟨#[c]⟩, by rw [List.getElem?_map]; simp [hc], ⟨t, rfl⟩⟩
  exact ⟨.ref s.heap.objs.size, _, I.laid (t' := tk) kp (Nat.le_refl _) (show ObjOk X.prog X.w _ h' _ (.lst _) from ⟨by rw [hl]; exact hz, acc'.toList, c', hv, by simpa using e⟩), rfl, q _ (I.hok.fresh (Nat.le_refl _))⟩
def dListA (d : D) : Option D := match d with
  | .str x => if lenOk x.length = true then some (.lst (x.map fun c => .str [c])) else none
  | _ => dList d
theorem reps_signs {H : Hp} {O : Addr → Prop} : ∀ {x : List Nat}, strOkL x = true → Reps KF H O (x.map fun c => V.str ⟨#[c]⟩) (x.map fun c => D.str [c])
  | [], _ => by simp [Reps]
  | c :: x, ok => by
    simp only [strOkL, List.all_cons, Bool.and_eq_true] at ok
    simp only [List.map_cons, Reps, Rep]
    refine ⟨⟨trivial, ?_⟩, reps_signs (by simp only [strOkL]; exact ok.2)⟩
    simp only [strOkL, List.all_cons, List.all_nil, Bool.and_true]
    exact ok.1
theorem pfd_listA {a : Expr} {p : Pos} {ma : M} (ha : POD X fl a fl1 ma) (hm : X.mg "list" = none) (hc : X.calm = true := by rfl) (hg : Gl X "list" := by rfl) (na : NoStar a := by intro _ _; rfl) : PFD X fl (.Call (.Name "list" p) [a] [] pos) fl1 (e1 dListA ma) :=
  pfd_t1 (CallR.or call_list_of (cr_listS hc)) boot_list (fun v d z H O Q dm hv ef k => by
    cases d <;> simp only [dListA, dList] at ef <;> try (cases ef; done)
    · split at ef
      · rename_i x hl
        cases ef
        obtain ⟨h1, h2⟩ := repR_str hv
        subst h1
        refine .inr ⟨_, rfl, ?_, fun n hn => k n _ hn (same_upd hn) (top_lst hn (reps_signs h2))⟩
        exact lenOk_of hl
      · cases ef
    · cases ef
      obtain ⟨p, vs, e1, q, w⟩ := repR_lst hv
      subst e1
      exact .inl ⟨_, _, rfl, .inl (.of q), fun n hn => k n _ hn (same_upd hn) (top_lst hn w)⟩
    · cases ef
      obtain ⟨p, vs, e1, q, w⟩ := repR_tup hv
      subst e1
      exact .inl ⟨_, _, rfl, .inr q, fun n hn => k n _ hn (same_upd hn) (top_lst hn w)⟩
    · cases ef
      obtain ⟨p, vs, e1, q, w⟩ := repR_fz hv
      subst e1
      exact .inl ⟨_, _, rfl, .inl q, fun n hn => k n _ hn (same_upd hn) (top_lst hn w)⟩) ha hm hg na (by decide) (by decide)
theorem listA_l {xs : List D} : dListA (.lst xs) = some (.lst xs) := rfl
theorem listA_f {xs : List D} : dListA (.fz xs) = some (.lst xs) := rfl
theorem listA_t {xs : List D} : dListA (.tup xs) = some (.lst xs) := rfl
theorem listA_s {x : List Nat} (h : x.length ≤ 16777216) : dListA (.str x) = some (.lst (x.map fun c => .str [c])) := by simp [dListA, lenOk, h]
def dNotT (d : D) : Option D := (truth d).bind fun b => some (.bl (!b))
theorem ped_notT {a : Expr} {ma : M} (h : PED X fl a fl1 ma) : PED X fl (.UnaryOp .Not a pos) fl1 (e1 dNotT ma) := ⟨isv_e1, h.sub, (pe_notT h.run).imp fun σ H Q ⟨ε, O, d, ε', r, em, k⟩ => by
  simp only [e1, Option.bind_eq_some_iff] at em
  obtain ⟨⟨o, ε1⟩, e1, x, g, z, ef, em⟩ := em
  cases em
  obtain ⟨y, rfl⟩ := h.isv _ _ _ e1
  cases g
  simp only [dNotT, Option.bind_eq_some_iff] at ef
  obtain ⟨b, eb, ef⟩ := ef
  cases ef
  exact ⟨ε, O, _, _, r, e1, fun v H1 O1 r1 s1 w => ⟨b, truth_ok w eb, k _ H1 O1 r1 s1 rep_bl⟩⟩⟩
theorem notT_b {b : Bool} : dNotT (.bl b) = some (.bl (!b)) := rfl
theorem truth_okR {v : V} {d : D} {k : Bool} (h : RepR KF H O v d) (e : truth d = some k) : TruV KF v H k := by
  rcases h with h | ⟨a, rfl, _, t⟩
  · exact truth_ok h e
  · cases d with
    | lst ds =>
      obtain ⟨vs, q, w⟩ := t
      cases e
      refine .inl ⟨vs, .of q, ?_⟩
      have := w.length
      cases vs <;> cases ds <;> simp_all
    | dic _ _ _ => cases e
    | _ => exact t.elim
/-- a test by a thing that one alone holds -/
theorem ptd_truO (h : POD X fl e fl1 m) (he : ∀ whole, isTrue e X.env whole = (do let v ← whole; standAt e.pos; holding [v] (truthy v)) := by intro _; rfl) : PTD X fl e fl1 (tTru m) := ⟨h.sub, (pt_truth h.run he).imp fun σ H Q ⟨ε, O, b, ε', r, em, k⟩ => by
  simp only [tTru, val, Option.bind_eq_some_iff] at em
  obtain ⟨⟨d, ε1⟩, ⟨⟨o, ε2⟩, e1, d', g, e3⟩, b', e2, em⟩ := em
  cases em
  cases e3
  exact ⟨ε, O, o, _, r, e1, fun v H' O' r' s' w => ⟨_, truth_okR (w.read r' g) e2, k H' O' r' s'⟩⟩⟩
end
end L2.VS

/-! xs.insert(k, y) of an owned list -/
namespace L2.VS
open PySem PySem.Spec PyProof.Rows
section
variable {KF : PySem.W.Frag} {H H' : Hp} {O : Addr → Prop} {fl fl' fl1 fl2 fl3 : List Fl} {σ : St} {ε : Slots} {X : Cx} {e a b c : Expr} {es : List Expr} {m ma mb mc : M} {ms : List M} {t ta tb : T} {pos p apos : Pos} {ownp : List Nat} {sg : Sg} {x : Str}
def eMut2 (i : Nat) (f : List D → D → D → Option (List D × D)) (a b : M) : M := fun ε => (lookL ε i).bind fun _ => (val a ε).bind fun p => (val b p.2).bind fun p2 => (lookL p2.2 i).bind fun xs => (f xs p.1 p2.1).bind fun q => some (.val q.2, put p2.2 i (.lst q.1))
theorem isv_mut2 {i : Nat} {f : List D → D → D → Option (List D × D)} : IsV (eMut2 i f ma mb) := fun ε o ε' h => by
  simp only [eMut2, Option.bind_eq_some_iff] at h
  obtain ⟨_, _, _, _, _, _, _, _, _, _, h⟩ := h
  cases h; exact ⟨_, rfl⟩
theorem mut2_imp {r : V → List V → Hp → VK → Prop} {i : Nat} {f : List D → D → D → Option (List D × D)}
    (hr : ∀ A vs v w xs d e ys z H O Q, H A = some (.lst vs) → Reps X.K H O vs xs → Rep X.K H O v d → Rep X.K H O w e → f xs d e = some (ys, z) → (∀ us u, Reps X.K H O us ys → Rep X.K H O u z → Q u (upd H A (.lst us))) → r (.ref A) [v, w] H Q)
    (ha : PED X fl a fl1 ma) (hb : PED X fl1 b fl2 mb) (hi : fl2[i]? = some .ow) (hi0 : fl[i]? = some .ow) {σ : St} {H : Hp} {Q : VK} (h : tD X.K fl fl2 (eMut2 i f ma mb) σ H Q) : tBM X.K "list" r (tVar i) (tCons (tD X.K fl fl1 ma) (tCons (tD X.K fl1 fl2 mb) tNil)) σ H Q := by
  obtain ⟨ε, O, d, ε', r0, em, k⟩ := h
  simp only [eMut2, Option.bind_eq_some_iff] at em
  obtain ⟨xs0, h0, ⟨y, ε1⟩, e1, ⟨y2, ε2⟩, e2, xs, hl, ⟨ys, z⟩, ef, em⟩ := em
  cases em
  obtain ⟨A0, vs0, hA0, hH0, w0⟩ := look_lst r0 hi0 h0
  refine ⟨.ref A0, hA0, .inl ⟨rfl, vs0, .of hH0⟩, ε, O, y, ε1, r0, ha.isv.val e1, fun v H1 O1 r1 s1 w1 => ?_⟩
  refine ⟨ε1, O1, y2, ε2, r1, hb.isv.val e2, fun v2 H2 O2 r2 s2 w2 => ?_⟩
  obtain ⟨A, vs, hA, hH, w⟩ := look_lst r2 hi hl
  rw [hA0] at hA; cases hA
  refine hr A0 vs v v2 xs y y2 ys _ H2 O2 Q hH w (w1.stay (s2.stay r1)) w2 ef fun us u wz wu => ?_
  obtain ⟨r3, s3, st3⟩ := r2.relay (vs := vs) hi hA0 wz
  exact k u _ O2 r3 ((s1.trans s2 ha.sub).trans s3 (ha.sub.trans hb.sub)) (wu.stay st3)
def fIns (xs : List D) (d e : D) : Option (List D × D) := match d with
  | .int i => if (decide (xs.length < 16777216) && decide (0 ≤ i) && decide (i < 9223372036854775808)) = true then some (xs.take i.toNat ++ [e] ++ xs.drop i.toNat, .non) else none
  | _ => none
theorem ped_insert (i : Nat) (ha : PED X fl a fl1 ma) (hb : PED X fl1 b fl2 mb) (hi : fl2[i]? = some .ow := by rfl) (hi0 : fl[i]? = some .ow := by rfl) (hN : X.N[i]? = some x := by rfl) (hv : Vis X.env.scope x := by first | exact Or.inl rfl | exact Or.inr (Or.inl rfl) | exact Or.inr (Or.inr rfl)) (hd : (x == ("__debug__" : Str)) = false := by decide)
    (hcd : (x == ("__classdict__" : Str)) = false := by decide) (na : NoStar a := by intro _ _; rfl) (nb : NoStar b := by intro _ _; rfl) (hbase : attributeBase (.Name x pos) "insert" X.env (eval (.Name x pos) X.env) = eval (.Name x pos) X.env := by rfl) (hline : (apos.endLine == p.line) = true := by rfl)
    (hfew : ((backTo p (starEach [a, b] X.env)).all (fun x => !x.1) && (backToKw p (keywordEach [] X.env)).all (fun x => x.1.isSome) && decide (([a, b] : List Expr).length + ([] : List Keyword).length + (if ([] : List Keyword).isEmpty then 0 else 1) < 30)) = true := by rfl)
    (hplain : (backTo p (starEach [b] X.env)).any (·.1) = false := by rfl) :
    PED X fl (.Call (.Attribute (.Name x pos) "insert" apos) [a, b] [] p) fl2 (eMut2 i fIns ma mb) :=
  ⟨isv_mut2, ha.sub.trans hb.sub, (pe_bm PySem.F.plainAttrs_list PySem.F.slot_list_insert PySem.F.type_list_insert mt_insert (pv i hN hv hd hcd) (pa_cons ha.run (pa_cons hb.run pa_nil (nb _ _)) (na _ _)) hbase hfew hline (na _ _) hplain).imp fun σ H Q h =>
    mut2_imp (fun A vs v w xs d e ys z H O Q hH wx wv ww ef k => by
      cases d <;> simp only [fIns] at ef <;> try (cases ef; done)
      split at ef
      · rename_i n hl
        cases ef
        simp only [Bool.and_eq_true, decide_eq_true_eq] at hl
        simp only [Rep] at wv
        subst wv
        refine ⟨A, vs, n, w, rfl, rfl, hH, ?_, by omega, by omega, k _ _ (((wx.take _).append (by simp only [Reps]; exact ⟨ww, trivial⟩)).append (wx.drop _)) rep_non⟩
        rw [wx.length, sizeLine_eq]; omega
      · cases ef) ha hb hi hi0 h⟩
theorem xp_mut2 {f : List D → D → D → Option (List D × D)} {i : Nat} {Q : Opd → Slots → Prop} : wpM (eMut2 i f ma mb) ε Q ↔ exO (lookL ε i) fun _ => wpM ma ε fun o ε1 => exO (o.get ε1) fun d => wpM mb ε1 fun o2 ε2 => exO (o2.get ε2) fun d2 => exO (lookL ε2 i) fun xs => exO (f xs d d2) fun r => Q (.val r.2) (put ε2 i (.lst r.1)) := by
  constructor
  · rintro ⟨o, ε', e, q⟩
    simp only [eMut2, Option.bind_eq_some_iff] at e
    obtain ⟨xs0, h0, ⟨y, ε1⟩, e1, ⟨y2, ε2⟩, e2, xs, hl, r, ef, em⟩ := e
    cases em
    refine ⟨xs0, h0, ?_⟩
    rw [← xp_wpV (R := fun d ε1 => wpM mb ε1 fun o2 ε2 => exO (o2.get ε2) fun d2 => exO (lookL ε2 i) fun xs => exO (f xs d d2) fun r => Q (.val r.2) (put ε2 i (.lst r.1))), ← wpV_val]
    refine ⟨y, ε1, e1, ?_⟩
    rw [← xp_wpV (R := fun d2 ε2 => exO (lookL ε2 i) fun xs => exO (f xs y d2) fun r => Q (.val r.2) (put ε2 i (.lst r.1))), ← wpV_val]
    exact ⟨y2, ε2, e2, xs, hl, r, ef, q⟩
  · rintro ⟨xs0, h0, q⟩
    rw [← xp_wpV (R := fun d ε1 => wpM mb ε1 fun o2 ε2 => exO (o2.get ε2) fun d2 => exO (lookL ε2 i) fun xs => exO (f xs d d2) fun r => Q (.val r.2) (put ε2 i (.lst r.1))), ← wpV_val] at q
    obtain ⟨y, ε1, e1, q⟩ := q
    rw [← xp_wpV (R := fun d2 ε2 => exO (lookL ε2 i) fun xs => exO (f xs y d2) fun r => Q (.val r.2) (put ε2 i (.lst r.1))), ← wpV_val] at q
    obtain ⟨y2, ε2, e2, xs, hl, r, ef, q⟩ := q
    exact ⟨_, _, by simp only [eMut2, h0, e1, e2, hl, ef, Option.bind_some], q⟩
theorem ins_i {xs : List D} {k : Nat} {d : D} (h : xs.length < 16777216) (hk : k ≤ xs.length) : fIns xs (.int k) d = some (xs.take k ++ [d] ++ xs.drop k, .non) := by
  simp only [fIns]
  rw [if_pos (by simp; omega)]
  simp
end
end L2.VS
namespace L2.VS
open PySem PySem.Spec PyProof.Rows
/-! an owned list that is walked within one expression: lent, then owned again -/
section
variable {KF : PySem.W.Frag} {H H' : Hp} {O O' : Addr → Prop} {fl fl' fl1 fl2 fl3 : List Fl} {σ : St} {ε ε' : Slots} {X : Cx} {e a b c tg : Expr} {m ma mb mc : M} {pos p apos : Pos} {x : Str}
theorem set_le {i j : Nat} {y : Fl} (h : (fl.set i .le)[j]? = some y) : (j = i ∧ y = .le) ∨ (j ≠ i ∧ fl[j]? = some y) := set_at h
theorem hit_le {i : Nat} {b : Addr} (h : Hit (fl.set i .le) σ b) : Hit fl σ b := by
  obtain ⟨j, h1, h2⟩ := h
  rcases set_le h1 with ⟨_, z⟩ | ⟨_, z⟩
  · cases z
  · exact ⟨j, z, h2⟩
theorem hit_ow {i : Nat} {b : Addr} (h : Hit (fl.set i .ow) σ b) : Hit fl σ b ∨ σ[i]? = some (some (.ref b)) := by
  obtain ⟨j, h1, h2⟩ := h
  rcases set_at h1 with ⟨z, _⟩ | ⟨_, z⟩
  · subst z; exact .inr h2
  · exact .inl ⟨j, z, h2⟩
theorem Rel.lend {i : Nat} (r : Rel KF fl O σ H ε) (hi : fl[i]? = some .ow) : Rel KF (fl.set i .le) O σ H ε := by
  refine ⟨r.len, by rw [List.length_set]; exact r.flen, r.dom, fun j d h => ?_, fun j h => ?_, fun j h => ?_, fun j d h => ?_, fun j k a hjk h1 h2 => ?_⟩
  · rcases set_le h with ⟨_, z⟩ | ⟨_, z⟩
    · cases z
    · exact r.sh j d z
  · rcases set_le h with ⟨_, z⟩ | ⟨_, z⟩
    · cases z
    · exact r.ow j z
  · rcases set_le h with ⟨e, _⟩ | ⟨_, z⟩
    · subst e
      obtain ⟨a, d, h1, h2, o, t⟩ := r.ow j hi
      refine ⟨a, d, h1, h2, o, t, fun ⟨k, q1, q2⟩ => ?_⟩
      rcases set_le q1 with ⟨_, z⟩ | ⟨n, z⟩
      · cases z
      · exact r.ap k j a n z hi q2 h2
    · obtain ⟨a, d, h1, h2, o, t, n⟩ := r.le j z
      exact ⟨a, d, h1, h2, o, t, fun q => n (hit_le q)⟩
  · rcases set_le h with ⟨_, z⟩ | ⟨_, z⟩
    · cases z
    · intro q
      obtain ⟨v, h1, h2⟩ := r.ro j d z q
      refine ⟨v, h1, h2.imp id fun ⟨a, e, o, t, n⟩ => ⟨a, e, o, t, fun q => n (hit_le q)⟩⟩
  · rcases set_le h1 with ⟨_, z⟩ | ⟨_, z⟩
    · cases z
    · rcases set_le h2 with ⟨_, z2⟩ | ⟨_, z2⟩
      · cases z2
      · exact r.ap j k a hjk z z2
theorem Rel.unlend {i : Nat} {O0 : Addr → Prop} {H0 : Hp} {ε0 : Slots} (r0 : Rel KF fl O0 σ H0 ε0) (hi0 : fl[i]? = some .ow) (sb : Subf (fl.set i .le) fl1) (r : Rel KF fl1 O σ H ε) (hi : fl1[i]? = some .le) (nr : fl1.all (fun f => decide (f ≠ .ro)) = true) : Rel KF (fl1.set i .ow) O σ H ε := by
  obtain ⟨A, dA, hA1, hA2, oA, tA, nA⟩ := r.le i hi
  refine ⟨r.len, by rw [List.length_set]; exact r.flen, r.dom, fun j d h => ?_, fun j h => ?_, fun j h => ?_, fun j d h => ?_, fun j k a hjk h1 h2 => ?_⟩
  · rcases set_at h with ⟨_, z⟩ | ⟨_, z⟩
    · cases z
    · exact r.sh j d z
  · rcases set_at h with ⟨e, _⟩ | ⟨_, z⟩
    · subst e; exact ⟨A, dA, hA1, hA2, oA, tA⟩
    · exact r.ow j z
  · rcases set_at h with ⟨_, z⟩ | ⟨hj, z⟩
    · cases z
    · obtain ⟨a, d, h1, h2, o, t, n⟩ := r.le j z
      refine ⟨a, d, h1, h2, o, t, fun q => ?_⟩
      rcases hit_ow q with q | q
      · exact n q
      · have z0 := (sb j).2.1 z
        rcases set_le z0 with ⟨e, _⟩ | ⟨_, z1⟩
        · exact hj e
        · obtain ⟨a', d', g1, g2, o', t', n'⟩ := r0.le j z1
          rw [h2] at g2; cases g2
          exact n' ⟨i, hi0, q⟩
  · rcases set_at h with ⟨_, z⟩ | ⟨_, z⟩
    · cases z
    · have := List.all_eq_true.mp nr _ (List.mem_of_getElem? z)
      simp at this
  · rcases set_at h1 with ⟨e1, _⟩ | ⟨n1, z⟩
    · subst e1
      rcases set_at h2 with ⟨e2, _⟩ | ⟨n2, z2⟩
      · exact absurd e2.symm hjk
      · intro q1 q2
        exact nA ⟨k, z2, by rw [q2, ← q1, hA2]⟩
    · rcases set_at h2 with ⟨e2, _⟩ | ⟨n2, z2⟩
      · subst e2
        intro q1 q2
        exact nA ⟨j, z, by rw [q1, ← q2, hA2]⟩
      · exact r.ap j k a hjk z z2
theorem Step.unlend {i : Nat} (s : Step (fl.set i .le) σ O H O' H') : Step fl σ O H O' H' := ⟨fun b o e n => s.keep b o e fun z => n (hit_le z), s.dom, s.new, fun b o n => s.old b o fun z => n (hit_le z)⟩
theorem sub_back {i : Nat} (hi0 : fl[i]? = some .ow) (sb : Subf (fl.set i .le) fl1) : Subf fl (fl1.set i .ow) := fun j => by
  refine ⟨fun h => ?_, fun h => ?_, fun h => ?_⟩
  · rcases set_at h with ⟨e, _⟩ | ⟨_, z⟩
    · subst e; exact hi0
    · rcases set_le ((sb j).1 z) with ⟨_, w⟩ | ⟨_, w⟩
      · cases w
      · exact w
  · rcases set_at h with ⟨_, z⟩ | ⟨n, z⟩
    · cases z
    · rcases set_le ((sb j).2.1 z) with ⟨e, _⟩ | ⟨_, w⟩
      · exact absurd e n
      · exact w
  · rcases set_at h with ⟨_, z⟩ | ⟨n, z⟩
    · cases z
    · rcases set_le ((sb j).2.2 z) with ⟨_, w⟩ | ⟨_, w⟩
      · cases w
      · exact w
theorem pfd_lend (i : Nat) (h : PFD X (fl.set i .le) e fl1 m) (hi0 : fl[i]? = some .ow := by rfl) (hi : fl1[i]? = some .le := by rfl) (nr : fl1.all (fun f => decide (f ≠ .ro)) = true := by rfl) : PFD X fl e (fl1.set i .ow) m :=
  ⟨h.isv, sub_back hi0 h.sub, h.run.imp fun σ H Q ⟨ε, O, d, ε', r, em, k⟩ => ⟨ε, O, d, ε', r.lend hi0, em, fun a H' O' r' s o t ap f => by
    obtain ⟨A, dA, hA1, hA2, oA, tA, nA⟩ := r'.le i hi
    have nai : σ[i]? ≠ some (some (.ref a)) := ap.le i hi
    exact k a H' O' (r.unlend hi0 h.sub r' hi nr) s.unlend o t ⟨fun z => by
      rcases hit_ow z with z | z
      · exact ap.ow z
      · exact nai z, fun j hj => by
        rcases set_at hj with ⟨_, z⟩ | ⟨_, z⟩
        · cases z
        · exact ap.le j z, fun j d hj => by
        rcases set_at hj with ⟨_, z⟩ | ⟨_, z⟩
        · cases z
        · have := List.all_eq_true.mp nr _ (List.mem_of_getElem? z)
          simp at this⟩ (f.imp id hit_le)⟩⟩
theorem ped_lend (i : Nat) (h : PED X (fl.set i .le) e fl1 m) (hi0 : fl[i]? = some .ow := by rfl) (hi : fl1[i]? = some .le := by rfl) (nr : fl1.all (fun f => decide (f ≠ .ro)) = true := by rfl) : PED X fl e (fl1.set i .ow) m :=
  ⟨h.isv, sub_back hi0 h.sub, h.run.imp fun σ H Q ⟨ε, O, d, ε', r, em, k⟩ => ⟨ε, O, d, ε', r.lend hi0, em, fun v H' O' r' s w => k v H' O' (r.unlend hi0 h.sub r' hi nr) s.unlend w⟩⟩
theorem walks_le {A : Addr} {vs : List V} {ds : List D} (r : Rel KF fl O σ H ε) (n : ¬ Hit fl σ A) (q : H A = some (.lst vs)) (w : Reps KF H O vs ds) : Walks KF fl σ (Itl KF A) ds H O := fun i H2 O2 kp dm => by
  have st := kp.stay r
  have q2 : SqL KF H2 A vs := .of (kp.keep _ _ q n)
  refine ⟨fun d hd => ?_, fun hi => ⟨vs, q2, by rw [w.length]; exact Nat.le_of_eq hi.symm⟩⟩
  obtain ⟨v, hv, rv⟩ := w.get hd
  refine ⟨⟨vs, v, q2, hv⟩, fun x H3 hy => ?_⟩
  obtain ⟨e, hx⟩ := hy
  subst e
  have := hx vs q2
  rw [hv] at this
  cases this
  exact ⟨Same.refl _, rv.stay st⟩
theorem pid_le (i : Nat) (hf : fl[i]? = some .le := by rfl) (hN : X.N[i]? = some x := by rfl) (hv : Vis X.env.scope x := by first | exact Or.inl rfl | exact Or.inr (Or.inl rfl) | exact Or.inr (Or.inr rfl)) (hd : (x == ("__debug__" : Str)) = false := by decide)
    (hcd : (x == ("__classdict__" : Str)) = false := by decide) : PID X fl tg (.Name x pos) fl (iA (eO i)) := ⟨Subf.refl, _, pi_any (pv i hN hv hd hcd), fun σ H R ⟨ε, O, ds, ε', r, em, k⟩ => by
  simp only [iA, val, eO, Option.bind_eq_some_iff] at em
  obtain ⟨⟨d, ε1⟩, ⟨⟨o, ε2⟩, e0, d', eg, e1⟩, ds', e2, em⟩ := em
  cases e0; cases e1; cases em
  obtain ⟨A, d2, h1, h2, o, t, n⟩ := r.le i hf
  have e3 : d2 = d := by
    have : look ε i = some d := eg
    rw [look_iff] at this
    rw [this] at h1; cases h1; rfl
  subst e3
  refine ⟨.ref A, h2, ?_⟩
  cases d2 with
  | lst xs =>
    cases e2
    obtain ⟨vs, q, w⟩ := t
    exact .inl ⟨A, rfl, ⟨vs, .of q⟩, k _ H O r Step.refl (walks_le r n q w)⟩
  | dic t ks ds => cases e2
  | _ => exact t.elim⟩
end
end L2.VS

/-! dicts whose keys are ints or strs: {}, d[k] = v, k in d, d[k] -/
namespace L2.VS
open PySem PySem.Spec PyProof.Rows
def kOf : D → Option DKey
  | .int n => some (.k (.i n))
  | .str x => some (.k (.s x))
  | _ => none
def dkGet (ks : List DKey) (ds : List D) (k : DKey) : Option D := ((ks.zip ds).find? fun p => decide (p.1 = k)).map (·.2)
def dkPut (ks : List DKey) (ds : List D) (k : DKey) (d : D) : List DKey × List D :=
  if k ∈ ks then (ks, (ks.zip ds).map fun p => if p.1 = k then d else p.2) else (ks ++ [k], ds ++ [d])
def dInD (x y : D) : Option D := match y with
  | .dic false ks ds => (kOf x).bind fun k => some (.bl (dkGet ks ds k).isSome)
  | _ => none
def dNotInD (x y : D) : Option D := match y with
  | .dic false ks ds => (kOf x).bind fun k => some (.bl (!(dkGet ks ds k).isSome))
  | _ => none
def dGetD (y x : D) : Option D := match y with
  | .dic false ks ds => (kOf x).bind fun k => dkGet ks ds k
  | _ => none
def keyF (z : DKey) : Key := match z with
  | .k a => a.key
  | .t _ => .inl 0
theorem k0_inj {a b : K0} (h : a.key = b.key) : a = b := by
  cases a <;> cases b <;> simp_all [K0.key]
section
variable {KF : PySem.W.Frag} {H H' : Hp} {O O' : Addr → Prop} {fl fl' fl1 fl2 fl3 : List Fl} {σ : St} {ε ε' : Slots} {X : Cx} {e a b c tg : Expr} {m ma mb mc : M} {pos p apos : Pos} {x : Str} {sg : Sg}
def isK (ks : List DKey) : Prop := ∀ z ∈ ks, ∃ a, z = .k a
theorem dicO_k {ks : List DKey} {vs : List V} {o : HO} (h : dicO false ks vs = some o) : o = .dK ((ks.map keyF).zip vs) ∧ isK ks ∧ ∀ a, .k a ∈ ks → a.ok = true := by
  simp only [dicO] at h
  split at h
  · rename_i hk
    cases h
    have hk' := List.all_eq_true.mp hk
    refine ⟨rfl, fun z hz => ?_, fun a ha => hk' _ ha⟩
    have := hk' z hz
    cases z with
    | k a => exact ⟨a, rfl⟩
    | t as => cases this
  · cases h
theorem dicO_mk {ks : List DKey} {vs : List V} (h : isK ks) (h2 : ∀ a, .k a ∈ ks → a.ok = true) : dicO false ks vs = some (.dK ((ks.map keyF).zip vs)) := by
  simp only [dicO]
  rw [if_pos]
  · rfl
  · rw [List.all_eq_true]
    intro z hz
    obtain ⟨a, rfl⟩ := h z hz
    exact h2 a hz
theorem keyF_eq {z : DKey} {b : K0} (h : ∃ a, z = .k a) : keyF z = b.key ↔ z = .k b := by
  obtain ⟨a, rfl⟩ := h
  exact ⟨fun q => by rw [k0_inj q], fun q => by cases q; rfl⟩
theorem dk_val : ∀ {ks : List DKey} {vs : List V} {ds : List D}, isK ks → ks.length = vs.length → Reps KF H O vs ds → ∀ b : K0,
    (∀ d, dkGet ks ds (.k b) = some d → ∃ v, valV ((ks.map keyF).zip vs) b.key = some v ∧ Rep KF H O v d) ∧ (dkGet ks ds (.k b) = none → valV ((ks.map keyF).zip vs) b.key = none)
  | [], vs, ds, _, _, _, b => ⟨fun d h => by simp [dkGet] at h, fun _ => by simp [valV]⟩
  | k :: ks, [], ds, _, hl, _, b => by simp at hl
  | k :: ks, v :: vs, [], _, hl, w, b => by simp [Reps] at w
  | k :: ks, v :: vs, d :: ds, hk, hl, w, b => by
    simp only [Reps] at w
    have ih := dk_val (ks := ks) (fun z hz => hk z (List.mem_cons_of_mem _ hz)) (by simpa using hl) w.2 b
    have hk0 := keyF_eq (b := b) (hk k (List.mem_cons_self ..))
    by_cases e : k = .k b
    · have e1 : dkGet (k :: ks) (d :: ds) (.k b) = some d := by simp [dkGet, e]
      have e2 : valV (((k :: ks).map keyF).zip (v :: vs)) b.key = some v := by
        rw [List.map_cons, List.zip_cons_cons]
        exact valV_pos (hk0.mpr e)
      rw [e1, e2]
      exact ⟨fun d' h => by cases h; exact ⟨v, rfl, w.1⟩, fun h => by cases h⟩
    · have e1 : dkGet (k :: ks) (d :: ds) (.k b) = dkGet ks ds (.k b) := by simp [dkGet, e]
      have e2 : valV (((k :: ks).map keyF).zip (v :: vs)) b.key = valV ((ks.map keyF).zip vs) b.key := by
        rw [List.map_cons, List.zip_cons_cons]
        exact valV_neg fun q => e (hk0.mp q)
      rw [e1, e2]
      exact ih
theorem dk_some {ks : List DKey} {vs : List V} {ds : List D} (hk : isK ks) (hl : ks.length = vs.length) (w : Reps KF H O vs ds) (b : K0) : (valV ((ks.map keyF).zip vs) b.key).isSome = (dkGet ks ds (.k b)).isSome := by
  obtain ⟨h1, h2⟩ := dk_val hk hl w b
  cases e : dkGet ks ds (.k b) with
  | none => rw [h2 e]; rfl
  | some d => obtain ⟨v, e2, _⟩ := h1 d e; rw [e2]; rfl
theorem kOf_rep {d : D} {k : DKey} {v : V} (h : RepR KF H O v d) (e : kOf d = some k) : ∃ b : K0, k = .k b ∧ v = kV b.key ∧ b.ok = true := by
  cases d <;> simp only [kOf] at e <;> try (cases e; done)
  · cases e; exact ⟨_, rfl, repR_int h, rfl⟩
  · cases e
    obtain ⟨e1, ok⟩ := repR_str h
    exact ⟨_, rfl, e1, ok⟩
theorem op_dIn (hu : X.A.units + 1 < cLine) : OpR X (compareOp .In) (fun y x H Q => ∃ a o, x = .ref a ∧ DGet H a y o ∧ Q (.bl o.isSome) H) := fun pins s σ H y x u v Q I ry rx ⟨a, o, ex, g, q⟩ => by
  subst ex
  obtain rfl : v = Value.ref a := rx
  exact d_in hu I g ry fun s3 I3 => ⟨.bl o.isSome, H, I3, rfl, q⟩
theorem op_dNotIn (hu : X.A.units + 1 < cLine) : OpR X (compareOp .NotIn) (fun y x H Q => ∃ a o, x = .ref a ∧ DGet H a y o ∧ Q (.bl (!o.isSome)) H) := fun pins s σ H y x u v Q I ry rx ⟨a, o, ex, g, q⟩ => by
  subst ex
  obtain rfl : v = Value.ref a := rx
  exact d_notIn hu I g ry fun s3 I3 => ⟨.bl (!o.isSome), H, I3, rfl, q⟩
theorem dget_of {ks : List DKey} {ds : List D} {u : V} {k : DKey} {d : D} {v : V} (hu : RepR KF H O u (.dic false ks ds)) (hv : RepR KF H O v d) (hk : kOf d = some k) :
    ∃ a o, u = .ref a ∧ DGet H a v o ∧ o.isSome = (dkGet ks ds k).isSome ∧ ∀ z, dkGet ks ds k = some z → ∃ w, o = some w ∧ Rep KF H O w z := by
  obtain ⟨a, vs, o, e1, eo, q, l, w⟩ := repR_dic hu
  obtain ⟨b, rfl, rfl, ok⟩ := kOf_rep hv hk
  obtain ⟨rfl, hK, _⟩ := dicO_k eo
  refine ⟨a, _, e1, .inl ⟨_, _, q, rfl, rfl⟩, dk_some hK l w b, fun z hz => ?_⟩
  exact (dk_val hK l w b).1 z hz
theorem cmp_inK (hu : X.A.units + 65 < cLine) : CmpD X .In dInD := ⟨_, op_dIn (by omega), fun v u d e z H O Q dm hv hu ef => by
  cases e <;> simp only [dInD] at ef <;> try (cases ef; done)
  rename_i t ks ds
  cases t <;> simp only [Option.bind_eq_some_iff] at ef <;> try (cases ef; done)
  obtain ⟨k, hk, ef⟩ := ef
  cases ef
  obtain ⟨a, o, e1, g, hs, _⟩ := dget_of hu hv hk
  exact ⟨⟨_, rfl⟩, fun kq => ⟨a, o, e1, g, kq _ H (Same.refl H) (by rw [hs]; exact rep_bl)⟩⟩⟩
theorem cmp_notInK (hu : X.A.units + 65 < cLine) : CmpD X .NotIn dNotInD := ⟨_, op_dNotIn (by omega), fun v u d e z H O Q dm hv hu ef => by
  cases e <;> simp only [dNotInD] at ef <;> try (cases ef; done)
  rename_i t ks ds
  cases t <;> simp only [Option.bind_eq_some_iff] at ef <;> try (cases ef; done)
  obtain ⟨k, hk, ef⟩ := ef
  cases ef
  obtain ⟨a, o, e1, g, hs, _⟩ := dget_of hu hv hk
  exact ⟨⟨_, rfl⟩, fun kq => ⟨a, o, e1, g, kq _ H (Same.refl H) (by rw [hs]; exact rep_bl)⟩⟩⟩
theorem ped_getD (hu : X.A.units + 65 < cLine) (ha : POD X fl a fl1 ma) (hb : POD X fl1 b fl2 mb) (hs : NoSl b := by intro _ _; rfl) : PED X fl (.Subscript a b pos) fl2 (e2 dGetD ma mb) :=
  ⟨isv_e2, ha.sub.trans hb.sub, (pe_dget (by omega) ha.run hb.run hs).imp fun σ H Q h => bin_imp (r := fun x y H Q => ∃ a v, x = .ref a ∧ DGet H a y (some v) ∧ Q v H) ha.sub hb.sub (fun v u d e z H O Q dm hv hu ef k => by
    cases d <;> simp only [dGetD] at ef <;> try (cases ef; done)
    rename_i t ks ds
    cases t <;> simp only [Option.bind_eq_some_iff] at ef <;> try (cases ef; done)
    obtain ⟨kk, hk, ef⟩ := ef
    obtain ⟨a, o, e1, g, hs, hz⟩ := dget_of hv hu hk
    obtain ⟨w, rfl, rw⟩ := hz z ef
    exact ⟨a, w, e1, g, k _ H (Same.refl H) rw⟩) h⟩
/-- {} -/
def eDic0 : M := fun ε => some (.val (.dic false [] []), ε)
theorem isv_dic0 : IsV eDic0 := fun ε o ε' h => by cases h; exact ⟨_, rfl⟩
theorem pfd_dic0 : PFD X fl (.Dict [] [] pos) fl eDic0 := ⟨isv_dic0, Subf.refl, pe_dnewK.imp fun σ H Q ⟨ε, O, d, ε', r, em, k⟩ => by
  cases em
  refine fun p hp => ?_
  refine k p _ _ (r.own_same (same_upd hp) hp (by rw [upd_same]; intro z; cases z)) (Step.own_same (fl := fl) (same_upd hp) hp) (.inr rfl) ⟨[], .dK [], rfl, upd_same, rfl, by simp [Reps]⟩ (Apart.new r (same_upd hp) hp) (.inl hp)⟩
/-- the owned thing at slot i gets another content -/
theorem Rel.relayO {i : Nat} {A : Addr} {d : D} {ob : HO} (r : Rel KF fl O σ H ε) (hi : fl[i]? = some .ow) (hA : σ[i]? = some (some (.ref A))) (w : Top KF (upd H A ob) O A d) :
    Rel KF fl O σ (upd H A ob) (put ε i d) ∧ Step fl σ O H O (upd H A ob) ∧ Stay H O (upd H A ob) O := by
  obtain ⟨a, d, _, e2, oA, t⟩ := r.ow i hi
  rw [hA] at e2; cases e2
  have st : Stay H O (upd H A ob) O := ⟨fun b u e n => by rw [upd_ne (fun z => n (by rw [z]; exact oA))]; exact e, fun b h => .inl h⟩
  refine ⟨r.called hi hA (fun b o e n => by rw [upd_ne n]; exact e) (fun b h => .inl h) (fun b h _ => h) (fun b h z => ?_) oA w, ⟨fun b o e n => ?_, fun b e => ?_, fun b h => .inl h, fun b h _ => h⟩, st⟩
  · by_cases hb : b = A
    · rw [hb, upd_same] at z; cases z
    · rw [upd_ne hb] at z; exact r.dom b h z
  · rw [upd_ne (fun z => n ⟨i, hi, by rw [z]; exact hA⟩)]; exact e
  · by_cases hb : b = A
    · rw [hb, upd_same] at e; cases e
    · rw [upd_ne hb] at e; exact e
def lookD (ε : Slots) (i : Nat) : Option (List DKey × List D) := match look ε i with
  | some (.dic false ks ds) => some (ks, ds)
  | _ => none
theorem lookD_iff {i : Nat} {q : List DKey × List D} (h : lookD ε i = some q) : look ε i = some (.dic false q.1 q.2) := by
  unfold lookD at h
  split at h
  · rename_i ks ds e
    cases h
    exact e
  · cases h
theorem reps_len : ∀ {vs : List V} {ds : List D}, Reps KF H O vs ds → vs.length = ds.length := fun w => w.length
/-- what dkPut is among addresses -/
def vsPut (ks : List DKey) (vs : List V) (k : DKey) (v : V) : List V := if k ∈ ks then (ks.zip vs).map (fun p => if p.1 = k then v else p.2) else vs ++ [v]
theorem put_map : ∀ {ks : List DKey} {vs : List V} {b : K0} {v : V}, isK ks → ks.length = vs.length →
    (((ks.map keyF).zip vs).map fun kv => if kv.1 = b.key then (kv.1, v) else kv) = (ks.map keyF).zip ((ks.zip vs).map fun p => if p.1 = .k b then v else p.2)
  | [], vs, b, v, _, _ => by simp
  | k :: ks, [], b, v, _, hl => by simp at hl
  | k :: ks, u :: vs, b, v, hk, hl => by
    have ih := put_map (ks := ks) (vs := vs) (b := b) (v := v) (fun z hz => hk z (List.mem_cons_of_mem _ hz)) (by simpa using hl)
    have hk0 := keyF_eq (b := b) (hk k (List.mem_cons_self ..))
    simp only [List.map_cons, List.zip_cons_cons, ih]
    by_cases e : k = .k b
    · rw [if_pos (hk0.mpr e), if_pos e]
    · rw [if_neg (fun q => e (hk0.mp q)), if_neg e]
theorem any_mem : ∀ {ks : List DKey} {vs : List V} {b : K0}, isK ks → ks.length = vs.length → ((((ks.map keyF).zip vs).any fun kv => decide (kv.1 = b.key)) = true ↔ DKey.k b ∈ ks)
  | [], vs, b, _, _ => by simp
  | k :: ks, [], b, _, hl => by simp at hl
  | k :: ks, u :: vs, b, hk, hl => by
    have ih := any_mem (ks := ks) (vs := vs) (b := b) (fun z hz => hk z (List.mem_cons_of_mem _ hz)) (by simpa using hl)
    have hk0 := keyF_eq (b := b) (hk k (List.mem_cons_self ..))
    simp only [List.map_cons, List.zip_cons_cons, List.any_cons, Bool.or_eq_true, decide_eq_true_eq, List.mem_cons, hk0, ih]
    exact ⟨fun h => h.imp Eq.symm id, fun h => h.imp Eq.symm id⟩
theorem put_ok {ks : List DKey} {vs : List V} {b : K0} {v : V} (hk : isK ks) (hl : ks.length = vs.length) (ds : List D) (d : D) :
    putK ((ks.map keyF).zip vs) b.key v = (((dkPut ks ds (.k b) d).1).map keyF).zip (vsPut ks vs (.k b) v) ∧ (dkPut ks ds (.k b) d).1.length = (vsPut ks vs (.k b) v).length := by
  unfold putK dkPut vsPut
  by_cases h : DKey.k b ∈ ks
  · rw [if_pos ((any_mem hk hl).mpr h), if_pos h, if_pos h, put_map hk hl]
    exact ⟨rfl, by simp; omega⟩
  · rw [if_neg (fun q => h ((any_mem hk hl).mp q)), if_neg h, if_neg h]
    refine ⟨?_, by simp [hl]⟩
    rw [List.map_append, List.zip_append (by simp [hl])]
    rfl
theorem reps_put : ∀ {ks : List DKey} {vs : List V} {ds : List D} {k : DKey} {v : V} {d : D}, Reps KF H O vs ds → ks.length = vs.length → Rep KF H O v d → Reps KF H O (vsPut ks vs k v) (dkPut ks ds k d).2 := fun {ks vs ds k v d} w hl wv => by
  unfold vsPut dkPut
  split
  · have gen : ∀ (ks : List DKey) (vs : List V) (ds : List D), Reps KF H O vs ds → ks.length = vs.length → Reps KF H O ((ks.zip vs).map fun p => if p.1 = k then v else p.2) ((ks.zip ds).map fun p => if p.1 = k then d else p.2) := by
      intro ks
      induction ks with
      | nil => intro vs ds _ _; simp [Reps]
      | cons k0 ks ih =>
        intro vs ds w hl
        cases vs with
        | nil => simp at hl
        | cons u vs =>
          cases ds with
          | nil => simp [Reps] at w
          | cons e ds =>
            simp only [Reps] at w
            simp only [List.zip_cons_cons, List.map_cons, Reps]
            refine ⟨?_, ih vs ds w.2 (by simpa using hl)⟩
            split
            · exact wv
            · exact w.1
    exact gen ks vs ds w hl
  · exact w.append (by simp only [Reps]; exact ⟨wv, trivial⟩)
theorem isK_put {ks : List DKey} {ds : List D} {b : K0} {d : D} (h : isK ks) (h2 : ∀ a, .k a ∈ ks → a.ok = true) (ok : b.ok = true) : isK (dkPut ks ds (.k b) d).1 ∧ ∀ a, .k a ∈ (dkPut ks ds (.k b) d).1 → a.ok = true := by
  unfold dkPut
  split
  · exact ⟨h, h2⟩
  · refine ⟨fun z hz => ?_, fun a ha => ?_⟩
    · rcases List.mem_append.mp hz with hz | hz
      · exact h z hz
      · rw [List.mem_singleton] at hz; exact ⟨b, hz⟩
    · rcases List.mem_append.mp ha with ha | ha
      · exact h2 a ha
      · rw [List.mem_singleton] at ha; cases ha; exact ok
/-- d[k] = e -/
def sPutD (i : Nat) (b a : M) : S := fun ε => (val a ε).bind fun p => (val b p.2).bind fun q => (kOf q.1).bind fun k => (lookD q.2 i).bind fun z => if z.1.length < 16777216 then some (.nx, put q.2 i (.dic false (dkPut z.1 z.2 k p.1).1 (dkPut z.1 z.2 k p.1).2)) else none
theorem psd_putD (i : Nat) (hu : X.A.units + 65 < cLine) (ha : PED X fl a fl1 ma) (hb : PED X fl1 b fl2 mb) (hi : fl2[i]? = some .ow := by rfl) (hi1 : fl1[i]? = some .ow := by rfl) (hN : X.N[i]? = some x := by rfl) (hv : Vis X.env.scope x := by first | exact Or.inl rfl | exact Or.inr (Or.inl rfl) | exact Or.inr (Or.inr rfl)) (hd : (x == ("__debug__" : Str)) = false := by decide)
    (hcd : (x == ("__classdict__" : Str)) = false := by decide) (hs : swapsWith a (some (.Subscript (.Name x pos) b apos)) p.line X.env = pure false := by rfl) : PSD X sg fl (.Assign [.Subscript (.Name x pos) b apos] a p) fl2 (sPutD i mb ma) :=
  ⟨(ps_dput (by omega) (pv i hN hv hd hcd) hb.run ha.run hs).imp fun D σ H ⟨Γ, ε, O, w, ε', r, em, k⟩ => by
    simp only [sPutD, Option.bind_eq_some_iff] at em
    obtain ⟨⟨d, ε1⟩, e1, ⟨dk, ε2⟩, e2, kk, hkk, ⟨ks, ds⟩, hl, em⟩ := em
    split at em
    · rename_i hlen
      cases em
      refine ⟨ε, O, d, ε1, r.rel, ha.isv.val e1, fun v H1 O1 r1 s1 w1 => ?_⟩
      obtain ⟨A, d0, _, hA, _, _⟩ := r1.ow i hi1
      refine ⟨.ref A, hA, ε1, O1, dk, ε2, r1, hb.isv.val e2, fun u H2 O2 r2 s2 w2 => ?_⟩
      obtain ⟨A', d2, h1, hA', oA, t⟩ := r2.ow i hi
      rw [hA] at hA'; cases hA'
      have hlk := lookD_iff hl
      rw [look_iff.mp hlk] at h1
      cases h1
      obtain ⟨vs, o, eo, hH, l, wx⟩ := t
      obtain ⟨rfl, hK, hok⟩ := dicO_k eo
      obtain ⟨kb, rfl, rfl, ok⟩ := kOf_rep (.inl w2) hkk
      obtain ⟨p1, p2⟩ := put_ok (b := kb) (v := v) hK l ds d
      obtain ⟨k1, k2⟩ := isK_put (ds := ds) (d := d) hK hok ok
      have wv := w1.stay (s2.stay r1)
      have wp := reps_put (k := .k kb) wx l wv
      refine ⟨A, _, rfl, .inl ⟨_, _, hH, rfl, by rw [List.length_zip, List.length_map, l, Nat.min_self, ← l, sizeLine_eq]; exact hlen, rfl⟩, ?_⟩
      have st : Stay H2 O2 (upd H2 A (.dK (putK ((ks.map keyF).zip vs) kb.key v))) O2 := ⟨fun b u e n => by rw [upd_ne (fun z => n (by rw [z]; exact oA))]; exact e, fun b h => .inl h⟩
      obtain ⟨r3, s3, st3⟩ := r2.relayO (ob := .dK (putK ((ks.map keyF).zip vs) kb.key v)) (d := .dic false (dkPut ks ds (.k kb) d).1 (dkPut ks ds (.k kb) d).2) hi hA ⟨vsPut ks vs (.k kb) v, _, dicO_mk k1 k2, by rw [upd_same, p1], p2, wp.stay st⟩
      exact k _ _ _ ((((r.step r1 s1 ha.sub).step r2 s2 hb.sub)).step r3 s3 Subf.refl)
    · cases em⟩
theorem xp_putD {i : Nat} {QS : Flw → Slots → Prop} : wpS (sPutD i mb ma) ε QS ↔ wpM ma ε fun o ε1 => exO (o.get ε1) fun x => wpM mb ε1 fun o2 ε2 => exO (o2.get ε2) fun y => exO (kOf y) fun k => exO (lookD ε2 i) fun z => z.1.length < 16777216 ∧ QS .nx (put ε2 i (.dic false (dkPut z.1 z.2 k x).1 (dkPut z.1 z.2 k x).2)) := by
  constructor
  · rintro ⟨w, ε', e, q⟩
    simp only [sPutD, Option.bind_eq_some_iff] at e
    obtain ⟨⟨d, ε1⟩, e1, ⟨dk, ε2⟩, e2, kk, hkk, z, hl, em⟩ := e
    split at em
    · rename_i hlen
      cases em
      rw [← xp_wpV (R := fun d ε1 => wpM mb ε1 fun o2 ε2 => exO (o2.get ε2) fun y => exO (kOf y) fun k => exO (lookD ε2 i) fun z => z.1.length < 16777216 ∧ QS .nx (put ε2 i (.dic false (dkPut z.1 z.2 k d).1 (dkPut z.1 z.2 k d).2))), ← wpV_val]
      refine ⟨d, ε1, e1, ?_⟩
      rw [← xp_wpV (R := fun y ε2 => exO (kOf y) fun k => exO (lookD ε2 i) fun z => z.1.length < 16777216 ∧ QS .nx (put ε2 i (.dic false (dkPut z.1 z.2 k d).1 (dkPut z.1 z.2 k d).2))), ← wpV_val]
      exact ⟨dk, ε2, e2, kk, hkk, z, hl, hlen, q⟩
    · cases em
  · intro q
    rw [← xp_wpV (R := fun d ε1 => wpM mb ε1 fun o2 ε2 => exO (o2.get ε2) fun y => exO (kOf y) fun k => exO (lookD ε2 i) fun z => z.1.length < 16777216 ∧ QS .nx (put ε2 i (.dic false (dkPut z.1 z.2 k d).1 (dkPut z.1 z.2 k d).2))), ← wpV_val] at q
    obtain ⟨d, ε1, e1, q⟩ := q
    rw [← xp_wpV (R := fun y ε2 => exO (kOf y) fun k => exO (lookD ε2 i) fun z => z.1.length < 16777216 ∧ QS .nx (put ε2 i (.dic false (dkPut z.1 z.2 k d).1 (dkPut z.1 z.2 k d).2))), ← wpV_val] at q
    obtain ⟨dk, ε2, e2, kk, hkk, z, hl, hlen, q⟩ := q
    exact ⟨_, _, by simp only [sPutD, e1, e2, hkk, hl, hlen, if_true, Option.bind_some], q⟩
theorem xp_dic0 {Q : Opd → Slots → Prop} : wpM eDic0 ε Q ↔ Q (.val (.dic false [] [])) ε := ⟨fun ⟨_, _, e, q⟩ => by cases e; exact q, fun q => ⟨_, _, rfl, q⟩⟩
/-! the same, said of sets of whole numbers -/
theorem get_some {ks : List DKey} {ds : List D} {k : DKey} (h : ks.length = ds.length) : (dkGet ks ds k).isSome = decide (k ∈ ks) := by
  induction ks generalizing ds with
  | nil => simp [dkGet]
  | cons a ks ih =>
    cases ds with
    | nil => simp at h
    | cons d ds =>
      have := ih (ds := ds) (by simpa using h)
      by_cases e : a = k
      · simp [dkGet, e]
      · have e' : ¬ k = a := fun z => e z.symm
        simp only [dkGet, List.zip_cons_cons, List.find?_cons, e, decide_false, List.mem_cons, e', false_or] at this ⊢
        exact this
/-- list(range(a, b)) -/
def dRg2L (x y : D) : Option D := match x, y with
  | .int i, .int j => if (inB i && inB j && decide ((j - i).toNat ≤ 16777216)) = true then some (.lst (rangeL i 1 (j - i).toNat)) else none
  | _, _ => none
theorem pfd_listR2 {p2 : Pos} (ha : PED X fl a fl1 ma) (hb : PED X fl1 b fl2 mb) (hm : X.mg "list" = none) (hm2 : X.mg "range" = none) (hc : X.calm = true := by rfl) (hg : Gl X "list" := by rfl) (hg2 : Gl X "range" := by rfl) (na : NoStar a := by intro _ _; rfl) (nb : NoStar b := by intro _ _; rfl) (na2 : NoStar (.Call (.Name "range" p2) [a, b] [] apos) := by intro _ _; rfl)
    (hp2 : (backTo apos (starEach [b] X.env)).any (·.1) = false := by rfl) :
    PFD X fl (.Call (.Name "list" p) [.Call (.Name "range" p2) [a, b] [] apos] [] pos) fl2 (e2 dRg2L ma mb) :=
  ⟨isv_e2, ha.sub.trans hb.sub, (pe_listRg hc hg hm (prg_2 hg2 hm2 ha.run hb.run (na _ _) (nb _ _) hp2) (na2 _ _)).imp fun σ H Q h => by
    have h2 := bin_impF (r := fun v u H Q => ∃ i j, v = .int i ∧ u = .int j ∧ RgOk i j ∧ ∀ q, H q = none → Q (.ref q) (upd H q (.lst (rgV i j)))) ha.sub hb.sub (fun v u d e z H O Q dm hv hu ef k => by
      cases d <;> cases e <;> simp only [dRg2L] at ef <;> try (cases ef; done)
      split at ef
      · rename_i i j hl
        cases ef
        simp only [Bool.and_eq_true, decide_eq_true_eq] at hl
        have b1 := inB_of hl.1.1
        have b2 := inB_of hl.1.2
        exact ⟨_, _, repR_int hv, repR_int hu, ⟨b1.1, b1.2, b2.1, b2.2, by omega⟩, fun q hq => k q _ hq (same_upd hq) (top_lst hq reps_rg)⟩
      · cases ef) h
    obtain ⟨ε, O, o, ε1, r, e1, kk⟩ := h2
    obtain ⟨d, rfl⟩ := ha.isv _ _ _ e1
    refine ⟨ε, O, d, ε1, r, e1, fun v H1 O1 r1 s1 w => ?_⟩
    obtain ⟨ε, O, o, ε1, r, e1, kk⟩ := kk v H1 O1 r1 s1 w
    obtain ⟨d, rfl⟩ := hb.isv _ _ _ e1
    refine ⟨ε, O, d, ε1, r, e1, fun v H1 O1 r1 s1 w => ?_⟩
    obtain ⟨i, j, e, e2, z⟩ := kk v H1 O1 r1 s1 w
    exact ⟨i, j, e, e2, z⟩⟩
theorem rg2_l {i j : Int} (h : -1000000 ≤ i) (h2 : i ≤ j) (h3 : j ≤ 1000000) : dRg2L (.int i) (.int j) = some (.lst (rangeL i 1 (j - i).toNat)) := by
  simp only [dRg2L]
  rw [if_pos]
  simp only [Bool.and_eq_true, decide_eq_true_eq]
  exact ⟨⟨inb (by omega) (by omega), inb (by omega) (by omega)⟩, by omega⟩
end
end L2.VS

/-! {k: v for x in it} with keys that are ints or strs -/
namespace L2.VS
open PySem PySem.Spec PyProof.Rows
def dcompL (g : G) (t : T) (ek ev : M) (vs : List Nat) : List D → List DKey × List D → Slots → Option ((List DKey × List D) × Slots)
  | [], acc, ε => some (acc, ε)
  | d :: ds, acc, ε => (g d ε).bind fun ε1 => (t ε1).bind fun p => if p.1 = true then (val ek p.2).bind fun q => (val ev q.2).bind fun r => (kOf q.1).bind fun k => if acc.1.length < 16777216 then dcompL g t ek ev vs ds (dkPut acc.1 acc.2 k r.1) (wipeE r.2 vs) else none else dcompL g t ek ev vs ds acc (wipeE p.2 vs)
/-- {ek: ev for g in it if t} -/
def eDcomp (it : I) (g : G) (t : T) (ek ev : M) (vs : List Nat) : M := fun ε => (it ε).bind fun p => (dcompL g t ek ev vs p.1 ([], []) (wipeE p.2 vs)).bind fun q => some (.val (.dic false q.1.1 q.1.2), backE p.2 q.2 vs)
section
variable {KF : PySem.W.Frag} {H H' H1 H2 : Hp} {O O' O1 O2 : Addr → Prop} {fl fl' fl1 fl2 flH flT flE flX : List Fl} {σ σ1 σ2 : St} {ε ε1 ε2 : Slots} {X : Cx} {e a b c tg : Expr} {m m' ma mb : M} {t : T} {pos pos' : Pos} {Γ Γ' : Gm}
theorem isv_dcomp {it : I} {g : G} {ek ev : M} {vs : List Nat} : IsV (eDcomp it g t ek ev vs) := fun ε o ε' h => by
  simp only [eDcomp, Option.bind_eq_some_iff] at h
  obtain ⟨_, _, _, _, h⟩ := h
  cases h; exact ⟨_, rfl⟩
theorem SRel.growO {p : Addr} {ob : HO} (r : SRel KF [] Γ fl O σ H ε) (o : O p) (nh : ¬ Hit fl σ p) (nl : ∀ i : Nat, fl[i]? = some .le → σ[i]? ≠ some (some (.ref p))) (nr : ∀ i : Nat, fl[i]? ≠ some .ro) (hb : Γ.B p) : SRel KF [] Γ fl O σ (upd H p ob) ε := by
  have s : Stay H O (upd H p ob) O := ⟨fun b u e n => by rw [upd_ne (fun z => n (by rw [z]; exact o))]; exact e, fun b h => .inl h⟩
  refine ⟨⟨r.rel.len, r.rel.flen, fun b h => ?_, fun i d h1 h2 => ?_, fun i h => ?_, fun i h => ?_, fun i d h1 h2 => absurd h1 (nr i), r.rel.ap⟩, r.dom0, fun b u e n => ?_, fun b e => ?_, r.new, r.old, r.hit, r.own, r.lk⟩
  · by_cases hp : b = p
    · rw [hp, upd_same]; intro z; cases z
    · rw [upd_ne hp]; exact r.rel.dom b h
  · obtain ⟨v, e, w⟩ := r.rel.sh i d h1 h2
    exact ⟨v, e, w.stay s⟩
  · obtain ⟨a, d, e1, e2, oa, t⟩ := r.rel.ow i h
    exact ⟨a, d, e1, e2, oa, t.stay s (upd_ne fun z => nh ⟨i, h, z ▸ e2⟩)⟩
  · obtain ⟨a, d, e1, e2, oa, t, n⟩ := r.rel.le i h
    exact ⟨a, d, e1, e2, oa, t.stay s (upd_ne fun z => nl i h (z ▸ e2)), n⟩
  · rw [upd_ne (fun z => n (by rw [z]; exact hb))]
    exact r.keep b u e n
  · by_cases hp : b = p
    · rw [hp, upd_same] at e; cases e
    · rw [upd_ne hp] at e; exact r.dom b e
theorem dcomp_imp {wi : TI} {it : I} {g : G} {ek ev : M} {vs ws : List Nat} {fl3 fl4 flT : List Fl} (sub : Subf fl fl1) (hq : ∀ σ H R, tI KF fl fl1 it σ H R → wi σ H R) (s1 : Subf flT fl2) (s2 : Subf fl2 fl3) (s3 : Subf fl3 fl4) (ik : IsV ek) (iv : IsV ev) (w0 : wkB fl1 flH = true) (w3 : wkB fl4 flH = true) (w2 : wkB fl2 flH = true)
    (hv : ∀ j ∈ vs, flH[j]? = some .sh) (hro : ∀ i : Nat, flH[i]? ≠ some .ro) (hws : ∀ j ∈ ws, j ∈ vs) (how : owChk flT flH vs = true) {σ : St} {H : Hp} {Q : VK}
    (h : tF KF fl flH (eDcomp it g t ek ev vs) σ H Q) : tDc wi (tG KF [] flH flT ws g) (tT KF flT fl2 t) (tD KF fl2 fl3 ek) (tD KF fl3 fl4 ev) vs σ H Q := by
  obtain ⟨ε, O, d, ε', r, em, k⟩ := h
  simp only [eDcomp, Option.bind_eq_some_iff] at em
  obtain ⟨⟨ds, ε1⟩, e1, ⟨⟨ksF, dsF⟩, εF⟩, e2, em⟩ := em
  cases em
  refine hq _ _ _ ⟨ε, O, ds, ε1, r, e1, fun J H1 O1 r1 st1 wk p hp => ?_⟩
  have g0 : SRel KF [] ⟨Hit fl σ, O, H, σ⟩ fl O σ H ε := ⟨r, r.dom, fun b o e _ => e, fun b e => e, fun b h => .inl h, fun b h _ => h, fun b h => .inl h, fun i _ => rfl, fun i _ => rfl⟩
  obtain ⟨O1', ⟨so, _⟩, rh⟩ := (g0.step r1 st1 sub).weak' (wk_of w0)
  have r1p : Rel KF flH (fun b => O1' b ∨ b = p) σ (upd H1 p (.dK [])) ε1 := rh.rel.own_same (same_upd hp) hp (by rw [upd_same]; intro z; cases z)
  have nhp : ¬ Hit flH σ p := fun z => rh.rel.dom p (rh.rel.hitO z) hp
  have nhw : ¬ Hit flH (L2.wipe σ vs) p := fun z => nhp ((wipe_hit hv).mp z)
  have nlp : ∀ i : Nat, flH[i]? = some .le → σ[i]? ≠ some (some (.ref p)) := fun i h z => by
    obtain ⟨a, d, _, e2, oa, _⟩ := rh.rel.le i h
    rw [z] at e2; cases e2
    exact rh.rel.dom p oa hp
  have nlw : ∀ i : Nat, flH[i]? = some .le → (L2.wipe σ vs)[i]? ≠ some (some (.ref p)) := fun i h => by
    rw [wipe_out fun hj => by have := hv i hj; rw [h] at this; cases this]
    exact nlp i h
  have hr0 : SRel KF [] ⟨fun b => Hit flH σ b ∨ b = p, fun b => O1' b ∨ b = p, upd H1 p (.dK []), L2.wipe σ vs⟩ flH (fun b => O1' b ∨ b = p) (L2.wipe σ vs) (upd H1 p (.dK [])) (wipeE ε1 vs) :=
    ⟨r1p.wipe hv, r1p.dom, fun b o e _ => e, fun b e => e, fun b h => .inl h, fun b h _ => h, fun b h => .inl (.inl ((wipe_hit hv).mp h)), fun i h => (by cases h), fun i _ => rfl⟩
  have kp : ∀ {O2 : Addr → Prop} {H2 : Hp} {ε2 : Slots}, SRel KF [] ⟨fun b => Hit flH σ b ∨ b = p, fun b => O1' b ∨ b = p, upd H1 p (.dK []), L2.wipe σ vs⟩ flH O2 (L2.wipe σ vs) H2 ε2 → (∀ b o, H1 b = some o → ¬ Hit flH σ b → H2 b = some o) ∧ (∀ b, O2 b → O1' b ∨ H1 b = none) := fun q => by
    refine ⟨fun b o e n => ?_, fun b h => ?_⟩
    · have hb : b ≠ p := ne_of_none e hp
      exact q.keep b o (by show upd H1 p _ b = _; rw [upd_ne hb]; exact e) fun z => z.elim n hb
    · rcases q.new b h with (z | z) | z
      · exact .inl z
      · exact .inr (by rw [z]; exact hp)
      · have z : upd H1 p (.dK []) b = none := z
        by_cases hb : b = p
        · exact .inr (by rw [hb]; exact hp)
        · rw [upd_ne hb] at z; exact .inr z
  refine ⟨fun i m H2 => m = ds.length - i ∧ i ≤ ds.length ∧ ∃ ε2 O2 ks acc accV, SRel KF [] ⟨fun b => Hit flH σ b ∨ b = p, fun b => O1' b ∨ b = p, upd H1 p (.dK []), L2.wipe σ vs⟩ flH O2 (L2.wipe σ vs) H2 ε2 ∧
    O2 p ∧ H2 p = some (.dK ((ks.map keyF).zip accV)) ∧ (isK ks ∧ (∀ a, .k a ∈ ks → a.ok = true) ∧ ks.length = accV.length) ∧ Reps KF H2 O2 accV acc ∧ dcompL g t ek ev vs (ds.drop i) (ks, acc) ε2 = some ((ksF, dsF), εF), ?_, ?_⟩
  · exact ⟨_, rfl, Nat.zero_le _, _, _, [], [], [], hr0, .inr rfl, upd_same, ⟨fun z hz => (by cases hz), fun z hz => (by cases hz), rfl⟩, by simp [Reps], e2⟩
  · rintro i m H2 ⟨rfl, hle, ε2, O2, ks, acc, accV, q2, o2, hp2, hks, rp2, em2⟩
    obtain ⟨kk, kn⟩ := kp q2
    obtain ⟨hgo, hstop⟩ := wk i H2 O2 ⟨fun b o e n => kk b o e fun z => n ((wk_of w0).hit z), fun b h => (kn b h).imp (so b) id⟩ q2.rel.dom
    by_cases hlt : i < ds.length
    · obtain ⟨d, hd⟩ : ∃ d, ds[i]? = some d := ⟨_, List.getElem?_eq_getElem hlt⟩
      obtain ⟨go, yl⟩ := hgo d hd
      refine .inr ⟨go, fun H3 => ∃ ε2 O2 ks acc accV, SRel KF [] ⟨fun b => Hit flH σ b ∨ b = p, fun b => O1' b ∨ b = p, upd H1 p (.dK []), L2.wipe σ vs⟩ flH O2 (L2.wipe σ vs) H3 ε2 ∧
        O2 p ∧ H3 p = some (.dK ((ks.map keyF).zip accV)) ∧ (isK ks ∧ (∀ a, .k a ∈ ks → a.ok = true) ∧ ks.length = accV.length) ∧ Reps KF H3 O2 accV acc ∧ dcompL g t ek ev vs (ds.drop (i + 1)) (ks, acc) ε2 = some ((ksF, dsF), εF), fun H3 h => ⟨ds.length - (i + 1), by omega, rfl, hlt, h⟩, fun x H3 hy => ?_⟩
      obtain ⟨sm, rx⟩ := yl x H3 hy
      have hdrop : ds.drop i = d :: ds.drop (i + 1) := by
        rw [List.drop_eq_getElem_cons hlt]
        rw [List.getElem?_eq_getElem hlt] at hd
        cases hd
        rfl
      rw [hdrop] at em2
      simp only [dcompL, Option.bind_eq_some_iff] at em2
      obtain ⟨ε3, g3, ⟨b, ε5⟩, t5, em2⟩ := em2
      refine ⟨_, ε2, O2, d, ε3, q2.step (q2.rel.same sm) (Step.same sm) Subf.refl, rx, g3, fun σ4 O4 r4 on4 oe => ?_⟩
      have hw4 : L2.wipe σ4 vs = L2.wipe σ vs := wipe_only ⟨on4.1, fun j hj => on4.2 j fun z => hj (hws j z)⟩
      have nhT : ¬ Hit flT σ4 p := fun ⟨j, h1, h2⟩ => by
        obtain ⟨h3, h4⟩ := owChk_of how h1
        rw [on4.2 j fun z => h4 (hws j z)] at h2
        exact nhw ⟨j, h3, h2⟩
      refine ⟨hw4, ε3, O4, b, ε5, r4.rel, t5, fun H5 O5 r5 s5 => ?_⟩
      have q5 := r4.step r5 s5 s1
      have hp3 : H3 p = some (.dK ((ks.map keyF).zip accV)) := sm p _ hp2
      have hp5 : H5 p = some (.dK ((ks.map keyF).zip accV)) := s5.keep p _ hp3 nhT
      have o4 : O4 p := (oe p).mpr o2
      have o5 : O5 p := s5.old p o4 nhT
      have rp4 : Reps KF H3 O4 accV acc := rp2.stay ⟨fun b o e _ => sm b o e, fun b h => .inl ((oe b).mp h)⟩
      have rp5 : Reps KF H5 O5 accV acc := rp4.stay (s5.stay r4.rel)
      cases b with
      | false =>
        refine iteF ?_
        rw [if_neg Bool.false_ne_true] at em2
        obtain ⟨O6, ⟨so6, so6'⟩, q6⟩ := q5.weak' (wk_of w2)
        exact ⟨_, O6, ks, acc, accV, q6.wipe hw4 hv, so6' p o5 fun z => nhT (s1.hit z), hp5, hks, rp5.stay ⟨fun b o e _ => e, fun b h => .inl (so6 b h)⟩, em2⟩
      | true =>
        refine iteT ?_
        rw [if_pos rfl] at em2
        simp only [Option.bind_eq_some_iff] at em2
        obtain ⟨⟨dk, ε6⟩, e6, ⟨dy, ε7⟩, e7, kk0, hkk, em2⟩ := em2
        split at em2
        rotate_left
        · cases em2
        rename_i hlen
        have hlen : ks.length < 16777216 := hlen
        refine ⟨ε5, O5, dk, ε6, r5, ik.val e6, fun y H6 O6 r6 s6 w6 => ?_⟩
        have nh5 : ¬ Hit fl2 σ4 p := fun z => nhT (s1.hit z)
        have nh6 : ¬ Hit fl3 σ4 p := fun z => nh5 (s2.hit z)
        have hp6 : H6 p = some (.dK ((ks.map keyF).zip accV)) := s6.keep p _ hp5 nh5
        obtain ⟨kb, rfl, rfl, ok⟩ := kOf_rep (.inl w6) hkk
        refine ⟨ε6, O6, dy, ε7, r6, iv.val e7, fun z H7 O7 r7 s7 w7 => ?_⟩
        have hp7 : H7 p = some (.dK ((ks.map keyF).zip accV)) := s7.keep p _ hp6 nh6
        obtain ⟨hK, hok, hkl⟩ := hks
        refine ⟨_, kb.key, rfl, hp7, by rw [List.length_zip, List.length_map, hkl, Nat.min_self, ← hkl, sizeLine_eq]; exact hlen, ?_⟩
        obtain ⟨p1, p2⟩ := put_ok (b := kb) (v := z) hK hkl acc dy
        obtain ⟨k1, k2⟩ := isK_put (ds := acc) (d := dy) hK hok ok
        have q6 := q5.step r6 s6 s2
        have q7 := q6.step r7 s7 s3
        obtain ⟨O8, ⟨so8, so8'⟩, q8⟩ := q7.weak' (wk_of w3)
        have q9 := q8.wipe hw4 hv
        have o8 : O8 p := so8' p (s7.old p (s6.old p o5 nh5) nh6) fun z => nh6 (s3.hit z)
        have rp8 : Reps KF H7 O8 (vsPut ks accV (.k kb) z) (dkPut ks acc (.k kb) dy).2 := by
          have a1 : Reps KF H7 O8 accV acc := ((rp5.stay (s6.stay r5)).stay (s7.stay r6)).stay ⟨fun b o e _ => e, fun b h => .inl (so8 b h)⟩
          exact reps_put a1 hkl (w7.stay ⟨fun b o e _ => e, fun b h => .inl (so8 b h)⟩)
        refine ⟨_, O8, (dkPut ks acc (.k kb) dy).1, (dkPut ks acc (.k kb) dy).2, vsPut ks accV (.k kb) z, q9.growO o8 nhw nlw hro (.inr rfl), o8, by rw [upd_same, p1], ⟨k1, k2, p2⟩, rp8.stay ⟨fun b u e n => by rw [upd_ne (fun z => n (by rw [z]; exact o8))]; exact e, fun b h => .inl h⟩, em2⟩
    · have hi : i = ds.length := by omega
      refine .inl ⟨hstop hi, ?_⟩
      rw [hi, List.drop_length] at em2
      cases em2
      have fin : Rel KF flH O2 σ H2 (backE ε1 _ vs) := rh.rel.back ⟨fun b o e n => kk b o e fun z => n (rh.rel.hitO z), fun b h => kn b h⟩ q2.rel hv
      refine k p H2 O2 fin ⟨fun b o e n => ?_, fun b e => ?_, fun b h => ?_, fun b h n => ?_⟩ o2 ⟨accV, _, dicO_mk hks.1 hks.2.1, hp2, hks.2.2, rp2⟩ ⟨nhp, nlp, fun i d h _ => absurd h (hro i)⟩ (.inl (rh.dom p hp))
      · refine kk b o (rh.keep b o e n) fun z => ?_
        rcases rh.hit b z with q | q
        · exact n q
        · have q : H b = none := q
          rw [e] at q; cases q
      · have z := q2.dom b e
        have z : upd H1 p (.dK []) b = none := z
        by_cases hb : b = p
        · rw [hb, upd_same] at z; cases z
        · rw [upd_ne hb] at z; exact rh.dom b z
      · rcases kn b h with z | z
        · exact rh.new b z
        · exact .inr (rh.dom b z)
      · refine q2.old b (.inl (rh.old b h n)) fun z => ?_
        rcases z with z | z
        · rcases rh.hit b z with q | q
          · exact n q
          · exact r.dom b h q
        · exact rh.rel.dom b (rh.old b h n) (by rw [z]; exact hp)
theorem pfd_dcomp {iter kx vx : Expr} {ifs : List Expr} {scope : Scope} {it : I} {g : G} {mk mv : M} {ws : List Nat} {flT fl3 fl4 : List Fl} (own : List (Str × Nat)) (flH : List Fl) (nd : X.N.Nodup) (hi : PID X fl tg iter fl1 it)
    (hg : ∀ (s : Shared) (H : Hp) (C : Addr) (cl : List (Str × Addr)) (fp : List Addr), PGD (X.blk s H scope (compEnvC scope cl C X.env) fp) [] flH tg flT ws g)
    (ht : ∀ (s : Shared) (H : Hp) (C : Addr) (cl : List (Str × Addr)) (fp : List Addr), PTsD (X.blk s H scope (compEnvC scope cl C X.env) fp) flT ifs fl2 t)
    (hk : ∀ (s : Shared) (H : Hp) (C : Addr) (cl : List (Str × Addr)) (fp : List Addr), PED (X.blk s H scope (compEnvC scope cl C X.env) fp) fl2 kx fl3 mk)
    (he : ∀ (s : Shared) (H : Hp) (C : Addr) (cl : List (Str × Addr)) (fp : List Addr), PED (X.blk s H scope (compEnvC scope cl C X.env) fp) fl3 vx fl4 mv)
    (ok : BlkOk X.N X.env.scope scope own := by exact blkOk_by (by kernel_rfl))
    (w0 : wkB fl1 flH = true := by rfl) (w2 : wkB fl2 flH = true := by rfl) (w3 : wkB fl4 flH = true := by rfl) (hv : ∀ j ∈ own.map (·.2), flH[j]? = some .sh := by decide) (hro : flH.all (fun f => decide (f ≠ .ro)) = true := by rfl) (hws : ∀ j ∈ ws, j ∈ own.map (·.2) := by decide) (how : owChk flT flH (own.map (·.2)) = true := by rfl)
    (sb : Subf fl flH) (hc : X.calm = true := by rfl) (hs : ∀ x, foldedSetIterable iter X.env x = pure x := by intro _; rfl) :
    PFD X fl (.DictComp kx vx [⟨tg, iter, ifs, 0⟩] scope pos) flH (eDcomp it g t mk mv (own.map (·.2))) := by
  obtain ⟨wi, hw, hq⟩ := hi.run
  have e0 : ∀ (s : Shared) (H : Hp) (C : Addr) (cl : List (Str × Addr)) (fp : List Addr), IsV mk ∧ IsV mv ∧ Subf flT fl2 ∧ Subf fl2 fl3 ∧ Subf fl3 fl4 := fun s H C cl fp => ⟨(hk s H C cl fp).isv, (he s H C cl fp).isv, (ht s H C cl fp).sub, (hk s H C cl fp).sub, (he s H C cl fp).sub⟩
  refine ⟨isv_dcomp, sb, ⟨fun pins s σ H Q I h => ?_⟩⟩
  obtain ⟨ik, iv, s1, s2, s3⟩ := e0 s H 0 [] []
  exact (pe_dc hc nd hw ok (fun s H C cl fp => (hg s H C cl fp).run) (fun s H C cl fp => (ht s H C cl fp).run) (fun s H C cl fp => (hk s H C cl fp).run) (fun s H C cl fp => (he s H C cl fp).run) hs).run pins s σ H Q I
    (dcomp_imp hi.sub hq s1 s2 s3 ik iv w0 w3 w2 hv (fun i z => by
      have := List.all_eq_true.mp hro _ (List.mem_of_getElem? z)
      simp at this) hws how h)
end
section
variable {X : Cx} {sg : Sg} {fl fl1 fl2 : List Fl} {tg : Expr} {pos spos py : Pos} {y : Str} {t : T}
/-- the stores of a dict comprehension go by a local name of the same row -/
theorem sw_dict {kx vx : Expr} {gs : List Comprehension} {scope : Scope} {pos py : Pos} {y : Str} {l : Nat} {env : Env} (hk : env.scope.kind = .function) (hy : env.scope.names.lookup y = some .local) (hl : (py.line == pos.line) = true)
    (ha : (scope.names.any fun (n, k) => n == y && (k == .local || k == .cell)) = false) : swapsWith (.DictComp kx vx gs scope pos) (some (.Name y py)) l env = pure true := by
  have e1 : env.blockKind = .function := by unfold Env.blockKind; rw [hk]; rfl
  have e2 : env.kindOf y = some .local := hy
  unfold swapsWith
  simp only [e1, e2, Expr.pos, ha, hl]
  rfl
theorem ps_setDc {i : Nat} {y : Str} {py spos : Pos} {kx vx iter : Expr} {ifs : List Expr} {scope : Scope} {own : List (Str × Nat)} {wi : TI} {g : TG} {tt : TT} {tk tv : TE} (hc : X.calm = true) (nd : X.N.Nodup) (hy : X.N[i]? = some y) (hyl : X.env.scope.names.lookup y = some .local)
    (sw : swapsWith (.DictComp kx vx [⟨tg, iter, ifs, 0⟩] scope pos) (some (.Name y py)) spos.line X.env = pure true) (hi : PI X tg iter wi) (ok : BlkOk X.N X.env.scope scope own)
    (hg : ∀ (s : Shared) (H : Hp) (C : Addr) (cl : List (Str × Addr)) (fp : List Addr), PG (X.blk s H scope (compEnvC scope cl C X.env) fp) tg g) (ht : ∀ (s : Shared) (H : Hp) (C : Addr) (cl : List (Str × Addr)) (fp : List Addr), PTs (X.blk s H scope (compEnvC scope cl C X.env) fp) ifs tt)
    (hk : ∀ (s : Shared) (H : Hp) (C : Addr) (cl : List (Str × Addr)) (fp : List Addr), PE (X.blk s H scope (compEnvC scope cl C X.env) fp) kx tk) (he : ∀ (s : Shared) (H : Hp) (C : Addr) (cl : List (Str × Addr)) (fp : List Addr), PE (X.blk s H scope (compEnvC scope cl C X.env) fp) vx tv)
    (hs : ∀ x, foldedSetIterable iter X.env x = pure x) : PS X (.Assign [.Name y py] (.DictComp kx vx [⟨tg, iter, ifs, 0⟩] scope pos) spos) (tAsg (tDc wi g tt tk tv (own.map (·.2))) (gName i)) := ⟨fun pins s σ H N J q => by
  have q : tDc wi g tt tk tv (own.map (·.2)) σ H (fun x H1 => gName i x σ H1 N.nx) := q
  rw [exec_Assign_Name_used _ _ _ _ sw]
  refine wpAny_bind (wpAny_standAt (wpAny_bind ?_))
  show wpAny _ X.A (do let _ ← comprehension (.DictComp kx vx [⟨tg, iter, ifs, 0⟩] scope pos) scope X.env (firstIterPos [⟨tg, iter, ifs, 0⟩] pos) newDict false (eval iter X.env) (some (assign (.Name y py) X.env))) _ _ s
  refine wpAny_bind (thn (dc_core (Qf := fun _ s' => SP X pins N .next s') hc nd J hi ok hg ht hk he hs q fun B C s1 n1 H1 J1 q1 ns f => ?_) fun _ s1 w => wpAny_pure (wpAny_pure w))
  obtain ⟨f0, f1, f2, f3, f4, f5⟩ := f
  show wpAny _ _ (assign (.Name y py) X.env (.ref B)) _ _ _
  refine wpAny_assign_Name (store_ok2 (v := V.ref B) J1 nd hy (.inl hyl) rfl (fun s2 J2 ⟨l, sb, hl⟩ => ?_) (.inr hyl))
  have nl : C ≠ l := by
    rcases hl with r | r
    · exact r ▸ f1
    · exact fun e => f4 y l r e.symm
  exact ⟨n1, ns.sameBut sb nl, fun h3 sb3 => ⟨_, H1, J2.turned (t' := s2.toks) (fun b o nb r => (sb3.2 b nb).trans r) f0 f1 f3 f4 f5, q1⟩⟩⟩
theorem run_setG {i : Nat} {iter kx vx : Expr} {ifs : List Expr} {scope : Scope} {it : I} {g : G} {mk mv : M} {ws : List Nat} {flT fl3 fl4 : List Fl} (own : List (Str × Nat)) (flH : List Fl) (nd : X.N.Nodup) (hi : PID X fl tg iter fl1 it)
    (hg : ∀ (s : Shared) (H : Hp) (C : Addr) (cl : List (Str × Addr)) (fp : List Addr), PGD (X.blk s H scope (compEnvC scope cl C X.env) fp) [] flH tg flT ws g)
    (ht : ∀ (s : Shared) (H : Hp) (C : Addr) (cl : List (Str × Addr)) (fp : List Addr), PTsD (X.blk s H scope (compEnvC scope cl C X.env) fp) flT ifs fl2 t)
    (hk : ∀ (s : Shared) (H : Hp) (C : Addr) (cl : List (Str × Addr)) (fp : List Addr), PED (X.blk s H scope (compEnvC scope cl C X.env) fp) fl2 kx fl3 mk)
    (he : ∀ (s : Shared) (H : Hp) (C : Addr) (cl : List (Str × Addr)) (fp : List Addr), PED (X.blk s H scope (compEnvC scope cl C X.env) fp) fl3 vx fl4 mv)
    (hy : X.N[i]? = some y) (hyl : X.env.scope.names.lookup y = some .local) (hsw : swapsWith (.DictComp kx vx [⟨tg, iter, ifs, 0⟩] scope pos) (some (.Name y py)) spos.line X.env = pure true)
    (ok : BlkOk X.N X.env.scope scope own)
    (w0 : wkB fl1 flH = true) (w2 : wkB fl2 flH = true) (w3 : wkB fl4 flH = true) (hv : ∀ j ∈ own.map (·.2), flH[j]? = some .sh) (hro : flH.all (fun f => decide (f ≠ .ro)) = true) (hws : ∀ j ∈ ws, j ∈ own.map (·.2)) (how : owChk flT flH (own.map (·.2)) = true)
    (hc : X.calm = true) (hs : ∀ x, foldedSetIterable iter X.env x = pure x) :
    PS X (.Assign [.Name y py] (.DictComp kx vx [⟨tg, iter, ifs, 0⟩] scope pos) spos) (tAsg (tF X.K fl flH (eDcomp it g t mk mv (own.map (·.2)))) (gName i)) := by
  obtain ⟨wi, hw, hq⟩ := hi.run
  have e0 : ∀ (s : Shared) (H : Hp) (C : Addr) (cl : List (Str × Addr)) (fp : List Addr), IsV mk ∧ IsV mv ∧ Subf flT fl2 ∧ Subf fl2 fl3 ∧ Subf fl3 fl4 := fun s H C cl fp => ⟨(hk s H C cl fp).isv, (he s H C cl fp).isv, (ht s H C cl fp).sub, (hk s H C cl fp).sub, (he s H C cl fp).sub⟩
  refine ⟨fun pins s σ H Q I h => ?_⟩
  obtain ⟨ik, iv, s1, s2, s3⟩ := e0 s H 0 [] []
  exact (ps_setDc hc nd hy hyl hsw hw ok (fun s H C cl fp => (hg s H C cl fp).run) (fun s H C cl fp => (ht s H C cl fp).run) (fun s H C cl fp => (hk s H C cl fp).run) (fun s H C cl fp => (he s H C cl fp).run) hs).run pins s σ H Q I
    (dcomp_imp hi.sub hq s1 s2 s3 ik iv w0 w3 w2 hv (fun i z => by
      have := List.all_eq_true.mp hro _ (List.mem_of_getElem? z)
      simp at this) hws how h)
theorem psd_setG (i : Nat) {iter kx vx : Expr} {ifs : List Expr} {scope : Scope} {it : I} {g : G} {mk mv : M} {ws : List Nat} {flT fl3 fl4 : List Fl} (own : List (Str × Nat)) (flH : List Fl) (nd : X.N.Nodup) (hi : PID X fl tg iter fl1 it)
    (hg : ∀ (s : Shared) (H : Hp) (C : Addr) (cl : List (Str × Addr)) (fp : List Addr), PGD (X.blk s H scope (compEnvC scope cl C X.env) fp) [] flH tg flT ws g)
    (ht : ∀ (s : Shared) (H : Hp) (C : Addr) (cl : List (Str × Addr)) (fp : List Addr), PTsD (X.blk s H scope (compEnvC scope cl C X.env) fp) flT ifs fl2 t)
    (hk : ∀ (s : Shared) (H : Hp) (C : Addr) (cl : List (Str × Addr)) (fp : List Addr), PED (X.blk s H scope (compEnvC scope cl C X.env) fp) fl2 kx fl3 mk)
    (he : ∀ (s : Shared) (H : Hp) (C : Addr) (cl : List (Str × Addr)) (fp : List Addr), PED (X.blk s H scope (compEnvC scope cl C X.env) fp) fl3 vx fl4 mv)
    (sb : Subf fl flH) (ho : i ∉ sg.ownp := by decide) (hl : i < flH.length := by decide)
    (hy : X.N[i]? = some y := by rfl) (hyl : X.env.scope.names.lookup y = some .local := by rfl) (hsw : swapsWith (.DictComp kx vx [⟨tg, iter, ifs, 0⟩] scope pos) (some (.Name y py)) spos.line X.env = pure true := by exact sw_dict rfl rfl rfl rfl)
    (ok : BlkOk X.N X.env.scope scope own := by exact blkOk_by (by kernel_rfl))
    (w0 : wkB fl1 flH = true := by rfl) (w2 : wkB fl2 flH = true := by rfl) (w3 : wkB fl4 flH = true := by rfl) (hv : ∀ j ∈ own.map (·.2), flH[j]? = some .sh := by decide) (hro : flH.all (fun f => decide (f ≠ .ro)) = true := by rfl) (hws : ∀ j ∈ ws, j ∈ own.map (·.2) := by decide) (how : owChk flT flH (own.map (·.2)) = true := by rfl)
    (hc : X.calm = true := by rfl) (hs : ∀ x, foldedSetIterable iter X.env x = pure x := by intro _; rfl) :
    PSD X sg fl (.Assign [.Name y py] (.DictComp kx vx [⟨tg, iter, ifs, 0⟩] scope pos) spos) (flH.set i .ow) (sSet i (eDcomp it g t mk mv (own.map (·.2)))) :=
  ⟨(run_setG own flH nd hi hg ht hk he hy hyl hsw ok w0 w2 w3 hv hro hws how hc hs).imp fun D σ H ⟨Γ, ε, O, w, ε', r, em, k⟩ => by
  simp only [sSet, Option.bind_eq_some_iff] at em
  obtain ⟨⟨d, ε1⟩, e1, em⟩ := em
  cases em
  refine ⟨ε, O, d, ε1, r.rel, isv_dcomp.val e1, fun p H' O' r' s o t ap n => ?_⟩
  refine k _ _ _ ((r.step r' s sb).setOw o t ap hl ?_ ho)
  rcases n with n | n
  · exact .inr (r.dom p n)
  · exact r.hit p n⟩
theorem psd_setGS (i : Nat) {iter kx vx : Expr} {ifs : List Expr} {scope : Scope} {it : I} {g : G} {mk mv : M} {ws : List Nat} {flT fl3 fl4 : List Fl} (own : List (Str × Nat)) (flH : List Fl) (nd : X.N.Nodup) (hi : PID X fl tg iter fl1 it)
    (hg : ∀ (s : Shared) (H : Hp) (C : Addr) (cl : List (Str × Addr)) (fp : List Addr), PGD (X.blk s H scope (compEnvC scope cl C X.env) fp) [] flH tg flT ws g)
    (ht : ∀ (s : Shared) (H : Hp) (C : Addr) (cl : List (Str × Addr)) (fp : List Addr), PTsD (X.blk s H scope (compEnvC scope cl C X.env) fp) flT ifs fl2 t)
    (hk : ∀ (s : Shared) (H : Hp) (C : Addr) (cl : List (Str × Addr)) (fp : List Addr), PED (X.blk s H scope (compEnvC scope cl C X.env) fp) fl2 kx fl3 mk)
    (he : ∀ (s : Shared) (H : Hp) (C : Addr) (cl : List (Str × Addr)) (fp : List Addr), PED (X.blk s H scope (compEnvC scope cl C X.env) fp) fl3 vx fl4 mv)
    (sb : Subf fl flH) (ho : i ∉ sg.ownp := by decide)
    (hy : X.N[i]? = some y := by rfl) (hyl : X.env.scope.names.lookup y = some .local := by rfl) (hsw : swapsWith (.DictComp kx vx [⟨tg, iter, ifs, 0⟩] scope pos) (some (.Name y py)) spos.line X.env = pure true := by exact sw_dict rfl rfl rfl rfl)
    (ok : BlkOk X.N X.env.scope scope own := by exact blkOk_by (by kernel_rfl))
    (w0 : wkB fl1 flH = true := by rfl) (w2 : wkB fl2 flH = true := by rfl) (w3 : wkB fl4 flH = true := by rfl) (hv : ∀ j ∈ own.map (·.2), flH[j]? = some .sh := by decide) (hro : flH.all (fun f => decide (f ≠ .ro)) = true := by rfl) (hws : ∀ j ∈ ws, j ∈ own.map (·.2) := by decide) (how : owChk flT flH (own.map (·.2)) = true := by rfl)
    (hc : X.calm = true := by rfl) (hs : ∀ x, foldedSetIterable iter X.env x = pure x := by intro _; rfl) :
    PSD X sg fl (.Assign [.Name y py] (.DictComp kx vx [⟨tg, iter, ifs, 0⟩] scope pos) spos) (flH.set i .sh) (sSet i (eDcomp it g t mk mv (own.map (·.2)))) :=
  ⟨(run_setG own flH nd hi hg ht hk he hy hyl hsw ok w0 w2 w3 hv hro hws how hc hs).imp fun D σ H ⟨Γ, ε, O, w, ε', r, em, k⟩ => by
  simp only [sSet, Option.bind_eq_some_iff] at em
  obtain ⟨⟨d, ε1⟩, e1, em⟩ := em
  cases em
  refine ⟨ε, O, d, ε1, r.rel, isv_dcomp.val e1, fun p H' O' r' s o t ap n => ?_⟩
  obtain ⟨r2, q⟩ := r'.let ap t
  have s2 : Step fl σ O H (fun b => O' b ∧ b ≠ p) H' := ⟨s.keep, s.dom, fun b h => s.new b h.1, fun b h nh => ⟨s.old b h nh, fun z => by
    subst z
    rcases n with n | n
    · exact r.rel.dom _ h n
    · exact nh n⟩⟩
  exact k _ _ _ ((r.step r2 s2 sb).setSh q ho)⟩
end
/-! evaluation -/
def dicF {α : Type} (kf : α → DKey) (vf : α → D) (xs : List α) : List DKey × List D := xs.foldl (fun a x => dkPut a.1 a.2 (kf x) (vf x)) ([], [])
theorem dkPut_len (ks : List DKey) (ds : List D) (k : DKey) (d : D) : (dkPut ks ds k d).1.length ≤ ks.length + 1 := by
  unfold dkPut; split <;> simp
theorem dkPut_eq {ks : List DKey} {ds : List D} {k : DKey} {d : D} (h : ks.length = ds.length) : (dkPut ks ds k d).1.length = (dkPut ks ds k d).2.length := by
  unfold dkPut; split <;> simp [h]
theorem dkPut_mem {ks : List DKey} {ds : List D} {k j : DKey} {d : D} : j ∈ (dkPut ks ds k d).1 ↔ j ∈ ks ∨ j = k := by
  unfold dkPut
  split
  · rename_i h
    exact ⟨.inl, fun q => q.elim id fun e => e ▸ h⟩
  · simp
theorem dicF_take {α : Type} (kf : α → DKey) (vf : α → D) {xs : List α} {i : Nat} {x : α} (h : xs[i]? = some x) : dicF kf vf (xs.take (i + 1)) = dkPut (dicF kf vf (xs.take i)).1 (dicF kf vf (xs.take i)).2 (kf x) (vf x) := by
  unfold dicF
  rw [List.take_succ, h, Option.toList_some, List.foldl_append]; rfl
theorem dicF_ok {α : Type} (kf : α → DKey) (vf : α → D) (xs : List α) : ∀ i, (dicF kf vf (xs.take i)).1.length ≤ i ∧ (dicF kf vf (xs.take i)).1.length = (dicF kf vf (xs.take i)).2.length ∧ ∀ j, j ∈ (dicF kf vf (xs.take i)).1 ↔ ∃ x ∈ xs.take i, j = kf x
  | 0 => ⟨Nat.le_refl _, rfl, fun j => by simp [dicF]⟩
  | i + 1 => by
    obtain ⟨h1, h2, h3⟩ := dicF_ok kf vf xs i
    by_cases hi : i < xs.length
    · have hx : xs[i]? = some xs[i] := List.getElem?_eq_getElem hi
      rw [dicF_take kf vf hx]
      refine ⟨Nat.le_trans (dkPut_len ..) (by omega), dkPut_eq h2, fun j => ?_⟩
      rw [dkPut_mem, h3, List.take_succ, hx, Option.toList_some]
      simp only [List.mem_append, List.mem_singleton]
      constructor
      · rintro (⟨x, a, b⟩ | b)
        · exact ⟨x, .inl a, b⟩
        · exact ⟨_, .inr rfl, b⟩
      · rintro ⟨x, a | a, b⟩
        · exact .inl ⟨x, a, b⟩
        · exact .inr (a ▸ b)
    · have e : xs.take (i + 1) = xs.take i := by rw [List.take_of_length_le (by omega), List.take_of_length_le (by omega)]
      rw [e]
      exact ⟨by omega, h2, h3⟩
theorem dicF_all {α : Type} (kf : α → DKey) (vf : α → D) (xs : List α) : (dicF kf vf xs).1.length ≤ xs.length ∧ (dicF kf vf xs).1.length = (dicF kf vf xs).2.length ∧ ∀ j, j ∈ (dicF kf vf xs).1 ↔ ∃ x ∈ xs, j = kf x := by
  have := dicF_ok kf vf xs xs.length
  rw [List.take_length] at this
  exact this
theorem wp_dcomp {α : Type} {it : I} {g : G} {t : T} {ek ev : M} {vs : List Nat} {ε : Slots} {Qp : Opd → Slots → Prop} (xs : List α) (u : α → D) (kf : α → DKey) (vf : α → D)
    (hh : wpI it ε fun ds ε1 => ds = xs.map u ∧ xs.length ≤ 16777216 ∧ (∀ x ∈ xs, ∃ ε2, g (u x) (wipeE ε1 vs) = some ε2 ∧ wpT t ε2 fun b ε3 => b = true ∧ wpV ek ε3 fun y ε4 => kOf y = some (kf x) ∧ wpV ev ε4 fun z ε5 => z = vf x ∧ wipeE ε5 vs = wipeE ε1 vs) ∧
      Qp (.val (.dic false (dicF kf vf xs).1 (dicF kf vf xs).2)) (backE ε1 (wipeE ε1 vs) vs)) : wpM (eDcomp it g t ek ev vs) ε Qp := by
  obtain ⟨ds, ε1, e1, rfl, h1, h2, h3⟩ := hh
  have gen : ∀ (n i : Nat), n + i = xs.length → dcompL g t ek ev vs ((xs.drop i).map u) (dicF kf vf (xs.take i)) (wipeE ε1 vs) = some (dicF kf vf xs, wipeE ε1 vs) := by
    intro n
    induction n with
    | zero =>
      intro i hi
      rw [List.drop_eq_nil_of_le (by omega), List.take_of_length_le (by omega)]
      rfl
    | succ n ih =>
      intro i hi
      have hx : xs[i]? = some xs[i] := List.getElem?_eq_getElem (by omega)
      have hd : xs.drop i = xs[i] :: xs.drop (i + 1) := List.drop_eq_getElem_cons (by omega)
      obtain ⟨ε2, q1, b, ε3, q2, rfl, y, ε4, q3, y2, q6, q7, z, ε5, q8, z2, q9, q10, q11⟩ := h2 _ (List.mem_of_getElem? hx)
      have l := (dicF_ok kf vf xs i).1
      have v1 : val ek ε3 = some (y2, ε4) := by simp only [val, q3, Option.bind_some, q6]
      have v2 : val ev ε4 = some (z2, ε5) := by simp only [val, q8, Option.bind_some, q9]
      rw [hd, List.map_cons, dcompL]
      simp only [q1, q2, v1, v2, q7, Option.bind_some, if_true]
      rw [if_pos (by omega), q10, q11, ← dicF_take kf vf hx]
      exact ih (i + 1) (by omega)
  have := gen xs.length 0 (by omega)
  rw [List.drop_zero] at this
  refine ⟨_, _, ?_, h3⟩
  simp only [eDcomp, e1, Option.bind_some]
  rw [show dcompL g t ek ev vs (xs.map u) ([], []) (wipeE ε1 vs) = some (dicF kf vf xs, wipeE ε1 vs) from this]
  rfl
/-- is the number among the keys -/
theorem in_dicF {α : Type} (kf : α → Int) (vf : α → D) (xs : List α) (n : Int) : dInD (.int n) (.dic false (dicF (fun x => .k (.i (kf x))) vf xs).1 (dicF (fun x => .k (.i (kf x))) vf xs).2) = some (.bl (decide (n ∈ xs.map kf))) := by
  obtain ⟨_, h2, h3⟩ := dicF_all (fun x => DKey.k (.i (kf x))) vf xs
  simp only [dInD, kOf, Option.bind_some]
  rw [get_some h2]
  have : DKey.k (.i n) ∈ (dicF (fun x => DKey.k (.i (kf x))) vf xs).1 ↔ n ∈ xs.map kf := by
    rw [h3, List.mem_map]
    constructor
    · rintro ⟨x, a, b⟩
      cases b
      exact ⟨x, a, rfl⟩
    · rintro ⟨x, a, rfl⟩
      exact ⟨x, a, rfl⟩
  simp only [this]
end L2.VS

/-! sorted(xs) of plain data that are alike (tuples, lists, ..) -/
namespace L2.VS
open PySem PySem.Spec PyProof.Rows PySem.W
/-- sorted(xs): what the values read as -/
def rSortedX (K : PySem.W.Frag) : List V → Hp → VK → Prop := fun vs H Q => ∃ (a : Addr) (ps : List (V × PyData)), vs = [.ref a] ∧ SqL K H a (ps.map (·.1)) ∧ (∀ p ∈ ps, Dp K H p.1 p.2 ∧ p.2.depth ≤ 60) ∧ AllAlike (ps.map (·.2)) ∧ Sortable (ps.map (·.2)) ∧
  ∀ p, H p = none → Q (.ref p) (upd H p (.lst ((ps.mergeSort (dataLe false (·.2))).map (·.1))))
theorem each_vals {α : Type} (f : α → V) : ∀ {us : List Value} {bs : List α}, EachIs (fun u b => RelV (f b) u) us bs → Vals (bs.map f) us
  | [], [], _ => .nil
  | [], _ :: _, h => by cases h
  | _ :: _, [], h => by cases h
  | _ :: _, _ :: _, h => by
    cases h with
    | cons h1 t => exact .cons h1 (each_vals f t)
theorem vals_each {α : Type} (f : α → V) : ∀ {us : List Value} {bs : List α}, Vals (bs.map f) us → EachIs (fun u b => RelV (f b) u) us bs
  | [], [], _ => .nil
  | [], _ :: _, h => by cases h
  | _ :: _, [], h => by cases h
  | _ :: _, _ :: _, h => by
    cases h with
    | cons h1 t => exact .cons h1 (vals_each f t)
section
variable {X : Cx}
theorem cr_sortedX (hu : X.A.units + 65 < cLine) : CallR X (.builtin "sorted") (rSortedX X.K) := by
  intro pins s σ H vs us Q I r h
  obtain ⟨a, ps, rfl, hs, hd, hal, hsk, q⟩ := h
  obtain ⟨its, rv, hl, hz⟩ := I.list hs
  rw [Vals.ref1 r]
  have hR : EachIs (fun u (b : V × PyData) => RelV b.1 u) its ps := vals_each (fun b : V × PyData => b.1) rv
  have hlen : its.length ≤ sizeLine := by rw [← rv.length]; exact hz
  have reads : EachIs (fun u d => ∃ as, Reads (sortingHeap (copyHeap s.heap its) (s.heap.objs.size + 1) its) u d as) its (ps.map (·.2)) := by
    have key : ∀ {us : List Value} {bs : List (V × PyData)}, EachIs (fun u (b : V × PyData) => RelV b.1 u) us bs → (∀ p ∈ bs, Dp X.K H p.1 p.2 ∧ p.2.depth ≤ 60) → EachIs (fun u d => ∃ as, Reads (sortingHeap (copyHeap s.heap its) (s.heap.objs.size + 1) its) u d as) us (bs.map (·.2)) := by
      intro us bs h
      induction h with
      | nil => intro _; exact .nil
      | @cons u b us bs h1 t ih =>
        intro hd
        refine .cons ?_ (ih fun p hp => hd p (List.mem_cons_of_mem _ hp))
        obtain ⟨as, ra⟩ := Dp.reads I b.2 b.1 u (hd b (List.mem_cons_self ..)).1 h1
        exact ⟨as, Reads.keeps (fun c o e => sorting_copy_old e) ra⟩
    exact key hR hd
  have S := SortsAt.data (prog := X.prog) (w := X.w) (A := X.A.in1.in1) (s := { s with heap := sortingHeap (copyHeap s.heap its) (s.heap.objs.size + 1) its }) reads hal hsk fun d hd' => by
    obtain ⟨p, hp, rfl⟩ := List.mem_map.mp hd'
    have := (hd p hp).2
    show X.A.units + 1 + 1 + p.2.depth < cLine
    omega
  refine sorted_vals hl.isList S hlen ?_
  have ko : KeyedOut false (ps.map (·.2)) its _ := ⟨_, its, hal, rfl, reads⟩
  have out := each_vals (fun b : V × PyData => b.1) (keyedOut_each (R := fun u (b : V × PyData) => RelV b.1 u) (·.2) ko hR)
  generalize sortVals (dataKind (sortingHeap (copyHeap s.heap its) (s.heap.objs.size + 1) its) (ps.map (·.2))) false its its = zs at *
  obtain ⟨ep, he'⟩ := PyProof.Rows.sortedAll_at s.heap its zs.toArray
  have hl2 : ((ps.mergeSort (dataLe false (·.2))).map (·.1)).length ≤ sizeLine := by
    rw [List.length_map, List.length_mergeSort]
    rwa [List.length_map] at hz
  exact ⟨.ref _, upd H (s.heap.objs.size + 1) (.lst ((ps.mergeSort (dataLe false (·.2))).map (·.1))), I.laid (t' := s.toks) (fun _ _ => PyProof.Rows.sortedAll_old) (Nat.le_succ _) ⟨hl2, zs, ep, out, he'⟩, rfl, q _ (I.hok.fresh (Nat.le_succ _))⟩
end
/-- tuples, all with an item; or no tuples and no None -/
def isTup1 : D → Bool
  | .tup (_ :: _) => true
  | _ => false
def notTup : D → Bool
  | .non => false
  | .tup _ => false
  | _ => true
def sortOk (ds : List D) : Bool := (ds.all fun x => ds.all fun y => alike (toPy x) (toPy y)) && (ds.all isTup1 || ds.all notTup) && canEqs ds 58
/-- the sorted list -/
def srt (ds : List D) : List D := ds.mergeSort (dataLe false toPy)
def dSortX (d : D) : Option D := match d with
  | .lst ds => if sortOk ds = true then some (.lst (srt ds)) else none
  | .fz ds => if sortOk ds = true then some (.lst (srt ds)) else none
  | _ => none
theorem toPys_map : ∀ ds : List D, toPys ds = ds.map toPy
  | [] => rfl
  | d :: ds => by rw [toPys, List.map_cons, toPys_map ds]
section
variable {KF : PySem.W.Frag} {H H' : Hp} {O O' : Addr → Prop}
theorem reps_zip : ∀ {vs : List V} {ds : List D}, Reps KF H O vs ds → ∀ p ∈ vs.zip ds, Rep KF H O p.1 p.2
  | [], _, _, p, hp => by simp at hp
  | _ :: _, [], _, p, hp => by simp at hp
  | v :: vs, d :: ds, h, p, hp => by
    simp only [Reps] at h
    rw [List.zip_cons_cons] at hp
    rcases List.mem_cons.mp hp with e | hp
    · subst e; exact h.1
    · exact reps_zip h.2 p hp
theorem reps_of : ∀ {zs : List (V × D)}, (∀ p ∈ zs, Rep KF H O p.1 p.2) → Reps KF H O (zs.map (·.1)) (zs.map (·.2))
  | [], _ => by simp [Reps]
  | z :: zs, h => by
    simp only [List.map_cons, Reps]
    exact ⟨h z (List.mem_cons_self ..), reps_of fun p hp => h p (List.mem_cons_of_mem _ hp)⟩
theorem canEqs_mem : ∀ {ds : List D} {n : Nat}, canEqs ds n = true → ∀ d ∈ ds, canEq d n = true
  | [], _, _, d, hd => by simp at hd
  | x :: ds, n, h, d, hd => by
    simp only [canEqs, Bool.and_eq_true] at h
    rcases List.mem_cons.mp hd with e | hd
    · subst e; exact h.1
    · exact canEqs_mem h.2 d hd
theorem sort_rep {ds : List D} {vs : List V} {a : Addr} {Q : VK} (ok : sortOk ds = true) (w : Reps KF H O vs ds) (q : SqL KF H a vs) (k : ∀ p H', H p = none → Same H H' → Top KF H' (fun b => O b ∨ b = p) p (.lst (srt ds)) → Q (.ref p) H') : rSortedX KF [.ref a] H Q := by
  unfold sortOk at ok
  simp only [Bool.and_eq_true, List.all_eq_true, Bool.or_eq_true] at ok
  obtain ⟨⟨h1, h2⟩, h3⟩ := ok
  have hl := w.length
  have m1 : (vs.zip ds).map (·.1) = vs := List.map_fst_zip (by omega)
  have m2 : (vs.zip ds).map (·.2) = ds := List.map_snd_zip (by omega)
  have e1 : ((vs.zip ds).map fun p : V × D => (p.1, toPy p.2)).map (·.1) = vs := by rw [List.map_map]; exact m1
  have e2 : ((vs.zip ds).map fun p : V × D => (p.1, toPy p.2)).map (·.2) = ds.map toPy := by rw [List.map_map, ← m2, List.map_map, m2]; rfl
  refine ⟨a, (vs.zip ds).map fun p => (p.1, toPy p.2), rfl, by rw [e1]; exact q, fun p hp => ?_, ?_, ?_, fun p hp => ?_⟩
  · obtain ⟨z, hz, rfl⟩ := List.mem_map.mp hp
    have hd : z.2 ∈ ds := by rw [← m2]; exact List.mem_map.mpr ⟨z, hz, rfl⟩
    obtain ⟨_, b2, b3⟩ := canEq_ok z.2 58 z.1 (canEqs_mem h3 _ hd) (reps_zip w z hz)
    exact ⟨b3, by show (toPy z.2).depth ≤ 60; omega⟩
  · rw [e2]
    intro d hd d' hd'
    obtain ⟨x, hx, rfl⟩ := List.mem_map.mp hd
    obtain ⟨y, hy, rfl⟩ := List.mem_map.mp hd'
    exact h1 x hx y hy
  · rw [e2]
    rcases h2 with h2 | h2
    · left
      intro d hd
      obtain ⟨x, hx, rfl⟩ := List.mem_map.mp hd
      have := h2 x hx
      unfold isTup1 at this
      split at this
      · simp only [toPy, toPys]
        exact ⟨_, _, rfl⟩
      · cases this
    · right
      intro d hd
      obtain ⟨x, hx, rfl⟩ := List.mem_map.mp hd
      have := h2 x hx
      cases x <;> simp [notTup] at this <;> simp [toPy]
  · have e3 : ((vs.zip ds).map fun p : V × D => (p.1, toPy p.2)).mergeSort (dataLe false (·.2)) = ((vs.zip ds).mergeSort (dataLe false fun p : V × D => toPy p.2)).map fun p => (p.1, toPy p.2) := (List.map_mergeSort (r := dataLe false fun p : V × D => toPy p.2) (s := dataLe false (fun p : V × PyData => p.2)) (f := fun p : V × D => (p.1, toPy p.2)) (l := vs.zip ds) (fun a _ b _ => rfl)).symm
    have e4 : ((vs.zip ds).mergeSort (dataLe false fun p : V × D => toPy p.2)).map (·.2) = srt ds := by
      have := List.map_mergeSort (r := dataLe false fun p : V × D => toPy p.2) (s := dataLe false toPy) (f := fun p : V × D => p.2) (l := vs.zip ds) (fun a _ b _ => rfl)
      rw [m2] at this
      exact this
    rw [e3, List.map_map]
    refine k p _ hp (same_upd hp) ?_
    refine top_lst hp ?_
    rw [← e4]
    exact reps_of fun z hz => reps_zip w z (List.mem_mergeSort.mp hz)
end
section
variable {fl fl1 : List Fl} {X : Cx} {a : Expr} {ma : M} {pos p : Pos}
theorem pfd_sortX (hu : X.A.units + 65 < cLine) (ha : POD X fl a fl1 ma) (hm : X.mg "sorted" = none) (hg : Gl X "sorted" := by rfl) (na : NoStar a := by intro _ _; rfl) : PFD X fl (.Call (.Name "sorted" p) [a] [] pos) fl1 (e1 dSortX ma) :=
  pfd_b1 (cr_sortedX hu) boot_sorted (fun v d z H O Q dm hv ef k => by
    cases d <;> simp only [dSortX] at ef <;> try (cases ef; done)
    · split at ef
      · rename_i ok
        cases ef
        obtain ⟨a, vs, e1, q, w⟩ := repR_lst hv
        rw [e1]
        exact sort_rep ok w (.inl (.inl q)) k
      · cases ef
    · split at ef
      · rename_i ok
        cases ef
        obtain ⟨a, vs, e1, q, w⟩ := repR_fz hv
        rw [e1]
        exact sort_rep ok w q k
      · cases ef) ha hm hg na (by decide) (by decide)
end
end L2.VS

/-! a < b < c < d; xs.index(y); texts' count. -/
namespace L2.VS
open PySem PySem.Spec PyProof.Rows
section
variable {X : Cx} {a b c d e o : Expr} {pos p apos : Pos} {fl fl1 fl2 : List Fl} {ma mb mc md mo me : M} {ta tb tc td : TE} {op op' op'' : CmpOp} {r r' r'' : R2}
def tChain3 (r r' r'' : R2) (ta tb tc td : TE) : TE := fun σ H Q => ta σ H fun x H1 => tb σ H1 fun y H2 => r x y H2 fun z H3 => ∃ k, z = .bl k ∧
  (if k = true then tc σ H3 fun w H4 => r' y w H4 fun z' H5 => ∃ k', z' = .bl k' ∧ (if k' = true then td σ H5 fun u H6 => r'' w u H6 Q else Q (.bl false) H5) else Q (.bl false) H3)
theorem pe_chain3 (ho : OpR X (compareOp op) r) (ho' : OpR X (compareOp op') r') (ho'' : OpR X (compareOp op'') r'') (ha : PE X a ta) (hb : PE X b tb) (hc : PE X c tc) (hd : PE X d td)
    (hm : lastMarks [op, op', op''] [b, c, d] = false := by with_unfolding_all rfl) : PE X (.Compare a [op, op', op''] [b, c, d] pos) (tChain3 r r' r'' ta tb tc td) := by
  refine ⟨fun pins s σ H Q I h => ?_⟩
  refine Compare_chain (thn (ha.run pins s σ H _ I h) fun v s1 ⟨x, H1, I1, r1, q1⟩ => chain_link (thn (hb.run pins s1 σ H1 _ I1 q1) fun u s2 ⟨y, H2, I2, r2, q2⟩ =>
    thn (ho pins s2 σ H2 x y v u _ I2 r1 r2 q2) fun d s3 ⟨z, H3, I3, r3, k, e, q3⟩ => ?_)) hm
  subst e
  cases r3
  refine wpAny_truthy_bool ?_
  cases k with
  | false => exact ite_ff ⟨.bl false, H3, I3, rfl, q3⟩
  | true =>
    refine ite_tt (chain_link (thn (hc.run pins s3 σ H3 _ I3 q3) fun w' s4 ⟨z', H4, I4, r4, q4⟩ => thn (ho' pins s4 σ H4 y z' u w' _ I4 r2 r4 q4) fun d s5 ⟨z, H5, I5, r5, k, e, q5⟩ => ?_))
    subst e
    cases r5
    refine wpAny_truthy_bool ?_
    cases k with
    | false => exact ite_ff ⟨.bl false, H5, I5, rfl, q5⟩
    | true => exact ite_tt (chain_last (thn (hd.run pins s5 σ H5 _ I5 q5) fun w2 s6 ⟨z2, H6, I6, r6, q6⟩ => ho'' pins s6 σ H6 z' z2 w' w2 Q I6 r4 r6 q6))
theorem pt_chain3 (ho : OpR X (compareOp op) r) (ho' : OpR X (compareOp op') r') (ho'' : OpR X (compareOp op'') r'') (ha : PE X a ta) (hb : PE X b tb) (hc : PE X c tc) (hd : PE X d td)
    (hm : lastMarks [op, op', op''] [b, c, d] = false := by with_unfolding_all rfl) : PT X (.Compare a [op, op', op''] [b, c, d] pos) (tTest (tChain3 r r' r'' ta tb tc td)) := by
  refine ⟨fun pins s σ H Q I h => ?_⟩
  refine isTrue_chain (thn (ha.run pins s σ H _ I h) fun v s1 ⟨x, H1, I1, r1, q1⟩ => test_link (thn (hb.run pins s1 σ H1 _ I1 q1) fun u s2 ⟨y, H2, I2, r2, q2⟩ =>
    thn (ho pins s2 σ H2 x y v u _ I2 r1 r2 q2) fun d s3 ⟨z, H3, I3, r3, k, e, q3⟩ => ?_)) hm
  subst e
  cases r3
  refine wpAny_truthy_bool ?_
  cases k with
  | false =>
    obtain ⟨k', e', q'⟩ := q3
    cases e'
    exact ite_ff ⟨H3, I3, q'⟩
  | true =>
    refine ite_tt (test_link (thn (hc.run pins s3 σ H3 _ I3 q3) fun w' s4 ⟨z', H4, I4, r4, q4⟩ => thn (ho' pins s4 σ H4 y z' u w' _ I4 r2 r4 q4) fun d s5 ⟨z, H5, I5, r5, k, e, q5⟩ => ?_))
    subst e
    cases r5
    refine wpAny_truthy_bool ?_
    cases k with
    | false =>
      obtain ⟨k', e', q'⟩ := q5
      cases e'
      exact ite_ff ⟨H5, I5, q'⟩
    | true =>
      refine ite_tt (test_last (thn (hd.run pins s5 σ H5 _ I5 q5) fun w2 s6 ⟨z2, H6, I6, r6, q6⟩ => thn (ho'' pins s6 σ H6 z' z2 w' w2 _ I6 r4 r6 q6) fun d' s7 ⟨z3, H7, I7, r7, k2, e2, q7⟩ => ?_))
      subst e2
      cases r7
      exact wpAny_truthy_bool ⟨H7, I7, q7⟩
/-- a < b < c < d -/
def eChain3 (f g h : D → D → Option D) (a b c d : M) : M := fun ε => (val a ε).bind fun p => (val b p.2).bind fun q => (f p.1 q.1).bind fun z => (asB z).bind fun t => if t = true then
  (val c q.2).bind fun r => (g q.1 r.1).bind fun z' => (asB z').bind fun t' => if t' = true then (val d r.2).bind fun s => (h r.1 s.1).bind fun z2 => some (.val z2, s.2) else some (.val (.bl false), r.2)
  else some (.val (.bl false), q.2)
theorem isv_chain3 {f g h : D → D → Option D} : IsV (eChain3 f g h ma mb mc md) := fun ε o ε' e => by
  simp only [eChain3, Option.bind_eq_some_iff] at e
  obtain ⟨_, _, _, _, _, _, t, _, e⟩ := e
  split at e
  · simp only [Option.bind_eq_some_iff] at e
    obtain ⟨_, _, _, _, t', _, e⟩ := e
    split at e
    · simp only [Option.bind_eq_some_iff] at e
      obtain ⟨_, _, _, _, e⟩ := e
      cases e; exact ⟨_, rfl⟩
    · cases e; exact ⟨_, rfl⟩
  · cases e; exact ⟨_, rfl⟩
theorem chain3_imp {KF : PySem.W.Frag} {f g h : D → D → Option D} (iva : IsV ma) (ivb : IsV mb) (ivc : IsV mc) (ivd : IsV md)
    (hr : ∀ v u d e z H O Q, Dom H O → RepR KF H O v d → RepR KF H O u e → f d e = some z → (∃ k, z = .bl k) ∧ ((∀ v' H', Same H H' → Rep KF H' O v' z → Q v' H') → r v u H Q))
    (hr' : ∀ v u d e z H O Q, Dom H O → RepR KF H O v d → RepR KF H O u e → g d e = some z → (∃ k, z = .bl k) ∧ ((∀ v' H', Same H H' → Rep KF H' O v' z → Q v' H') → r' v u H Q))
    (hr'' : ∀ v u d e z H O Q, Dom H O → RepR KF H O v d → RepR KF H O u e → h d e = some z → (∃ k, z = .bl k) ∧ ((∀ v' H', Same H H' → Rep KF H' O v' z → Q v' H') → r'' v u H Q)) {σ : St} {H : Hp} {Q : VK}
    (hh : tD KF fl fl (eChain3 f g h ma mb mc md) σ H Q) : tChain3 r r' r'' (tD KF fl fl ma) (tD KF fl fl mb) (tD KF fl fl mc) (tD KF fl fl md) σ H Q := by
  obtain ⟨ε, O, dz, ε', r0, em, k⟩ := hh
  simp only [eChain3, Option.bind_eq_some_iff] at em
  obtain ⟨⟨x, ε1⟩, e1, ⟨y, ε2⟩, e2, z, ef, t, ht, em⟩ := em
  refine ⟨ε, O, x, ε1, r0, iva.val e1, fun v H1 O1 r1 s1 w1 => ⟨ε1, O1, y, ε2, r1, ivb.val e2, fun u H2 O2 r2 s2 w2 => ?_⟩⟩
  obtain ⟨_, hk⟩ := hr v u x y z H2 O2 (fun z H3 => ∃ k, z = .bl k ∧ (if k = true then tD KF fl fl mc σ H3 (fun w H4 => r' u w H4 fun z' H5 => ∃ k', z' = .bl k' ∧ (if k' = true then tD KF fl fl md σ H5 (fun u' H6 => r'' w u' H6 Q) else Q (.bl false) H5)) else Q (.bl false) H3)) r2.dom (.inl (w1.stay (s2.stay r1))) (.inl w2) ef
  have := asB_eq.mpr ht
  subst this
  refine hk fun v' H3 sm w3 => ?_
  simp only [Rep] at w3
  refine ⟨t, w3, ?_⟩
  have r3 := r2.same sm
  have s3 := (s1.trans s2 Subf.refl).trans (Step.same (fl := fl) sm) Subf.refl
  have wu := w2.stay (Stay.same sm)
  cases t with
  | false =>
    refine iteF ?_
    rw [if_neg Bool.false_ne_true] at em
    cases em
    exact k _ H3 O2 r3 s3 rep_bl
  | true =>
    refine iteT ?_
    rw [if_pos rfl] at em
    simp only [Option.bind_eq_some_iff] at em
    obtain ⟨⟨w, ε3⟩, e3, z', eg, t', ht', em⟩ := em
    refine ⟨ε2, O2, w, ε3, r3, ivc.val e3, fun v4 H4 O4 r4 s4 w4 => ?_⟩
    obtain ⟨_, hk'⟩ := hr' u v4 y w z' H4 O4 (fun z' H5 => ∃ k', z' = .bl k' ∧ (if k' = true then tD KF fl fl md σ H5 (fun u' H6 => r'' v4 u' H6 Q) else Q (.bl false) H5)) r4.dom (.inl (wu.stay (s4.stay r3))) (.inl w4) eg
    have := asB_eq.mpr ht'
    subst this
    refine hk' fun v'' H5 sm5 w5 => ?_
    simp only [Rep] at w5
    refine ⟨t', w5, ?_⟩
    have r5 := r4.same sm5
    have s5 := (s3.trans s4 Subf.refl).trans (Step.same (fl := fl) sm5) Subf.refl
    cases t' with
    | false =>
      refine iteF ?_
      rw [if_neg Bool.false_ne_true] at em
      cases em
      exact k _ H5 O4 r5 s5 rep_bl
    | true =>
      refine iteT ?_
      rw [if_pos rfl] at em
      simp only [Option.bind_eq_some_iff] at em
      obtain ⟨⟨u6, ε4⟩, e4, z2, eh, em⟩ := em
      cases em
      refine ⟨ε3, O4, u6, _, r5, ivd.val e4, fun v6 H6 O6 r6 s6 w6 => ?_⟩
      exact (hr'' v4 v6 w u6 _ H6 O6 Q r6.dom (.inl ((w4.stay (Stay.same sm5)).stay (s6.stay r5))) (.inl w6) eh).2 fun v7 H7 sm7 w7 => k v7 H7 O6 (r6.same sm7) ((s5.trans s6 Subf.refl).trans (Step.same (fl := fl) sm7) Subf.refl) w7
theorem ped_chain3 {f g h : D → D → Option D} (hf : CmpD X op f) (hg : CmpD X op' g) (hh : CmpD X op'' h) (ha : PED X fl a fl ma) (hb : PED X fl b fl mb) (hc : PED X fl c fl mc) (hd : PED X fl d fl md) (hm : lastMarks [op, op', op''] [b, c, d] = false := by with_unfolding_all rfl) :
    PED X fl (.Compare a [op, op', op''] [b, c, d] pos) fl (eChain3 f g h ma mb mc md) := by
  obtain ⟨r, ho, hr⟩ := hf.ex
  obtain ⟨r', ho', hr'⟩ := hg.ex
  obtain ⟨r'', ho'', hr''⟩ := hh.ex
  exact ⟨isv_chain3, Subf.refl, (pe_chain3 ho ho' ho'' ha.run hb.run hc.run hd.run hm).imp fun σ H Q h => chain3_imp ha.isv hb.isv hc.isv hd.isv hr hr' hr'' h⟩
theorem ptd_chain3 {f g h : D → D → Option D} (hf : CmpD X op f) (hg : CmpD X op' g) (hh : CmpD X op'' h) (ha : PED X fl a fl ma) (hb : PED X fl b fl mb) (hc : PED X fl c fl mc) (hd : PED X fl d fl md) (hm : lastMarks [op, op', op''] [b, c, d] = false := by with_unfolding_all rfl) :
    PTD X fl (.Compare a [op, op', op''] [b, c, d] pos) fl (VS.tB (eChain3 f g h ma mb mc md)) := by
  obtain ⟨r, ho, hr⟩ := hf.ex
  obtain ⟨r', ho', hr'⟩ := hg.ex
  obtain ⟨r'', ho'', hr''⟩ := hh.ex
  exact ⟨Subf.refl, (pt_chain3 ho ho' ho'' ha.run hb.run hc.run hd.run hm).imp fun σ H Q h => chain3_imp ha.isv hb.isv hc.isv hd.isv hr hr' hr'' (tB_imp isv_chain3 h)⟩
/-- xs.index(y) -/
def dIndex (x y : D) : Option D := match x with
  | .lst ys => if (canEq y 60 && canEq x 60) = true then (ys.findIdx? fun z => deq z y).map fun j => .int (j : Nat) else none
  | .fz ys => if (canEq y 60 && canEq x 60) = true then (ys.findIdx? fun z => deq z y).map fun j => .int (j : Nat) else none
  | _ => none
theorem toPys_get : ∀ {ys : List D} {j : Nat}, (toPys ys)[j]? = ys[j]?.map toPy
  | [], j => by simp [toPys]
  | y :: ys, 0 => by simp [toPys]
  | y :: ys, j + 1 => by simp [toPys, toPys_get]
theorem ped_index (hu : X.A.units + 65 < cLine) (ho : PED X fl o fl1 mo) (he : PED X fl1 e fl2 me) (na : NoStar e := by intro _ _; rfl) (hbase : attributeBase o "index" X.env (eval o X.env) = eval o X.env := by rfl) (hline : (apos.endLine == p.line) = true := by rfl)
    (hfew : ((backTo p (starEach [e] X.env)).all (fun x => !x.1) && (backToKw p (keywordEach [] X.env)).all (fun x => x.1.isSome) && decide (([e] : List Expr).length + ([] : List Keyword).length + (if ([] : List Keyword).isEmpty then 0 else 1) < 30)) = true := by rfl)
    (hplain : (backTo p (starEach [] X.env)).any (·.1) = false := by rfl) :
    PED X fl (.Call (.Attribute o "index" apos) [e] [] p) fl2 (e2 dIndex mo me) :=
  ⟨isv_e2, ho.sub.trans he.sub, (pe_bm PySem.F.plainAttrs_list PySem.F.slot_list_index PySem.F.type_list_index (mt_indexD hu) ho.run (pa_cons he.run pa_nil (na _ _)) hbase hfew hline (na _ _) hplain).imp fun σ H Q ⟨ε, O, z, ε', r, em, k⟩ => by
    simp only [e2, Option.bind_eq_some_iff] at em
    obtain ⟨⟨o1, ε1⟩, e1, ⟨o2, ε2⟩, e2', x, g1, y, g2, z', ef, em⟩ := em
    cases em
    obtain ⟨d, rfl⟩ := ho.isv _ _ _ e1
    obtain ⟨d2, rfl⟩ := he.isv _ _ _ e2'
    cases g1
    cases g2
    have ty : ∀ {H1 O1 v}, Rep X.K H1 O1 v x → tyV X.K "list" v H1 := fun {H1 O1 v} w => by
      cases x with
      | lst ys =>
        simp only [Rep] at w
        obtain ⟨a, vs, e, n, q, ws⟩ := w
        subst e
        exact .inl ⟨rfl, vs, .of q⟩
      | fz ys =>
        simp only [Rep] at w
        obtain ⟨a, vs, e, q, ws⟩ := w
        subst e
        exact .inl ⟨rfl, vs, q.seq⟩
      | _ => cases ef
    refine ⟨ε, O, x, ε1, r, e1, fun v H1 O1 r1 s1 w => ⟨ty w, ε1, O1, y, ε2, r1, e2', fun u H2 O2 r2 s2 w2 => ?_⟩⟩
    have w' := w.stay (s2.stay r1)
    have key : ∀ ys : List D, toPy x = .list (toPys ys) → (canEq y 60 && canEq x 60) = true → (∃ a, v = .ref a) → ((ys.findIdx? fun z => deq z y).map fun j => D.int (j : Nat)) = some z → rIndexD X.K v [u] H2 Q := fun ys ey hc ⟨a, ea⟩ ef => by
      rw [Bool.and_eq_true] at hc
      obtain ⟨s1', p1⟩ := canEq_dp (by omega) hc.1 (.inl w2)
      obtain ⟨s2', p2⟩ := canEq_dp (by omega) hc.2 (.inl w')
      rw [ey] at s2' p2
      subst ea
      obtain ⟨j, hj, rfl⟩ := Option.map_eq_some_iff.mp ef
      obtain ⟨hlt, h1, h2⟩ := List.findIdx?_eq_some_iff_getElem.mp hj
      refine ⟨a, u, toPy y, toPys ys, j, toPy (ys[j]), rfl, rfl, p2, p1, s2', s1', ?_, ?_, fun m z' hm hz => ?_, k _ H2 O2 r2 (s1.trans s2 ho.sub) rep_int⟩
      · rw [toPys_get, List.getElem?_eq_getElem hlt]; rfl
      · rw [deq_eqv]; exact h1
      · rw [toPys_get] at hz
        obtain ⟨y2, hy, rfl⟩ := Option.map_eq_some_iff.mp hz
        have hm' : m < ys.length := by omega
        rw [List.getElem?_eq_getElem hm'] at hy
        cases hy
        rw [deq_eqv]
        simpa using h2 m hm
    cases x with
    | lst ys =>
      simp only [dIndex] at ef
      split at ef
      · rename_i hc
        exact key ys rfl hc (by simp only [Rep] at w; obtain ⟨a, vs, e, n, q, ws⟩ := w; exact ⟨a, e⟩) ef
      · cases ef
    | fz ys =>
      simp only [dIndex] at ef
      split at ef
      · rename_i hc
        exact key ys rfl hc (by simp only [Rep] at w; obtain ⟨a, vs, e, q, ws⟩ := w; exact ⟨a, e⟩) ef
      · cases ef
    | _ => cases ef⟩
end
theorem xp_chain3 {f g h : D → D → Option D} {a b c d : M} {ε : Slots} {Q : Opd → Slots → Prop} : wpM (eChain3 f g h a b c d) ε Q ↔ wpV a ε fun x ε1 => wpV b ε1 fun y ε2 => exO (f x y) fun z => exO (asB z) fun t =>
    if t = true then wpV c ε2 fun w ε3 => exO (g y w) fun z' => exO (asB z') fun t' => if t' = true then wpV d ε3 fun u ε4 => exO (h w u) fun z2 => Q (.val z2) ε4 else Q (.val (.bl false)) ε3 else Q (.val (.bl false)) ε2 := by
  simp only [← wpV_val]
  constructor
  · rintro ⟨o, ε', e, q⟩
    simp only [eChain3, Option.bind_eq_some_iff] at e
    obtain ⟨⟨x, ε1⟩, e1, ⟨y, ε2⟩, e2, z, hz, t, ht, e⟩ := e
    refine ⟨x, ε1, e1, y, ε2, e2, z, hz, t, ht, ?_⟩
    cases t with
    | true =>
      rw [if_pos rfl] at e ⊢
      simp only [Option.bind_eq_some_iff] at e
      obtain ⟨⟨w, ε3⟩, e3, z', hz', t', ht', e⟩ := e
      refine ⟨w, ε3, e3, z', hz', t', ht', ?_⟩
      cases t' with
      | true =>
        rw [if_pos rfl] at e ⊢
        simp only [Option.bind_eq_some_iff] at e
        obtain ⟨⟨u, ε4⟩, e4, z2, hz2, e⟩ := e
        cases e
        exact ⟨u, _, e4, z2, hz2, q⟩
      | false => rw [if_neg Bool.false_ne_true] at e ⊢; cases e; exact q
    | false => rw [if_neg Bool.false_ne_true] at e ⊢; cases e; exact q
  · rintro ⟨x, ε1, e1, y, ε2, e2, z, hz, t, ht, h⟩
    cases t with
    | true =>
      rw [if_pos rfl] at h
      obtain ⟨w, ε3, e3, z', hz', t', ht', h⟩ := h
      cases t' with
      | true =>
        rw [if_pos rfl] at h
        obtain ⟨u, ε4, e4, z2, hz2, q⟩ := h
        exact ⟨_, _, by simp only [eChain3, e1, e2, hz, ht, e3, hz', ht', e4, hz2, Option.bind_some, if_true], q⟩
      | false =>
        rw [if_neg Bool.false_ne_true] at h
        exact ⟨_, _, by simp only [eChain3, e1, e2, hz, ht, e3, hz', ht', Option.bind_some, if_true, Bool.false_eq_true, if_false], h⟩
    | false =>
      rw [if_neg Bool.false_ne_true] at h
      exact ⟨_, _, by simp only [eChain3, e1, e2, hz, ht, Option.bind_some, Bool.false_eq_true, if_false], h⟩
end L2.VS

namespace L2.VS.LAW
open PySem PySem.Spec PyProof.Rows
def letter_at_b : S :=
  (sSeq (sSet 4 (e2 dEq (e2 dMod (e2 dAdd (e2 dFdiv (eV 2) (eV 0)) (e2 dMod (eV 2) (eV 0))) (eC (.int 2))) (eC (.int 0))))
  (sRet (eIf (VS.tB (e2 dEq (e2 dLt (e2 dIndex (eV 1) (eV 2)) (e2 dIndex (eV 1) (eV 3))) (eV 4))) (eC (.str [118])) (eC (.str [109])))))
def letter_at_f : Fn := runDef 5 [] letter_at_b
def map_of_b : S :=
  (sSeq (sSet 3 (eLst []))
  (sSeq (sSet 4 (eLst []))
  (sSeq (sFor (iR1 (eV 0)) (gN 5) (sSeq (sSet 6 (e2 dMul (eV 5) (eV 1)))
  (sSeq (sSet 7 (e2 dRg2L (eV 6) (e2 dAdd (eV 6) (eV 1))))
  (sSeq (sDo (eMut1 3 fApp (e1 dJoin (eComp (iA (eCut (eV 7) none (some (e1 dNeg (eC (.int 1)))))) (gN 8) tYesD (eCall0 letter_at_f [.v (eV 1), .v (eV 2), .v (eV 8), .v (e2 dAdd (eV 8) (eC (.int 1)))]) [8]))))
  (sIf (VS.tB (e2 dLt (e2 dAdd (eV 5) (eC (.int 1))) (eV 0))) (sDo (eMut1 4 fApp (e1 dJoin (eComp (iA (eV 7)) (gN 8) tYesD (eCall0 letter_at_f [.v (eV 1), .v (eV 2), .v (eV 8), .v (e2 dAdd (eV 8) (eV 1))]) [8])))) sNil)))))
  (sRet (eTup [(eV 0), (eV 1), (eV 3), (eV 4)])))))
def map_of_f : Fn := runDef 9 [] map_of_b
def joints_b : S :=
  (sSeq (sSet 2 (eLst []))
  (sSeq (sFor (iR1 (eV 0)) (gN 3) (sFor (iR1 (eV 1)) (gN 4) (sSeq (sSet 5 (e2 dAdd (e2 dMul (eV 3) (eV 1)) (eV 4)))
  (sSeq (sIf (VS.tB (e2 dLt (e2 dAdd (eV 4) (eC (.int 1))) (eV 1))) (sDo (eMut1 2 fApp (eTup [(eV 5), (e2 dAdd (eV 5) (eC (.int 1))), (eIf (VS.tB (e2 dEq (e2 dMod (eV 4) (eC (.int 2))) (eC (.int 0)))) (eC (.str [101])) (eC (.str [119])))]))) sNil)
  (sIf (VS.tB (e2 dLt (e2 dAdd (eV 3) (eC (.int 1))) (eV 0))) (sDo (eMut1 2 fApp (eTup [(eV 5), (e2 dAdd (eV 5) (eV 1)), (eIf (VS.tB (e2 dEq (e2 dMod (eV 3) (eC (.int 2))) (eC (.int 0)))) (eC (.str [115])) (eC (.str [110])))]))) sNil)))))
  (sRet (e1 dSortX (eO 2)))))
def joints_f : Fn := runDef 6 [] joints_b
def lie_alternately_b : S :=
  (sSeq (sSet 3 (e1 dSortI (eComp (iA (eV 0)) (gN 5) tYesD (e2 dGetD (eV 2) (eV 5)) [5])))
  (sSeq (sSet 4 (e1 dSortI (eComp (iA (eV 1)) (gN 5) tYesD (e2 dGetD (eV 2) (eV 5)) [5])))
  (sRet (eOr (eChain3 dLt dLt dLt (e2 dIx (eV 3) (eC (.int 0))) (e2 dIx (eV 4) (eC (.int 0))) (e2 dIx (eV 3) (eC (.int 1))) (e2 dIx (eV 4) (eC (.int 1)))) (eChain3 dLt dLt dLt (e2 dIx (eV 4) (eC (.int 0))) (e2 dIx (eV 3) (eC (.int 0))) (e2 dIx (eV 4) (eC (.int 1))) (e2 dIx (eV 3) (eC (.int 1))))))))
def lie_alternately_f : Fn := runDef 6 [] lie_alternately_b
def can_lie_b : S :=
  (sSeq (sSet 3 (eDcomp (iEn2 (eV 1)) (gT [gN 12, gN 7]) tYesD (eV 7) (eV 12) [12, 7]))
  (sSeq (sSet 4 (eComp (iA (eV 0)) (gN 13) (VS.tB (e2 dEq (e2 dIx (eV 13) (eC (.int 1))) (eV 2))) (eV 13) [13]))
  (sSeq (sSet 5 (eComp (iA (eV 0)) (gN 13) (VS.tB (e2 dLe (e2 dIx (eV 13) (eC (.int 1))) (eV 2))) (eV 13) [13]))
  (sSeq (sFor (iA (eV 4)) (gT [gN 6, gN 7, gN 8]) (sFor (iA (eV 5)) (gT [gN 9, gN 10, gN 11]) (sIf (VS.tAnd (VS.tB (e2 dEq (eV 8) (eV 11))) (tTru (eCall0 lie_alternately_f [.v (eTup [(eV 6), (eV 7)]), .v (eTup [(eV 9), (eV 10)]), .v (eV 3)]))) (sRet (eC (.bl false))) sNil)))
  (sRet (eC (.bl true)))))))
def can_lie_f : Fn := runDef 14 [] can_lie_b
def all_piles_b : S :=
  (sSeq (sSet 2 (eCall0 joints_f [.v (eV 0), .v (eV 1)]))
  (sSeq (sSet 3 (eLst [(eLst [])]))
  (sSeq (sFor (iR1 (e2 dMul (eV 0) (eV 1))) (gN 4) (sSeq (sSet 5 (eLst []))
  (sSeq (sFor (iA (eV 3)) (gN 6) (sFor (iR1 (e2 dAdd (e1 dLen (eV 6)) (eC (.int 1)))) (gN 7) (sSeq (sSet 8 (e2 dAdd (e2 dAdd (eCut (eV 6) none (some (eV 7))) (eLst [(eV 4)])) (eCut (eV 6) (some (eV 7)) none)))
  (sIf (tTru (eCall0 can_lie_f [.v (eV 2), .v (eV 8), .v (eV 4)])) (sDo (eMut1 5 fApp (eV 8))) sNil))))
  (sSet 3 (eV 5)))))
  (sRet (eV 3)))))
def all_piles_f : Fn := runDef 9 [] all_piles_b
def map_states_b : S :=
  (sRet (e1 dSortX (eComp (iA (eCall0 all_piles_f [.v (e2 dIx (eV 0) (eC (.int 0))), .v (e2 dIx (eV 0) (eC (.int 1)))])) (gN 1) (VS.tB (e2 dEq (eCall0 map_of_f [.v (e2 dIx (eV 0) (eC (.int 0))), .v (e2 dIx (eV 0) (eC (.int 1))), .v (eV 1)]) (eV 0))) (eV 1) [1])))
def map_states_f : Fn := runDef 2 [] map_states_b
def u_law_letters_b : S :=
  (sSeq (sSet 2 (eC (.str [])))
  (sSeq (sFor (iR1 (eV 1)) (gN 3) (sSet 2 (e2 dAdd (eV 2) (eCall1 u_law_pick_f [.w 0, .v (eLst [(eC (.str [109])), (eC (.str [118]))])] 0))))
  (sRet (eV 2))))
def u_law_letters_f : Fn := runDef 4 [0] u_law_letters_b
def u_law_map_b : S :=
  (sSeq (sSet 3 (eComp (iR1 (eV 1)) (gN 5) tYesD (eCall1 u_law_letters_f [.w 0, .v (e2 dSub (eV 2) (eC (.int 1)))] 0) [5]))
  (sSeq (sDo (eCall1 u_law_next_f [.w 0] 0))
  (sSeq (sSet 4 (eComp (iR1 (e2 dSub (eV 1) (eC (.int 1)))) (gN 5) tYesD (eCall1 u_law_letters_f [.w 0, .v (eV 2)] 0) [5]))
  (sRet (eTup [(eV 1), (eV 2), (eV 3), (eV 4)])))))
def u_law_map_f : Fn := runDef 6 [0] u_law_map_b
def u_law_turned_b : S :=
  (sSeq (sAsg (gT [gN 1, gN 2, gN 3, gN 4]) (eV 0))
  (sSeq (sSet 5 (eLst []))
  (sSeq (sSet 6 (eLst []))
  (sSeq (sFor (iR1 (eV 2)) (gN 7) (sSeq (sSet 8 (eC (.str [])))
  (sSeq (sFor (iR1 (e2 dSub (eV 1) (eC (.int 1)))) (gN 9) (sSet 8 (e2 dAdd (eV 8) (e2 dIx (e2 dIx (eV 4) (eV 9)) (eV 7)))))
  (sSeq (sDo (eMut1 5 fApp (eV 8)))
  (sIf (VS.tB (e2 dLt (e2 dAdd (eV 7) (eC (.int 1))) (eV 2))) (sSeq (sSet 8 (eC (.str [])))
  (sSeq (sFor (iR1 (eV 1)) (gN 9) (sSet 8 (e2 dAdd (eV 8) (e2 dIx (e2 dIx (eV 3) (eV 9)) (eV 7)))))
  (sDo (eMut1 6 fApp (eV 8))))) sNil)))))
  (sRet (eTup [(eV 2), (eV 1), (eV 5), (eV 6)]))))))
def u_law_turned_f : Fn := runDef 10 [] u_law_turned_b
def u_law_exchanged_b : S :=
  (sSeq (sSet 1 (eC (.str [])))
  (sSeq (sFor (iA (eV 0)) (gN 2) (sSet 1 (e2 dAdd (eV 1) (eIf (VS.tB (e2 dEq (eV 2) (eC (.str [109])))) (eC (.str [118])) (eC (.str [109]))))))
  (sRet (eV 1))))
def u_law_exchanged_f : Fn := runDef 3 [] u_law_exchanged_b
def law_b : S :=
  (sSeq (sSet 1 (eCall0 u_law_pool_f [.v (eV 0)]))
  (sSeq (sAsg (gT [gN 2, gN 3]) (eCall1 u_law_pick_f [.w 1, .v (eLst [(eTup [(eC (.int 1)), (eC (.int 4))]), (eTup [(eC (.int 2)), (eC (.int 2))]), (eTup [(eC (.int 2)), (eC (.int 3))]), (eTup [(eC (.int 3)), (eC (.int 2))]), (eTup [(eC (.int 1)), (eC (.int 5))]), (eTup [(eC (.int 4)), (eC (.int 1))])])] 1))
  (sSeq (sSet 4 (eCall1 u_law_map_f [.w 1, .v (eV 2), .v (eV 3)] 1))
  (sSeq (sSet 5 (e1 dRgL (e2 dMul (eV 2) (eV 3))))
  (sSeq (sIf (VS.tB (e2 dEq (eCall1 u_law_draw_f [.w 1, .v (eC (.int 2))] 1) (eC (.int 0)))) (sSeq (sSet 6 (eComp (iR1 (e2 dMul (eV 2) (eV 3))) (gN 11) tYesD (eMut1 5 fPop1 (eCall1 u_law_draw_f [.w 1, .v (e1 dLen (eO 5))] 1)) [11]))
  (sSet 4 (eCall0 map_of_f [.v (eV 2), .v (eV 3), .v (eV 6)]))) sNil)
  (sSeq (sSet 7 (e1 dLen (eCall0 map_states_f [.v (eV 4)])))
  (sSeq (sIf (VS.tB (e2 dNe (e1 dLen (eCall0 map_states_f [.v (eCall0 u_law_turned_f [.v (eV 4)])])) (eV 7))) (sRet (eC (.bl false))) sNil)
  (sSeq (sSet 8 (eTup [(eV 2), (eV 3), (eComp (iA (e2 dIx (eV 4) (eC (.int 2)))) (gN 12) tYesD (eCall0 u_law_exchanged_f [.v (eV 12)]) [12]), (eComp (iA (e2 dIx (eV 4) (eC (.int 3)))) (gN 12) tYesD (eCall0 u_law_exchanged_f [.v (eV 12)]) [12])]))
  (sSeq (sIf (VS.tB (e2 dNe (e1 dLen (eCall0 map_states_f [.v (eV 8)])) (eV 7))) (sRet (eC (.bl false))) sNil)
  (sSeq (sFor (iA (eCall0 map_states_f [.v (eV 4)])) (gN 6) (sIf (VS.tB (e2 dNotIn (e1 dRev (eV 6)) (eCall0 map_states_f [.v (eV 8)]))) (sRet (eC (.bl false))) sNil))
  (sSeq (sSet 9 (eTup [(eV 2), (eV 3), (eComp (iA (e2 dIx (eV 4) (eC (.int 2)))) (gN 12) tYesD (e1 dRev (eV 12)) [12]), (eComp (iA (e2 dIx (eV 4) (eC (.int 3)))) (gN 12) tYesD (e1 dRev (eV 12)) [12])]))
  (sSeq (sSet 10 (eTup [(eV 2), (eV 3), (e1 dRev (e2 dIx (eV 4) (eC (.int 2)))), (e1 dRev (e2 dIx (eV 4) (eC (.int 3))))]))
  (sRet (eAnd (e2 dEq (e1 dLen (eCall0 map_states_f [.v (eV 9)])) (eV 7)) (e2 dEq (e1 dLen (eCall0 map_states_f [.v (eV 10)])) (eV 7))))))))))))))))
def law_f : Fn := runDef 13 [] law_b
end L2.VS.LAW

namespace L2.VS.LAW
open PySem PySem.Spec PyProof.Rows
def il (l : List Int) : List D := l.map D.int
def nl (l : List Int) : D := .lst (il l)
def nll (X : List (List Int)) : List D := X.map nl
theorem il_len (l : List Int) : (il l).length = l.length := List.length_map ..
theorem nll_len (X : List (List Int)) : (nll X).length = X.length := List.length_map ..
theorem il_at {l : List Int} {i : Nat} {x : Int} (h : l[i]? = some x) : atI (il l) (i : Int) = some (.int x) := at_nat (by rw [il, List.getElem?_map, h]; rfl)
theorem nll_at {X : List (List Int)} {i : Nat} {x : List Int} (h : X[i]? = some x) : atI (nll X) (i : Int) = some (nl x) := at_nat (by rw [nll, List.getElem?_map, h]; rfl)
theorem at_last {α : Type} {l : List α} {x : α} : atI (l ++ [x]) (-1) = some x := by
  unfold atI ixN
  rw [if_neg (by decide)]
  have h : (-1 + ((l ++ [x]).length : Nat) : Int) = ((l.length : Nat) : Int) := by simp; omega
  rw [if_pos (by simp; omega), h]
  simp
theorem il_app {l : List Int} {x : Int} (h : l.length < 1000000) : fApp (il l) (.int x) = some (il (l ++ [x]), .non) := by rw [app_ok (by rw [il_len]; omega)]; simp [il]
theorem nll_app {X : List (List Int)} {x : List Int} (h : X.length < 1000000) : fApp (nll X) (nl x) = some (nll (X ++ [x]), .non) := by rw [app_ok (by rw [nll_len]; omega)]; simp [nll]
theorem add_il {l m : List Int} (h : l.length + m.length ≤ 1000000) : dAdd (.lst (il l)) (.lst (il m)) = some (.lst (il (l ++ m))) := by
  rw [add_ll (by rw [il_len, il_len]; omega), il, il, ← List.map_append]; rfl
theorem can_il (n : Nat) : ∀ l : List Int, canEqs (il l) n = true
  | [] => rfl
  | x :: l => by
    have ih := can_il n l
    unfold il at ih ⊢
    rw [List.map_cons, canEqs, ih]; rfl
theorem can_nl (n : Nat) (l : List Int) : canEq (nl l) (n + 1) = true := by
  simp only [nl, canEq, can_il]; simp
theorem can_nll (n : Nat) : ∀ X : List (List Int), canEqs (nll X) (n + 1) = true
  | [] => rfl
  | x :: X => by
    have ih := can_nll n X
    unfold nll at ih ⊢
    rw [List.map_cons, canEqs, can_nl, ih]; rfl
theorem deqs_il : ∀ l m : List Int, deqs (il l) (il m) = decide (l = m)
  | [], [] => rfl
  | [], _ :: _ => rfl
  | _ :: _, [] => rfl
  | x :: l, y :: m => by
    have ih := deqs_il l m
    unfold il at ih ⊢
    simp only [List.map_cons, deqs, deq, ih]
    by_cases h : x = y <;> by_cases h2 : l = m <;> simp [h, h2]
theorem deq_nl (l m : List Int) : deq (nl l) (nl m) = decide (l = m) := by rw [nl, nl, deq, deqs_il]
theorem deqs_nll : ∀ X Y : List (List Int), deqs (nll X) (nll Y) = decide (X = Y)
  | [], [] => rfl
  | [], _ :: _ => rfl
  | _ :: _, [] => rfl
  | x :: X, y :: Y => by
    have ih := deqs_nll X Y
    unfold nll at ih ⊢
    simp only [List.map_cons, deqs, deq_nl, ih]
    by_cases h : x = y <;> by_cases h2 : X = Y <;> simp [h, h2]
theorem eq_nl (l m : List Int) : dEq (nl l) (nl m) = some (.bl (decide (l = m))) := by
  have h1 : ∀ l, canEq (nl l) 60 = true := can_nl 59
  unfold dEq
  rw [h1, h1, deq_nl]; rfl
theorem eq_nll (X Y : List (List Int)) : dEq (.lst (nll X)) (.lst (nll Y)) = some (.bl (decide (X = Y))) := by
  have h := can_nll 58
  simp only [dEq, canEq, h, deq, deqs_nll, Bool.and_true, decide_true, if_true, Nat.reduceLT, Nat.reduceSub]
theorem any_il (x : Int) : ∀ l : List Int, ((il l).any fun z => deq z (.int x)) = decide (x ∈ l)
  | [] => rfl
  | y :: l => by
    have ih := any_il x l
    unfold il at ih ⊢
    simp only [List.map_cons, List.any_cons, ih, deq]
    by_cases h : y = x
    · subst h; simp
    · have h' : ¬ x = y := fun e => h e.symm
      simp [h, h']
theorem in_nl (x : Int) (l : List Int) : dIn (.int x) (nl l) = some (.bl (decide (x ∈ l))) := by
  have h := can_il 59 l
  simp only [dIn, nl, canEq, h, any_il, Bool.and_true, decide_true, if_true, Nat.reduceLT, Nat.reduceSub]
theorem nin_nl (x : Int) (l : List Int) : dNotIn (.int x) (nl l) = some (.bl (!decide (x ∈ l))) := by
  have h := can_il 59 l
  simp only [dNotIn, nl, canEq, h, any_il, Bool.and_true, decide_true, if_true, Nat.reduceLT, Nat.reduceSub]
theorem wp_comp_fp {α : Type} {it : I} {g : G} {t : T} {elt : M} {vs : List Nat} {ε : Slots} {Qp : Opd → Slots → Prop} (xs : List α) (u h : α → D) (p : α → Bool)
    (hh : wpI it ε fun ds ε1 => ds = xs.map u ∧ xs.length ≤ 16777216 ∧ (∀ x ∈ xs, ∃ ε2, g (u x) (wipeE ε1 vs) = some ε2 ∧ wpT t ε2 fun b ε3 => b = p x ∧ if p x = true then wpV elt ε3 fun z ε4 => z = h x ∧ wipeE ε4 vs = wipeE ε1 vs else wipeE ε3 vs = wipeE ε1 vs) ∧
      Qp (.val (.lst ((xs.filter p).map h))) (backE ε1 (wipeE ε1 vs) vs)) : wpM (eComp it g t elt vs) ε Qp := by
  obtain ⟨ds, ε1, e1, rfl, h1, h2, h3⟩ := hh
  refine wp_comp_inv (fun i acc ε => acc = ((xs.take i).filter p).map h ∧ ε = wipeE ε1 vs) ⟨_, _, e1, ⟨by simp, rfl⟩, fun i d acc ε hd w => ?_, fun acc ε w => ?_⟩
  · obtain ⟨rfl, rfl⟩ := w
    rw [List.getElem?_map] at hd
    obtain ⟨x, hx, rfl⟩ := Option.map_eq_some_iff.mp hd
    obtain ⟨ε2, q1, q2⟩ := h2 x (List.mem_of_getElem? hx)
    refine ⟨ε2, q1, ?_⟩
    obtain ⟨b, ε3, q3, rfl, q4⟩ := q2
    refine ⟨_, ε3, q3, ?_⟩
    have ht : xs.take (i + 1) = xs.take i ++ [x] := by rw [List.take_succ, hx]; rfl
    by_cases hp : p x = true
    · simp only [hp, if_true] at q4 ⊢
      obtain ⟨z, ε4, q5, v, q7, rfl, q6⟩ := q4
      refine ⟨_, ε4, q5, _, q7, ?_, q6⟩
      rw [ht, List.filter_append, List.filter_cons, if_pos hp]
      simp
    · have hp' : p x = false := by simpa using hp
      simp only [hp', Bool.false_eq_true, if_false] at q4 ⊢
      refine ⟨?_, q4⟩
      rw [ht, List.filter_append, List.filter_cons, if_neg hp]
      simp
  · obtain ⟨rfl, rfl⟩ := w
    have e : (xs.map u).length = xs.length := List.length_map ..
    rw [e, List.take_length, List.length_map]
    exact ⟨Nat.le_trans (List.length_filter_le ..) h1, h3⟩
theorem wp_comp_map {α : Type} {it : I} {g : G} {t : T} {elt : M} {vs : List Nat} {ε : Slots} {Qp : Opd → Slots → Prop} (xs : List α) (u h : α → D)
    (hh : wpI it ε fun ds ε1 => ds = xs.map u ∧ xs.length ≤ 16777216 ∧ (∀ x ∈ xs, ∃ ε2, g (u x) (wipeE ε1 vs) = some ε2 ∧ wpT t ε2 fun b ε3 => b = true ∧ wpV elt ε3 fun z ε4 => z = h x ∧ wipeE ε4 vs = wipeE ε1 vs) ∧
      Qp (.val (.lst (xs.map h))) (backE ε1 (wipeE ε1 vs) vs)) : wpM (eComp it g t elt vs) ε Qp := by
  obtain ⟨ds, ε1, e1, rfl, h1, h2, h3⟩ := hh
  refine wp_comp_fp xs u h (fun _ => true) ⟨_, _, e1, rfl, h1, fun x hx => ?_, by rw [List.filter_eq_self.mpr (fun _ _ => rfl)]; exact h3⟩
  obtain ⟨ε2, q1, q2⟩ := h2 x hx
  refine ⟨ε2, q1, ?_⟩
  simp only [if_true]
  exact q2
theorem il_len' (l : List Int) : dLen (nl l) = some (.int (l.length : Nat)) := by simp only [nl, len_l, il_len]
theorem ix_il {l : List Int} {k : Nat} (h : k < l.length) : dIx (nl l) (.int (k : Nat)) = some (.int (l.getD k 0)) := by
  rw [nl, ix_l]
  refine il_at ?_
  rw [List.getD_eq_getElem?_getD, List.getElem?_eq_getElem h]; rfl
theorem cutF {l : List Int} {k : Nat} (h : k ≤ l.length) : dCut (some ((k : Nat) : Int)) none (nl l) = some (nl (l.drop k)) := by
  show some (D.lst (cutL (il l) (some ((k : Nat) : Int)) none)) = _
  rw [cutFrom (by omega) (by rw [il_len]; omega), Int.toNat_natCast]
  simp only [il, nl, List.map_drop]
theorem cutT {l : List Int} {k : Nat} (h : k ≤ l.length) : dCut none (some ((k : Nat) : Int)) (nl l) = some (nl (l.take k)) := by
  show some (D.lst (cutL (il l) none (some ((k : Nat) : Int)))) = _
  rw [cutTo (by omega) (by rw [il_len]; omega), Int.toNat_natCast]
  simp only [il, nl, List.map_take]
theorem dInts_il : ∀ l : List Int, dInts (nl l) = some l := fun l => by
  have : ∀ l : List Int, intsOf (il l) = some l := by
    intro l
    induction l with
    | nil => rfl
    | cons x l ih =>
      unfold il at ih ⊢
      simp [intsOf, ih]
  simp only [nl, dInts, this]
/-! lists of numbers, and what lies where -/
def ni (l : List Nat) : List Int := l.map fun n => ((n : Nat) : Int)
def nn (l : List Nat) : D := nl (ni l)
def nns (X : List (List Nat)) : List D := X.map nn
theorem ni_len (l : List Nat) : (ni l).length = l.length := List.length_map ..
theorem ni_mem {l : List Nat} {n : Nat} : ((n : Nat) : Int) ∈ ni l ↔ n ∈ l := by
  unfold ni
  rw [List.mem_map]
  constructor
  · rintro ⟨m, hm, e⟩
    have : m = n := by omega
    exact this ▸ hm
  · intro h
    exact ⟨n, h, rfl⟩
theorem ni_inj {l m : List Nat} (h : ni l = ni m) : l = m := by
  induction l generalizing m with
  | nil => cases m with
    | nil => rfl
    | cons y m => cases h
  | cons x l ih => cases m with
    | nil => cases h
    | cons y m =>
      simp only [ni, List.map_cons, List.cons.injEq] at h
      have : x = y := by omega
      rw [this, ih h.2]
theorem nn_len (l : List Nat) : dLen (nn l) = some (.int ((l.length : Nat) : Int)) := by
  unfold nn nl
  rw [len_l, il_len, ni_len]
theorem nns_nll (X : List (List Nat)) : nns X = nll (X.map ni) := by unfold nns nll; rw [List.map_map]; rfl
theorem nns_len (X : List (List Nat)) : (nns X).length = X.length := List.length_map ..
theorem nn_iter (l : List Nat) : dIter (nn l) = some (l.map fun n => D.int ((n : Nat) : Int)) := by
  show some (il (ni l)) = _
  unfold il ni
  rw [List.map_map]; rfl
theorem add_nn {l m : List Nat} (h : l.length + m.length ≤ 1000000) : dAdd (nn l) (nn m) = some (nn (l ++ m)) := by
  unfold nn nl
  rw [add_il (by rw [ni_len, ni_len]; omega)]
  unfold ni
  rw [List.map_append]
theorem cutF_nn {l : List Nat} {k : Nat} (h : k ≤ l.length) : dCut (some ((k : Nat) : Int)) none (nn l) = some (nn (l.drop k)) := by
  have := cutF (l := ni l) (k := k) (by rw [ni_len]; omega)
  unfold nn
  rw [this]
  unfold ni
  rw [List.map_drop]
theorem cutT_nn {l : List Nat} {k : Nat} (h : k ≤ l.length) : dCut none (some ((k : Nat) : Int)) (nn l) = some (nn (l.take k)) := by
  have := cutT (l := ni l) (k := k) (by rw [ni_len]; omega)
  unfold nn
  rw [this]
  unfold ni
  rw [List.map_take]
theorem ix_nn {l : List Nat} {k : Nat} (h : k < l.length) : dIx (nn l) (.int (k : Nat)) = some (.int ((l.getD k 0 : Nat) : Int)) := by
  have := ix_il (l := ni l) (k := k) (by rw [ni_len]; exact h)
  unfold nn
  rw [this]
  unfold ni
  rw [List.getD_eq_getElem?_getD, List.getElem?_map, List.getD_eq_getElem?_getD, List.getElem?_eq_getElem h]; rfl
theorem in_nn (n : Nat) (l : List Nat) : dIn (.int (n : Nat)) (nn l) = some (.bl (decide (n ∈ l))) := by
  unfold nn
  rw [in_nl]
  congr 2
  exact decide_eq_decide.mpr ni_mem
theorem nin_nn (n : Nat) (l : List Nat) : dNotIn (.int (n : Nat)) (nn l) = some (.bl (!decide (n ∈ l))) := by
  unfold nn
  rw [nin_nl]
  congr 3
  exact decide_eq_decide.mpr ni_mem
theorem any_nns (x : List Nat) : ∀ X : List (List Nat), ((nns X).any fun z => deq z (nn x)) = decide (x ∈ X)
  | [] => rfl
  | y :: X => by
    have ih := any_nns x X
    unfold nns at ih ⊢
    rw [List.map_cons, List.any_cons, ih]
    unfold nn
    rw [deq_nl]
    by_cases h : y = x
    · subst h; simp
    · have h' : ¬ x = y := fun e => h e.symm
      have h2 : ¬ ni y = ni x := fun e => h (ni_inj e)
      simp [h2, h']
theorem can_nns (X : List (List Nat)) (n : Nat) : canEq (.lst (nns X)) (n + 2) = true := by
  rw [nns_nll]
  rw [canEq]
  show (decide (0 < n + 2) && canEqs (nll (X.map ni)) (n + 1)) = true
  rw [can_nll]; simp
theorem nin_nns (x : List Nat) (X : List (List Nat)) : dNotIn (nn x) (.lst (nns X)) = some (.bl (!decide (x ∈ X))) := by
  have h1 : canEq (nn x) 60 = true := can_nl 59 _
  have h2 := can_nns X 58
  simp only [dNotIn, h1, h2, any_nns, Bool.and_self, if_true]
theorem pl_nn {n : Nat} {l : List Nat} (h : l.length ≤ 10000) : Pl (n + 2) (nn l) := pl_lst (by rw [il_len, ni_len]; omega) fun y hy => by
  obtain ⟨x, _, rfl⟩ := List.mem_map.mp hy
  exact pl_int
theorem pl_nns {n : Nat} {X : List (List Nat)} (h : X.length ≤ 10000) (h2 : ∀ l ∈ X, l.length ≤ 10000) : Pl (n + 3) (.lst (nns X)) := pl_lst (by rw [nns_len]; omega) fun y hy => by
  obtain ⟨x, hx, rfl⟩ := List.mem_map.mp hy
  exact pl_nn (h2 x hx)
theorem find_nn {s : Nat} : ∀ {o : List Nat}, s ∈ o → ((il (ni o)).findIdx? fun z => deq z (.int (s : Nat))) = some (o.idxOf s)
  | [], h => by simp at h
  | x :: o, h => by
    unfold ni il
    simp only [List.map_cons, List.findIdx?_cons, List.idxOf_cons]
    by_cases e : x = s
    · subst e
      simp [deq]
    · have e1 : deq (.int ((x : Nat) : Int)) (.int ((s : Nat) : Int)) = false := by simp [deq]; omega
      have e2 : (x == s) = false := by simp [e]
      have hm : s ∈ o := by
        rcases List.mem_cons.mp h with q | q
        · exact absurd q.symm e
        · exact q
      have ih := find_nn hm
      unfold ni il at ih
      rw [e1, e2, ih]; rfl
theorem index_nn {o : List Nat} {s : Nat} (h : s ∈ o) : dIndex (nn o) (.int (s : Nat)) = some (.int ((o.idxOf s : Nat) : Int)) := by
  have h1 : canEq (nn o) 60 = true := can_nl 59 _
  have h2 : canEq (.int ((s : Nat) : Int)) 60 = true := rfl
  unfold nn nl at h1 ⊢
  simp only [dIndex, h1, h2, Bool.and_self, if_true, find_nn h, Option.map_some]
theorem get_put {ks : List DKey} {ds : List D} {k j : DKey} {d : D} (hl : ks.length = ds.length) : dkGet (dkPut ks ds k d).1 (dkPut ks ds k d).2 j = if j = k then some d else dkGet ks ds j := by
  induction ks generalizing ds with
  | nil =>
    have : ds = [] := List.length_eq_zero_iff.mp hl.symm
    subst this
    by_cases h : j = k
    · subst h; simp [dkPut, dkGet]
    · have h' : ¬ k = j := fun e => h e.symm
      simp [dkPut, dkGet, h, h']
  | cons a ks ih =>
    cases ds with
    | nil => simp at hl
    | cons d0 ds =>
      have ih := ih (ds := ds) (by simpa using hl)
      by_cases hak : a = k
      · subst hak
        have hp : dkPut (a :: ks) (d0 :: ds) a d = (a :: ks, d :: (ks.zip ds).map fun p => if p.1 = a then d else p.2) := by simp [dkPut]
        rw [hp]
        by_cases h : j = a
        · subst h; simp [dkGet]
        · have h' : ¬ a = j := fun e => h e.symm
          rw [if_neg h]
          simp only [dkGet, List.zip_cons_cons, List.find?_cons, h', decide_false]
          have gen : ∀ (ks : List DKey) (ds : List D), ks.length = ds.length → ((ks.zip ((ks.zip ds).map fun p => if p.1 = a then d else p.2)).find? fun p => decide (p.1 = j)).map (·.2) = ((ks.zip ds).find? fun p => decide (p.1 = j)).map (·.2) := by
            intro ks
            induction ks with
            | nil => intro ds _; rfl
            | cons b ks ih2 =>
              intro ds hl
              cases ds with
              | nil => simp at hl
              | cons e ds =>
                simp only [List.zip_cons_cons, List.map_cons, List.find?_cons]
                by_cases hb : b = j
                · have hba : ¬ b = a := fun e => h (hb ▸ e)
                  simp [hb, hba, h]
                · simp only [hb, decide_false]
                  exact ih2 ds (by simpa using hl)
          exact gen ks ds (by simpa using hl)
      · have hp : dkPut (a :: ks) (d0 :: ds) k d = (a :: (dkPut ks ds k d).1, d0 :: (dkPut ks ds k d).2) := by
          unfold dkPut
          have hka : ¬ k = a := fun e => hak e.symm
          by_cases hm : k ∈ ks
          · rw [if_pos (List.mem_cons_of_mem _ hm), if_pos hm]; simp [hak]
          · rw [if_neg (by simp [hka, hm]), if_neg hm]; rfl
        rw [hp]
        by_cases h : a = j
        · have hjk : ¬ j = k := fun e => hak (h.trans e)
          rw [if_neg hjk]
          simp [dkGet, h]
        · simp only [dkGet, List.zip_cons_cons, List.find?_cons, h, decide_false] at ih ⊢
          exact ih
theorem dicF_snoc {α : Type} (kf : α → DKey) (vf : α → D) (xs : List α) (x : α) : dicF kf vf (xs ++ [x]) = dkPut (dicF kf vf xs).1 (dicF kf vf xs).2 (kf x) (vf x) := by
  unfold dicF; rw [List.foldl_append]; rfl
/-- what a dict made so gives -/
theorem get_dicF' {α : Type} (kf : α → DKey) (vf : α → D) (xs : List α) (k : DKey) (v : D) (h : ∀ y ∈ xs, kf y = k → vf y = v) : ∀ i, i ≤ xs.length → (∃ y ∈ xs.take i, kf y = k) → dkGet (dicF kf vf (xs.take i)).1 (dicF kf vf (xs.take i)).2 k = some v
  | 0, _, hy => by obtain ⟨y, hy, _⟩ := hy; simp at hy
  | i + 1, hi, hy => by
    have hx : xs[i]? = some xs[i] := List.getElem?_eq_getElem (by omega)
    rw [dicF_take kf vf hx, get_put (dicF_ok kf vf xs i).2.1]
    by_cases e : k = kf xs[i]
    · rw [if_pos e, h _ (List.getElem_mem _) e.symm]
    · rw [if_neg e]
      refine get_dicF' kf vf xs k v h i (by omega) ?_
      obtain ⟨y, hy, ey⟩ := hy
      have ht : xs.take (i + 1) = xs.take i ++ [xs[i]] := by rw [List.take_succ, hx]; rfl
      rw [ht] at hy
      rcases List.mem_append.mp hy with q | q
      · exact ⟨y, q, ey⟩
      · rw [List.mem_singleton] at q
        exact absurd (q ▸ ey).symm e
def plc (o : List Nat) : D := .dic false (dicF (fun p : Nat × Nat => DKey.k (.i (p.1 : Nat))) (fun p => .int (p.2 : Nat)) o.zipIdx).1 (dicF (fun p : Nat × Nat => DKey.k (.i (p.1 : Nat))) (fun p => .int (p.2 : Nat)) o.zipIdx).2
theorem plc_get {o : List Nat} (hd : o.Nodup) {s : Nat} (h : s ∈ o) : dGetD (plc o) (.int (s : Nat)) = some (.int ((o.idxOf s : Nat) : Int)) := by
  have key : ∀ y ∈ o.zipIdx, DKey.k (.i ((y.1 : Nat) : Int)) = DKey.k (.i ((s : Nat) : Int)) → D.int ((y.2 : Nat) : Int) = .int ((o.idxOf s : Nat) : Int) := fun y hy e => by
    have e1 : y.1 = s := by
      have : ((y.1 : Nat) : Int) = ((s : Nat) : Int) := by injection e with e; injection e
      omega
    obtain ⟨a, i⟩ := y
    have hy' := List.mem_zipIdx_iff_getElem?.mp hy
    obtain ⟨hi, hg⟩ := List.getElem?_eq_some_iff.mp hy'
    have hi : i < o.length := hi
    have hg : o[i] = a := hg
    have e1 : a = s := e1
    have : o.idxOf s = i := by
      rw [← e1, ← hg]
      exact List.Nodup.idxOf_getElem hd i hi
    rw [this]
  have hm : ∃ y ∈ o.zipIdx.take o.zipIdx.length, DKey.k (.i ((y.1 : Nat) : Int)) = DKey.k (.i ((s : Nat) : Int)) := by
    rw [List.take_length]
    obtain ⟨i, hi, hg⟩ := List.getElem_of_mem h
    exact ⟨(s, i), List.mem_zipIdx_iff_getElem?.mpr (by rw [List.getElem?_eq_getElem hi, hg]), rfl⟩
  have := get_dicF' (fun p : Nat × Nat => DKey.k (.i (p.1 : Nat))) (fun p => D.int (p.2 : Nat)) o.zipIdx _ _ key _ (Nat.le_refl _) hm
  rw [List.take_length] at this
  unfold plc dGetD
  exact this
/-! what lies alternately -/
def jn (j : Nat × Nat) : D := .tup [.int (j.1 : Nat), .int (j.2 : Nat)]
def jns (X : List (Nat × Nat)) : List D := X.map jn
def alt2 (p q r s : Nat) : Bool := decide (min p q < min r s ∧ min r s < max p q ∧ max p q < max r s) || decide (min r s < min p q ∧ min p q < max r s ∧ max r s < max p q)
def alt1 (p q r s : Nat) : Bool := decide ((if min p q < r ∧ r < max p q then 1 else 0) + (if min p q < s ∧ s < max p q then 1 else 0) = 1)
theorem alt_eq {p q r s : Nat} (h1 : p ≠ r) (h2 : p ≠ s) (h3 : q ≠ r) (h4 : q ≠ s) (h5 : p ≠ q) (h6 : r ≠ s) : alt2 p q r s = alt1 p q r s := by
  unfold alt2 alt1
  rw [Bool.eq_iff_iff, Bool.or_eq_true, decide_eq_true_eq, decide_eq_true_eq, decide_eq_true_eq]
  simp only [Nat.min_def, Nat.max_def]
  split <;> split <;> split <;> split <;> omega
def AL (o : List Nat) (a b : Nat × Nat) : Bool := alt2 (o.idxOf a.1) (o.idxOf a.2) (o.idxOf b.1) (o.idxOf b.2)
def AW (o : List Nat) (a b : Nat × Nat) : Bool := alt1 (o.idxOf a.1) (o.idxOf a.2) (o.idxOf b.1) (o.idxOf b.2)
theorem sort2 {p q : Nat} : dSortI (.lst [.int (p : Nat), .int (q : Nat)]) = some (.lst [.int ((min p q : Nat) : Int), .int ((max p q : Nat) : Int)]) := by
  show some (D.lst ((if ((p : Nat) : Int) ≤ ((q : Nat) : Int) then [((p : Nat) : Int), ((q : Nat) : Int)] else [((q : Nat) : Int), ((p : Nat) : Int)]).map D.int)) = _
  by_cases h : p ≤ q
  · have h' : ((p : Nat) : Int) ≤ ((q : Nat) : Int) := by omega
    rw [if_pos h', Nat.min_eq_left h, Nat.max_eq_right h]; rfl
  · have h' : ¬ ((p : Nat) : Int) ≤ ((q : Nat) : Int) := by omega
    rw [if_neg h', Nat.min_eq_right (by omega), Nat.max_eq_left (by omega)]; rfl
theorem lie_eq {o : List Nat} {a b : Nat × Nat} (hd : o.Nodup) (h1 : a.1 ∈ o) (h2 : a.2 ∈ o) (h3 : b.1 ∈ o) (h4 : b.2 ∈ o) : lie_alternately_f [jn a, jn b, plc o] = some (.bl (AL o a b), []) := by
  rw [wpF_iff]
  unfold lie_alternately_f lie_alternately_b
  rw [wp_run]
  have g1 := plc_get hd h1
  have g2 := plc_get hd h2
  have g3 := plc_get hd h3
  have g4 := plc_get hd h4
  unfold AL
  generalize o.idxOf a.1 = p at *
  generalize o.idxOf a.2 = q at *
  generalize o.idxOf b.1 = r at *
  generalize o.idxOf b.2 = s at *
  have it : ∀ j : Nat × Nat, dIter (jn j) = some ([j.1, j.2].map fun n => D.int ((n : Nat) : Int)) := fun j => rfl
  refine wp_seq_of (fun ε => ε = [some (jn a), some (jn b), some (plc o), some (.lst [.int ((min p q : Nat) : Int), .int ((max p q : Nat) : Int)]), none, none]) ?_ ?_
  · simp only [↓wp_run, startE, ↓wp_sSeq, ↓thenS_nx, ↓thenS_rt, ↓thenS_bk, ↓thenS_ct, ↓xp_sSet, ↓xp_sDo, ↓xp_sRet, ↓wp_sIf, ↓wp_sNil, ↓wp_sBrk, ↓wp_sCnt, ↓xp_sAsg, ↓xp_sPar, ↓xp_sSetIx, ↓wp_sFor, ↓xp_tB, ↓xp_tTru, ↓wp_tNot, ↓wp_tAnd, ↓wp_tOr, ↓xp_wpV, ↓wp_C, ↓xp_V, ↓wp_O, ↓xp_R, ↓xp_e1, ↓xp_e2, ↓wp_if, ↓xp_and, ↓xp_or, ↓wp_lst, ↓wp_tup, ↓wp_nil, ↓xp_cons, ↓xp_call0, ↓xp_call1, ↓wp_anil, ↓wp_av, ↓wp_aw, ↓xp_mut1, ↓xp_mut0, ↓xp_cut, ↓wpP_none, ↓xp_psome, ↓xp_iA, ↓xp_iR1, ↓xp_iR2, exO_some, ↓reduceIte, ↓xp_end_rt, ↓xp_end_nx, ↓turn_nx, ↓turn_ct, ↓turn_bk, ↓turn_rt, get_val, get_slot, gets, looks, look, lookL, put, Option.bind_some, asB, asI, wipeE, backE, List.map_cons, List.map_nil, List.length_cons, List.length_nil, List.replicate, List.cons_append, List.nil_append, List.set_cons_zero, List.set_cons_succ, Nat.reduceAdd, Nat.reduceSub, add_ii, sub_ii, neg_i, lt_ii, le_ii, gt_ii, ge_ii, eq_ii, ne_ii, eq_bb, ne_bb, int_i, int_b, abs_i, len_l, len_f, len_t, list_l, list_t, tuple_l, tuple_t, not_b, truth_b, truth_i, ix_l, ix_f, ix_t, cut_l, min_ii, max_ii, gN, gT, gTs, at_0, at_1, at_2, at_3, decide_eq_true_eq, Bool.not_true, Bool.not_false, Bool.false_eq_true, Int.reduceEq, Int.reduceNeg, Int.reduceLT, Int.reduceLE, Int.reduceAdd, Int.reduceSub, D.int.injEq, D.bl.injEq, reduceCtorEq, ne_eq, not_true_eq_false, not_false_eq_true, List.getElem?_cons_succ, List.getElem?_cons_zero, Option.getD_some, Option.getD_none, ↓xp_chain, ↓nxS_nx, iter_l, iter_t, ↓xp_chain3, ↓wp_yes, ↓xp_iR3, ↓xp_iEn, ↓xp_iEn2, ↓xp_mut2, ↓xp_putD, ↓xp_dic0, lookD, kOf, enum_l, enum_s, listA_l, listA_f, listA_t, notT_b]
    refine wp_comp_map [a.1, a.2] (fun n => .int ((n : Nat) : Int)) (fun n => if n = a.1 then .int (p : Nat) else .int (q : Nat)) ?_
    simp only [↓wp_run, startE, ↓wp_sSeq, ↓thenS_nx, ↓thenS_rt, ↓thenS_bk, ↓thenS_ct, ↓xp_sSet, ↓xp_sDo, ↓xp_sRet, ↓wp_sIf, ↓wp_sNil, ↓wp_sBrk, ↓wp_sCnt, ↓xp_sAsg, ↓xp_sPar, ↓xp_sSetIx, ↓wp_sFor, ↓xp_tB, ↓xp_tTru, ↓wp_tNot, ↓wp_tAnd, ↓wp_tOr, ↓xp_wpV, ↓wp_C, ↓xp_V, ↓wp_O, ↓xp_R, ↓xp_e1, ↓xp_e2, ↓wp_if, ↓xp_and, ↓xp_or, ↓wp_lst, ↓wp_tup, ↓wp_nil, ↓xp_cons, ↓xp_call0, ↓xp_call1, ↓wp_anil, ↓wp_av, ↓wp_aw, ↓xp_mut1, ↓xp_mut0, ↓xp_cut, ↓wpP_none, ↓xp_psome, ↓xp_iA, ↓xp_iR1, ↓xp_iR2, exO_some, ↓reduceIte, ↓xp_end_rt, ↓xp_end_nx, ↓turn_nx, ↓turn_ct, ↓turn_bk, ↓turn_rt, get_val, get_slot, gets, looks, look, lookL, put, Option.bind_some, asB, asI, wipeE, backE, List.map_cons, List.map_nil, List.length_cons, List.length_nil, List.replicate, List.cons_append, List.nil_append, List.set_cons_zero, List.set_cons_succ, Nat.reduceAdd, Nat.reduceSub, add_ii, sub_ii, neg_i, lt_ii, le_ii, gt_ii, ge_ii, eq_ii, ne_ii, eq_bb, ne_bb, int_i, int_b, abs_i, len_l, len_f, len_t, list_l, list_t, tuple_l, tuple_t, not_b, truth_b, truth_i, ix_l, ix_f, ix_t, cut_l, min_ii, max_ii, gN, gT, gTs, at_0, at_1, at_2, at_3, decide_eq_true_eq, Bool.not_true, Bool.not_false, Bool.false_eq_true, Int.reduceEq, Int.reduceNeg, Int.reduceLT, Int.reduceLE, Int.reduceAdd, Int.reduceSub, D.int.injEq, D.bl.injEq, reduceCtorEq, ne_eq, not_true_eq_false, not_false_eq_true, List.getElem?_cons_succ, List.getElem?_cons_zero, Option.getD_some, Option.getD_none, ↓xp_chain, ↓nxS_nx, iter_l, iter_t, ↓xp_chain3, ↓wp_yes, ↓xp_iR3, ↓xp_iEn, ↓xp_iEn2, ↓xp_mut2, ↓xp_putD, ↓xp_dic0, lookD, kOf, enum_l, enum_s, listA_l, listA_f, listA_t, notT_b, it]
    refine ⟨by first | rfl | trivial, by simp, fun n hn => ⟨_, rfl, ?_⟩, ?_⟩
    · simp only [List.mem_cons, List.not_mem_nil, or_false] at hn
      by_cases e : n = a.1
      · subst e
        simp only [↓wp_run, startE, ↓wp_sSeq, ↓thenS_nx, ↓thenS_rt, ↓thenS_bk, ↓thenS_ct, ↓xp_sSet, ↓xp_sDo, ↓xp_sRet, ↓wp_sIf, ↓wp_sNil, ↓wp_sBrk, ↓wp_sCnt, ↓xp_sAsg, ↓xp_sPar, ↓xp_sSetIx, ↓wp_sFor, ↓xp_tB, ↓xp_tTru, ↓wp_tNot, ↓wp_tAnd, ↓wp_tOr, ↓xp_wpV, ↓wp_C, ↓xp_V, ↓wp_O, ↓xp_R, ↓xp_e1, ↓xp_e2, ↓wp_if, ↓xp_and, ↓xp_or, ↓wp_lst, ↓wp_tup, ↓wp_nil, ↓xp_cons, ↓xp_call0, ↓xp_call1, ↓wp_anil, ↓wp_av, ↓wp_aw, ↓xp_mut1, ↓xp_mut0, ↓xp_cut, ↓wpP_none, ↓xp_psome, ↓xp_iA, ↓xp_iR1, ↓xp_iR2, exO_some, ↓reduceIte, ↓xp_end_rt, ↓xp_end_nx, ↓turn_nx, ↓turn_ct, ↓turn_bk, ↓turn_rt, get_val, get_slot, gets, looks, look, lookL, put, Option.bind_some, asB, asI, wipeE, backE, List.map_cons, List.map_nil, List.length_cons, List.length_nil, List.replicate, List.cons_append, List.nil_append, List.set_cons_zero, List.set_cons_succ, Nat.reduceAdd, Nat.reduceSub, add_ii, sub_ii, neg_i, lt_ii, le_ii, gt_ii, ge_ii, eq_ii, ne_ii, eq_bb, ne_bb, int_i, int_b, abs_i, len_l, len_f, len_t, list_l, list_t, tuple_l, tuple_t, not_b, truth_b, truth_i, ix_l, ix_f, ix_t, cut_l, min_ii, max_ii, gN, gT, gTs, at_0, at_1, at_2, at_3, decide_eq_true_eq, Bool.not_true, Bool.not_false, Bool.false_eq_true, Int.reduceEq, Int.reduceNeg, Int.reduceLT, Int.reduceLE, Int.reduceAdd, Int.reduceSub, D.int.injEq, D.bl.injEq, reduceCtorEq, ne_eq, not_true_eq_false, not_false_eq_true, List.getElem?_cons_succ, List.getElem?_cons_zero, Option.getD_some, Option.getD_none, ↓xp_chain, ↓nxS_nx, iter_l, iter_t, ↓xp_chain3, ↓wp_yes, ↓xp_iR3, ↓xp_iEn, ↓xp_iEn2, ↓xp_mut2, ↓xp_putD, ↓xp_dic0, lookD, kOf, enum_l, enum_s, listA_l, listA_f, listA_t, notT_b, g1, if_true, and_self]
      · have e2 : n = a.2 := hn.elim (fun z => absurd z e) id
        subst e2
        simp only [↓wp_run, startE, ↓wp_sSeq, ↓thenS_nx, ↓thenS_rt, ↓thenS_bk, ↓thenS_ct, ↓xp_sSet, ↓xp_sDo, ↓xp_sRet, ↓wp_sIf, ↓wp_sNil, ↓wp_sBrk, ↓wp_sCnt, ↓xp_sAsg, ↓xp_sPar, ↓xp_sSetIx, ↓wp_sFor, ↓xp_tB, ↓xp_tTru, ↓wp_tNot, ↓wp_tAnd, ↓wp_tOr, ↓xp_wpV, ↓wp_C, ↓xp_V, ↓wp_O, ↓xp_R, ↓xp_e1, ↓xp_e2, ↓wp_if, ↓xp_and, ↓xp_or, ↓wp_lst, ↓wp_tup, ↓wp_nil, ↓xp_cons, ↓xp_call0, ↓xp_call1, ↓wp_anil, ↓wp_av, ↓wp_aw, ↓xp_mut1, ↓xp_mut0, ↓xp_cut, ↓wpP_none, ↓xp_psome, ↓xp_iA, ↓xp_iR1, ↓xp_iR2, exO_some, ↓reduceIte, ↓xp_end_rt, ↓xp_end_nx, ↓turn_nx, ↓turn_ct, ↓turn_bk, ↓turn_rt, get_val, get_slot, gets, looks, look, lookL, put, Option.bind_some, asB, asI, wipeE, backE, List.map_cons, List.map_nil, List.length_cons, List.length_nil, List.replicate, List.cons_append, List.nil_append, List.set_cons_zero, List.set_cons_succ, Nat.reduceAdd, Nat.reduceSub, add_ii, sub_ii, neg_i, lt_ii, le_ii, gt_ii, ge_ii, eq_ii, ne_ii, eq_bb, ne_bb, int_i, int_b, abs_i, len_l, len_f, len_t, list_l, list_t, tuple_l, tuple_t, not_b, truth_b, truth_i, ix_l, ix_f, ix_t, cut_l, min_ii, max_ii, gN, gT, gTs, at_0, at_1, at_2, at_3, decide_eq_true_eq, Bool.not_true, Bool.not_false, Bool.false_eq_true, Int.reduceEq, Int.reduceNeg, Int.reduceLT, Int.reduceLE, Int.reduceAdd, Int.reduceSub, D.int.injEq, D.bl.injEq, reduceCtorEq, ne_eq, not_true_eq_false, not_false_eq_true, List.getElem?_cons_succ, List.getElem?_cons_zero, Option.getD_some, Option.getD_none, ↓xp_chain, ↓nxS_nx, iter_l, iter_t, ↓xp_chain3, ↓wp_yes, ↓xp_iR3, ↓xp_iEn, ↓xp_iEn2, ↓xp_mut2, ↓xp_putD, ↓xp_dic0, lookD, kOf, enum_l, enum_s, listA_l, listA_f, listA_t, notT_b, g2, e, if_false, and_self]
    · have e : (if a.2 = a.1 then D.int ((p : Nat) : Int) else .int ((q : Nat) : Int)) = .int ((q : Nat) : Int) := by
        by_cases e : a.2 = a.1
        · rw [if_pos e]
          rw [e] at g2
          rw [g1] at g2
          injection g2 with g2
        · rw [if_neg e]
      simp only [↓wp_run, startE, ↓wp_sSeq, ↓thenS_nx, ↓thenS_rt, ↓thenS_bk, ↓thenS_ct, ↓xp_sSet, ↓xp_sDo, ↓xp_sRet, ↓wp_sIf, ↓wp_sNil, ↓wp_sBrk, ↓wp_sCnt, ↓xp_sAsg, ↓xp_sPar, ↓xp_sSetIx, ↓wp_sFor, ↓xp_tB, ↓xp_tTru, ↓wp_tNot, ↓wp_tAnd, ↓wp_tOr, ↓xp_wpV, ↓wp_C, ↓xp_V, ↓wp_O, ↓xp_R, ↓xp_e1, ↓xp_e2, ↓wp_if, ↓xp_and, ↓xp_or, ↓wp_lst, ↓wp_tup, ↓wp_nil, ↓xp_cons, ↓xp_call0, ↓xp_call1, ↓wp_anil, ↓wp_av, ↓wp_aw, ↓xp_mut1, ↓xp_mut0, ↓xp_cut, ↓wpP_none, ↓xp_psome, ↓xp_iA, ↓xp_iR1, ↓xp_iR2, exO_some, ↓reduceIte, ↓xp_end_rt, ↓xp_end_nx, ↓turn_nx, ↓turn_ct, ↓turn_bk, ↓turn_rt, get_val, get_slot, gets, looks, look, lookL, put, Option.bind_some, asB, asI, wipeE, backE, List.map_cons, List.map_nil, List.length_cons, List.length_nil, List.replicate, List.cons_append, List.nil_append, List.set_cons_zero, List.set_cons_succ, Nat.reduceAdd, Nat.reduceSub, add_ii, sub_ii, neg_i, lt_ii, le_ii, gt_ii, ge_ii, eq_ii, ne_ii, eq_bb, ne_bb, int_i, int_b, abs_i, len_l, len_f, len_t, list_l, list_t, tuple_l, tuple_t, not_b, truth_b, truth_i, ix_l, ix_f, ix_t, cut_l, min_ii, max_ii, gN, gT, gTs, at_0, at_1, at_2, at_3, decide_eq_true_eq, Bool.not_true, Bool.not_false, Bool.false_eq_true, Int.reduceEq, Int.reduceNeg, Int.reduceLT, Int.reduceLE, Int.reduceAdd, Int.reduceSub, D.int.injEq, D.bl.injEq, reduceCtorEq, ne_eq, not_true_eq_false, not_false_eq_true, List.getElem?_cons_succ, List.getElem?_cons_zero, Option.getD_some, Option.getD_none, ↓xp_chain, ↓nxS_nx, iter_l, iter_t, ↓xp_chain3, ↓wp_yes, ↓xp_iR3, ↓xp_iEn, ↓xp_iEn2, ↓xp_mut2, ↓xp_putD, ↓xp_dic0, lookD, kOf, enum_l, enum_s, listA_l, listA_f, listA_t, notT_b, e, sort2]
  rintro ε rfl
  refine wp_seq_of (fun ε => ε = [some (jn a), some (jn b), some (plc o), some (.lst [.int ((min p q : Nat) : Int), .int ((max p q : Nat) : Int)]), some (.lst [.int ((min r s : Nat) : Int), .int ((max r s : Nat) : Int)]), none]) ?_ ?_
  · simp only [↓wp_run, startE, ↓wp_sSeq, ↓thenS_nx, ↓thenS_rt, ↓thenS_bk, ↓thenS_ct, ↓xp_sSet, ↓xp_sDo, ↓xp_sRet, ↓wp_sIf, ↓wp_sNil, ↓wp_sBrk, ↓wp_sCnt, ↓xp_sAsg, ↓xp_sPar, ↓xp_sSetIx, ↓wp_sFor, ↓xp_tB, ↓xp_tTru, ↓wp_tNot, ↓wp_tAnd, ↓wp_tOr, ↓xp_wpV, ↓wp_C, ↓xp_V, ↓wp_O, ↓xp_R, ↓xp_e1, ↓xp_e2, ↓wp_if, ↓xp_and, ↓xp_or, ↓wp_lst, ↓wp_tup, ↓wp_nil, ↓xp_cons, ↓xp_call0, ↓xp_call1, ↓wp_anil, ↓wp_av, ↓wp_aw, ↓xp_mut1, ↓xp_mut0, ↓xp_cut, ↓wpP_none, ↓xp_psome, ↓xp_iA, ↓xp_iR1, ↓xp_iR2, exO_some, ↓reduceIte, ↓xp_end_rt, ↓xp_end_nx, ↓turn_nx, ↓turn_ct, ↓turn_bk, ↓turn_rt, get_val, get_slot, gets, looks, look, lookL, put, Option.bind_some, asB, asI, wipeE, backE, List.map_cons, List.map_nil, List.length_cons, List.length_nil, List.replicate, List.cons_append, List.nil_append, List.set_cons_zero, List.set_cons_succ, Nat.reduceAdd, Nat.reduceSub, add_ii, sub_ii, neg_i, lt_ii, le_ii, gt_ii, ge_ii, eq_ii, ne_ii, eq_bb, ne_bb, int_i, int_b, abs_i, len_l, len_f, len_t, list_l, list_t, tuple_l, tuple_t, not_b, truth_b, truth_i, ix_l, ix_f, ix_t, cut_l, min_ii, max_ii, gN, gT, gTs, at_0, at_1, at_2, at_3, decide_eq_true_eq, Bool.not_true, Bool.not_false, Bool.false_eq_true, Int.reduceEq, Int.reduceNeg, Int.reduceLT, Int.reduceLE, Int.reduceAdd, Int.reduceSub, D.int.injEq, D.bl.injEq, reduceCtorEq, ne_eq, not_true_eq_false, not_false_eq_true, List.getElem?_cons_succ, List.getElem?_cons_zero, Option.getD_some, Option.getD_none, ↓xp_chain, ↓nxS_nx, iter_l, iter_t, ↓xp_chain3, ↓wp_yes, ↓xp_iR3, ↓xp_iEn, ↓xp_iEn2, ↓xp_mut2, ↓xp_putD, ↓xp_dic0, lookD, kOf, enum_l, enum_s, listA_l, listA_f, listA_t, notT_b]
    refine wp_comp_map [b.1, b.2] (fun n => .int ((n : Nat) : Int)) (fun n => if n = b.1 then .int (r : Nat) else .int (s : Nat)) ?_
    simp only [↓wp_run, startE, ↓wp_sSeq, ↓thenS_nx, ↓thenS_rt, ↓thenS_bk, ↓thenS_ct, ↓xp_sSet, ↓xp_sDo, ↓xp_sRet, ↓wp_sIf, ↓wp_sNil, ↓wp_sBrk, ↓wp_sCnt, ↓xp_sAsg, ↓xp_sPar, ↓xp_sSetIx, ↓wp_sFor, ↓xp_tB, ↓xp_tTru, ↓wp_tNot, ↓wp_tAnd, ↓wp_tOr, ↓xp_wpV, ↓wp_C, ↓xp_V, ↓wp_O, ↓xp_R, ↓xp_e1, ↓xp_e2, ↓wp_if, ↓xp_and, ↓xp_or, ↓wp_lst, ↓wp_tup, ↓wp_nil, ↓xp_cons, ↓xp_call0, ↓xp_call1, ↓wp_anil, ↓wp_av, ↓wp_aw, ↓xp_mut1, ↓xp_mut0, ↓xp_cut, ↓wpP_none, ↓xp_psome, ↓xp_iA, ↓xp_iR1, ↓xp_iR2, exO_some, ↓reduceIte, ↓xp_end_rt, ↓xp_end_nx, ↓turn_nx, ↓turn_ct, ↓turn_bk, ↓turn_rt, get_val, get_slot, gets, looks, look, lookL, put, Option.bind_some, asB, asI, wipeE, backE, List.map_cons, List.map_nil, List.length_cons, List.length_nil, List.replicate, List.cons_append, List.nil_append, List.set_cons_zero, List.set_cons_succ, Nat.reduceAdd, Nat.reduceSub, add_ii, sub_ii, neg_i, lt_ii, le_ii, gt_ii, ge_ii, eq_ii, ne_ii, eq_bb, ne_bb, int_i, int_b, abs_i, len_l, len_f, len_t, list_l, list_t, tuple_l, tuple_t, not_b, truth_b, truth_i, ix_l, ix_f, ix_t, cut_l, min_ii, max_ii, gN, gT, gTs, at_0, at_1, at_2, at_3, decide_eq_true_eq, Bool.not_true, Bool.not_false, Bool.false_eq_true, Int.reduceEq, Int.reduceNeg, Int.reduceLT, Int.reduceLE, Int.reduceAdd, Int.reduceSub, D.int.injEq, D.bl.injEq, reduceCtorEq, ne_eq, not_true_eq_false, not_false_eq_true, List.getElem?_cons_succ, List.getElem?_cons_zero, Option.getD_some, Option.getD_none, ↓xp_chain, ↓nxS_nx, iter_l, iter_t, ↓xp_chain3, ↓wp_yes, ↓xp_iR3, ↓xp_iEn, ↓xp_iEn2, ↓xp_mut2, ↓xp_putD, ↓xp_dic0, lookD, kOf, enum_l, enum_s, listA_l, listA_f, listA_t, notT_b, it]
    refine ⟨by first | rfl | trivial, by simp, fun n hn => ⟨_, rfl, ?_⟩, ?_⟩
    · simp only [List.mem_cons, List.not_mem_nil, or_false] at hn
      by_cases e : n = b.1
      · subst e
        simp only [↓wp_run, startE, ↓wp_sSeq, ↓thenS_nx, ↓thenS_rt, ↓thenS_bk, ↓thenS_ct, ↓xp_sSet, ↓xp_sDo, ↓xp_sRet, ↓wp_sIf, ↓wp_sNil, ↓wp_sBrk, ↓wp_sCnt, ↓xp_sAsg, ↓xp_sPar, ↓xp_sSetIx, ↓wp_sFor, ↓xp_tB, ↓xp_tTru, ↓wp_tNot, ↓wp_tAnd, ↓wp_tOr, ↓xp_wpV, ↓wp_C, ↓xp_V, ↓wp_O, ↓xp_R, ↓xp_e1, ↓xp_e2, ↓wp_if, ↓xp_and, ↓xp_or, ↓wp_lst, ↓wp_tup, ↓wp_nil, ↓xp_cons, ↓xp_call0, ↓xp_call1, ↓wp_anil, ↓wp_av, ↓wp_aw, ↓xp_mut1, ↓xp_mut0, ↓xp_cut, ↓wpP_none, ↓xp_psome, ↓xp_iA, ↓xp_iR1, ↓xp_iR2, exO_some, ↓reduceIte, ↓xp_end_rt, ↓xp_end_nx, ↓turn_nx, ↓turn_ct, ↓turn_bk, ↓turn_rt, get_val, get_slot, gets, looks, look, lookL, put, Option.bind_some, asB, asI, wipeE, backE, List.map_cons, List.map_nil, List.length_cons, List.length_nil, List.replicate, List.cons_append, List.nil_append, List.set_cons_zero, List.set_cons_succ, Nat.reduceAdd, Nat.reduceSub, add_ii, sub_ii, neg_i, lt_ii, le_ii, gt_ii, ge_ii, eq_ii, ne_ii, eq_bb, ne_bb, int_i, int_b, abs_i, len_l, len_f, len_t, list_l, list_t, tuple_l, tuple_t, not_b, truth_b, truth_i, ix_l, ix_f, ix_t, cut_l, min_ii, max_ii, gN, gT, gTs, at_0, at_1, at_2, at_3, decide_eq_true_eq, Bool.not_true, Bool.not_false, Bool.false_eq_true, Int.reduceEq, Int.reduceNeg, Int.reduceLT, Int.reduceLE, Int.reduceAdd, Int.reduceSub, D.int.injEq, D.bl.injEq, reduceCtorEq, ne_eq, not_true_eq_false, not_false_eq_true, List.getElem?_cons_succ, List.getElem?_cons_zero, Option.getD_some, Option.getD_none, ↓xp_chain, ↓nxS_nx, iter_l, iter_t, ↓xp_chain3, ↓wp_yes, ↓xp_iR3, ↓xp_iEn, ↓xp_iEn2, ↓xp_mut2, ↓xp_putD, ↓xp_dic0, lookD, kOf, enum_l, enum_s, listA_l, listA_f, listA_t, notT_b, g3, if_true, and_self]
      · have e2 : n = b.2 := hn.elim (fun z => absurd z e) id
        subst e2
        simp only [↓wp_run, startE, ↓wp_sSeq, ↓thenS_nx, ↓thenS_rt, ↓thenS_bk, ↓thenS_ct, ↓xp_sSet, ↓xp_sDo, ↓xp_sRet, ↓wp_sIf, ↓wp_sNil, ↓wp_sBrk, ↓wp_sCnt, ↓xp_sAsg, ↓xp_sPar, ↓xp_sSetIx, ↓wp_sFor, ↓xp_tB, ↓xp_tTru, ↓wp_tNot, ↓wp_tAnd, ↓wp_tOr, ↓xp_wpV, ↓wp_C, ↓xp_V, ↓wp_O, ↓xp_R, ↓xp_e1, ↓xp_e2, ↓wp_if, ↓xp_and, ↓xp_or, ↓wp_lst, ↓wp_tup, ↓wp_nil, ↓xp_cons, ↓xp_call0, ↓xp_call1, ↓wp_anil, ↓wp_av, ↓wp_aw, ↓xp_mut1, ↓xp_mut0, ↓xp_cut, ↓wpP_none, ↓xp_psome, ↓xp_iA, ↓xp_iR1, ↓xp_iR2, exO_some, ↓reduceIte, ↓xp_end_rt, ↓xp_end_nx, ↓turn_nx, ↓turn_ct, ↓turn_bk, ↓turn_rt, get_val, get_slot, gets, looks, look, lookL, put, Option.bind_some, asB, asI, wipeE, backE, List.map_cons, List.map_nil, List.length_cons, List.length_nil, List.replicate, List.cons_append, List.nil_append, List.set_cons_zero, List.set_cons_succ, Nat.reduceAdd, Nat.reduceSub, add_ii, sub_ii, neg_i, lt_ii, le_ii, gt_ii, ge_ii, eq_ii, ne_ii, eq_bb, ne_bb, int_i, int_b, abs_i, len_l, len_f, len_t, list_l, list_t, tuple_l, tuple_t, not_b, truth_b, truth_i, ix_l, ix_f, ix_t, cut_l, min_ii, max_ii, gN, gT, gTs, at_0, at_1, at_2, at_3, decide_eq_true_eq, Bool.not_true, Bool.not_false, Bool.false_eq_true, Int.reduceEq, Int.reduceNeg, Int.reduceLT, Int.reduceLE, Int.reduceAdd, Int.reduceSub, D.int.injEq, D.bl.injEq, reduceCtorEq, ne_eq, not_true_eq_false, not_false_eq_true, List.getElem?_cons_succ, List.getElem?_cons_zero, Option.getD_some, Option.getD_none, ↓xp_chain, ↓nxS_nx, iter_l, iter_t, ↓xp_chain3, ↓wp_yes, ↓xp_iR3, ↓xp_iEn, ↓xp_iEn2, ↓xp_mut2, ↓xp_putD, ↓xp_dic0, lookD, kOf, enum_l, enum_s, listA_l, listA_f, listA_t, notT_b, g4, e, if_false, and_self]
    · have e : (if b.2 = b.1 then D.int ((r : Nat) : Int) else .int ((s : Nat) : Int)) = .int ((s : Nat) : Int) := by
        by_cases e : b.2 = b.1
        · rw [if_pos e]
          rw [e] at g4
          rw [g3] at g4
          injection g4 with g4
        · rw [if_neg e]
      simp only [↓wp_run, startE, ↓wp_sSeq, ↓thenS_nx, ↓thenS_rt, ↓thenS_bk, ↓thenS_ct, ↓xp_sSet, ↓xp_sDo, ↓xp_sRet, ↓wp_sIf, ↓wp_sNil, ↓wp_sBrk, ↓wp_sCnt, ↓xp_sAsg, ↓xp_sPar, ↓xp_sSetIx, ↓wp_sFor, ↓xp_tB, ↓xp_tTru, ↓wp_tNot, ↓wp_tAnd, ↓wp_tOr, ↓xp_wpV, ↓wp_C, ↓xp_V, ↓wp_O, ↓xp_R, ↓xp_e1, ↓xp_e2, ↓wp_if, ↓xp_and, ↓xp_or, ↓wp_lst, ↓wp_tup, ↓wp_nil, ↓xp_cons, ↓xp_call0, ↓xp_call1, ↓wp_anil, ↓wp_av, ↓wp_aw, ↓xp_mut1, ↓xp_mut0, ↓xp_cut, ↓wpP_none, ↓xp_psome, ↓xp_iA, ↓xp_iR1, ↓xp_iR2, exO_some, ↓reduceIte, ↓xp_end_rt, ↓xp_end_nx, ↓turn_nx, ↓turn_ct, ↓turn_bk, ↓turn_rt, get_val, get_slot, gets, looks, look, lookL, put, Option.bind_some, asB, asI, wipeE, backE, List.map_cons, List.map_nil, List.length_cons, List.length_nil, List.replicate, List.cons_append, List.nil_append, List.set_cons_zero, List.set_cons_succ, Nat.reduceAdd, Nat.reduceSub, add_ii, sub_ii, neg_i, lt_ii, le_ii, gt_ii, ge_ii, eq_ii, ne_ii, eq_bb, ne_bb, int_i, int_b, abs_i, len_l, len_f, len_t, list_l, list_t, tuple_l, tuple_t, not_b, truth_b, truth_i, ix_l, ix_f, ix_t, cut_l, min_ii, max_ii, gN, gT, gTs, at_0, at_1, at_2, at_3, decide_eq_true_eq, Bool.not_true, Bool.not_false, Bool.false_eq_true, Int.reduceEq, Int.reduceNeg, Int.reduceLT, Int.reduceLE, Int.reduceAdd, Int.reduceSub, D.int.injEq, D.bl.injEq, reduceCtorEq, ne_eq, not_true_eq_false, not_false_eq_true, List.getElem?_cons_succ, List.getElem?_cons_zero, Option.getD_some, Option.getD_none, ↓xp_chain, ↓nxS_nx, iter_l, iter_t, ↓xp_chain3, ↓wp_yes, ↓xp_iR3, ↓xp_iEn, ↓xp_iEn2, ↓xp_mut2, ↓xp_putD, ↓xp_dic0, lookD, kOf, enum_l, enum_s, listA_l, listA_f, listA_t, notT_b, e, sort2]
  rintro ε rfl
  unfold alt2
  have dc : ∀ x y : Nat, decide (((x : Nat) : Int) < ((y : Nat) : Int)) = decide (x < y) := fun x y => decide_eq_decide.mpr (by omega)
  have i0 : ∀ x y : Nat, dIx (.lst [.int ((x : Nat) : Int), .int ((y : Nat) : Int)]) (.int 0) = some (.int ((x : Nat) : Int)) := fun x y => rfl
  have i1 : ∀ x y : Nat, dIx (.lst [.int ((x : Nat) : Int), .int ((y : Nat) : Int)]) (.int 1) = some (.int ((y : Nat) : Int)) := fun x y => rfl
  generalize min p q = u at *
  generalize max p q = v at *
  generalize min r s = w at *
  generalize max r s = x at *
  simp only [Bool.decide_and]
  cases c1 : decide (u < w) <;> cases c2 : decide (w < v) <;> cases c3 : decide (v < x) <;> cases c4 : decide (w < u) <;> cases c5 : decide (u < x) <;> cases c6 : decide (x < v) <;>
    simp only [↓wp_run, startE, ↓wp_sSeq, ↓thenS_nx, ↓thenS_rt, ↓thenS_bk, ↓thenS_ct, ↓xp_sSet, ↓xp_sDo, ↓xp_sRet, ↓wp_sIf, ↓wp_sNil, ↓wp_sBrk, ↓wp_sCnt, ↓xp_sAsg, ↓xp_sPar, ↓xp_sSetIx, ↓wp_sFor, ↓xp_tB, ↓xp_tTru, ↓wp_tNot, ↓wp_tAnd, ↓wp_tOr, ↓xp_wpV, ↓wp_C, ↓xp_V, ↓wp_O, ↓xp_R, ↓xp_e1, ↓xp_e2, ↓wp_if, ↓xp_and, ↓xp_or, ↓wp_lst, ↓wp_tup, ↓wp_nil, ↓xp_cons, ↓xp_call0, ↓xp_call1, ↓wp_anil, ↓wp_av, ↓wp_aw, ↓xp_mut1, ↓xp_mut0, ↓xp_cut, ↓wpP_none, ↓xp_psome, ↓xp_iA, ↓xp_iR1, ↓xp_iR2, exO_some, ↓reduceIte, ↓xp_end_rt, ↓xp_end_nx, ↓turn_nx, ↓turn_ct, ↓turn_bk, ↓turn_rt, get_val, get_slot, gets, looks, look, lookL, put, Option.bind_some, asB, asI, wipeE, backE, List.map_cons, List.map_nil, List.length_cons, List.length_nil, List.replicate, List.cons_append, List.nil_append, List.set_cons_zero, List.set_cons_succ, Nat.reduceAdd, Nat.reduceSub, add_ii, sub_ii, neg_i, lt_ii, le_ii, gt_ii, ge_ii, eq_ii, ne_ii, eq_bb, ne_bb, int_i, int_b, abs_i, len_l, len_f, len_t, list_l, list_t, tuple_l, tuple_t, not_b, truth_b, truth_i, ix_l, ix_f, ix_t, cut_l, min_ii, max_ii, gN, gT, gTs, at_0, at_1, at_2, at_3, decide_eq_true_eq, Bool.not_true, Bool.not_false, Bool.false_eq_true, Int.reduceEq, Int.reduceNeg, Int.reduceLT, Int.reduceLE, Int.reduceAdd, Int.reduceSub, D.int.injEq, D.bl.injEq, reduceCtorEq, ne_eq, not_true_eq_false, not_false_eq_true, List.getElem?_cons_succ, List.getElem?_cons_zero, Option.getD_some, Option.getD_none, ↓xp_chain, ↓nxS_nx, iter_l, iter_t, ↓xp_chain3, ↓wp_yes, ↓xp_iR3, ↓xp_iEn, ↓xp_iEn2, ↓xp_mut2, ↓xp_putD, ↓xp_dic0, lookD, kOf, enum_l, enum_s, listA_l, listA_f, listA_t, notT_b, at_0, at_1, dc, c1, c2, c3, c4, c5, c6, Bool.and_true, Bool.and_false, Bool.true_and, Bool.false_and, Bool.or_true, Bool.or_false, Bool.true_or, and_self]
def gd (o : List Nat) : Prop := o.Nodup ∧ (∀ s < o.length, s ∈ o) ∧ o.length ≤ 100
def lt2 : List Nat → List Nat → Bool
  | [], [] => false
  | [], _ :: _ => true
  | _ :: _, [] => false
  | x :: a, y :: b => decide (x < y) || (decide (x = y) && lt2 a b)
theorem lt2_trans : ∀ {a b c : List Nat}, lt2 a b = true → lt2 b c = true → lt2 a c = true
  | [], _, [], h, g => by
    rename_i b
    cases b <;> simp [lt2] at h g
  | [], _, _ :: _, _, _ => rfl
  | _ :: _, [], _, h, _ => by simp [lt2] at h
  | _ :: _, _ :: _, [], _, g => by simp [lt2] at g
  | x :: a, y :: b, z :: c, h, g => by
    simp only [lt2, Bool.or_eq_true, Bool.and_eq_true, decide_eq_true_eq] at h g ⊢
    rcases h with h | ⟨h1, h2⟩ <;> rcases g with g | ⟨g1, g2⟩
    · exact .inl (by omega)
    · exact .inl (by omega)
    · exact .inl (by omega)
    · exact .inr ⟨by omega, lt2_trans h2 g2⟩
theorem lt2_total : ∀ {a b : List Nat}, lt2 a b = false → lt2 b a = false → a = b
  | [], [], _, _ => rfl
  | [], _ :: _, h, _ => by simp [lt2] at h
  | _ :: _, [], _, h => by simp [lt2] at h
  | x :: a, y :: b, h, g => by
    simp only [lt2, Bool.or_eq_false_iff, Bool.and_eq_false_iff, decide_eq_false_iff_not] at h g
    have e : x = y := by omega
    subst e
    rw [lt2_total (h.2.resolve_left fun z => z rfl) (g.2.resolve_left fun z => z rfl)]
theorem lt2_asymm {a b : List Nat} (h : lt2 a b = true) : lt2 b a = false := by
  cases e : lt2 b a with
  | false => rfl
  | true =>
    have := lt2_trans h e
    have irr : ∀ a : List Nat, lt2 a a = false := by
      intro a
      induction a with
      | nil => rfl
      | cons x a ih => simp [lt2, ih]
    rw [irr] at this; cases this
theorem toks_lt : ∀ a b : List Nat, PyProof.Rows.lexLt PyProof.Rows.itemOrd (PySem.W.keyToksAll (toPys (il (ni a)))) (PySem.W.keyToksAll (toPys (il (ni b)))) = lt2 a b
  | [], [] => rfl
  | [], y :: b => by
    simp [ni, il, toPys, PySem.W.keyToksAll, PyProof.Rows.lexLt, PyProof.Rows.itemLt, lt2]
  | x :: a, [] => by
    simp [ni, il, toPys, PySem.W.keyToksAll, PyProof.Rows.lexLt, PyProof.Rows.itemLt, lt2]
  | x :: a, y :: b => by
    have ih := toks_lt a b
    have e : ∀ (x : Nat) (a : List Nat), PySem.W.keyToksAll (toPys (il (ni (x :: a)))) = .inl 1 :: .inl ((x : Nat) : Int) :: PySem.W.keyToksAll (toPys (il (ni a))) := fun x a => by
      simp [ni, il, toPys, toPy, PySem.W.keyToksAll, PySem.W.keyToks]
    rw [e, e, PyProof.Rows.lex_cons, PyProof.Rows.lex_cons, ih]
    show (decide ((1 : Int) < 1) || (!decide ((1 : Int) < 1) && (decide (((x : Nat) : Int) < (y : Nat)) || (!decide (((y : Nat) : Int) < (x : Nat)) && lt2 a b)))) = (decide (x < y) || (decide (x = y) && lt2 a b))
    have h1 : decide (((x : Nat) : Int) < (y : Nat)) = decide (x < y) := decide_eq_decide.mpr (by omega)
    have h2 : decide (((y : Nat) : Int) < (x : Nat)) = decide (y < x) := decide_eq_decide.mpr (by omega)
    rw [h1, h2]
    by_cases c1 : x < y
    · simp [c1]
    · by_cases c2 : x = y
      · subst c2; simp
      · have c3 : y < x := by omega
        simp [c1, c2, c3]
theorem le_nn (a b : List Nat) : PySem.W.dataLe false toPy (nn a) (nn b) = !lt2 b a := by
  have e : PySem.W.dataLe false toPy (nn a) (nn b) = !PySem.W.dataLt (toPy (nn b)) (toPy (nn a)) := rfl
  have e2 : ∀ a : List Nat, PySem.W.keyToks (toPy (nn a)) = PySem.W.keyToksAll (toPys (il (ni a))) := fun a => by
    simp [nn, nl, toPy, PySem.W.keyToks]
  rw [e, PySem.W.dataLt, e2, e2, toks_lt]
theorem alike_il : ∀ a b : List Int, PySem.W.alikeAll (toPys (il a)) (toPys (il b)) = true
  | [], _ => by simp [il, toPys, PySem.W.alikeAll]
  | _ :: _, [] => by simp [il, toPys, PySem.W.alikeAll]
  | x :: a, y :: b => by
    have ih := alike_il a b
    unfold il at ih ⊢
    simp only [List.map_cons, toPys, PySem.W.alikeAll, ih, Bool.and_true]
    simp [toPy, PySem.W.alike]
theorem sort_nns (X : List (List Nat)) : dSortX (.lst (nns X)) = some (.lst (srt (nns X))) := by
  have h : sortOk (nns X) = true := by
    unfold sortOk
    simp only [Bool.and_eq_true, Bool.or_eq_true, List.all_eq_true]
    refine ⟨⟨fun x hx y hy => ?_, .inr fun x hx => ?_⟩, ?_⟩
    · obtain ⟨c, _, rfl⟩ := List.mem_map.mp hx
      obtain ⟨c', _, rfl⟩ := List.mem_map.mp hy
      simp only [nn, nl, toPy, PySem.W.alike]
      exact alike_il _ _
    · obtain ⟨c, _, rfl⟩ := List.mem_map.mp hx
      rfl
    · rw [nns_nll]; exact can_nll 57 _
  simp only [dSortX, h, if_true]
def ext (s : Nat) (X : List (List Nat)) : List (List Nat) := X.flatMap fun o => (List.range (s + 1)).map fun a => o.take a ++ [s] ++ o.drop a
theorem gd_perm {o : List Nat} {n : Nat} (h : o.Perm (List.range n)) (hn : n ≤ 100) : gd o ∧ o.length = n := by
  have hl : o.length = n := by rw [h.length_eq, List.length_range]
  refine ⟨⟨h.nodup_iff.mpr List.nodup_range, fun s hs => h.mem_iff.mpr (List.mem_range.mpr (by omega)), by omega⟩, hl⟩
theorem ext_perm {k : Nat} {X : List (List Nat)} (h : ∀ o ∈ X, o.Perm (List.range (k + 1))) : ∀ o ∈ ext (k + 1) X, o.Perm (List.range (k + 2)) := fun o ho => by
  obtain ⟨o1, h1, h2⟩ := List.mem_flatMap.mp ho
  obtain ⟨a, _, rfl⟩ := List.mem_map.mp h2
  have e : (o1.take a ++ [k + 1] ++ o1.drop a).Perm ((k + 1) :: o1) := by
    rw [List.append_assoc, List.singleton_append]
    refine List.perm_middle.trans ?_
    rw [List.take_append_drop]
  rw [List.range_succ]
  exact e.trans (((h o1 h1).cons _).trans (List.perm_append_singleton _ _).symm)
theorem idx_ne {o : List Nat} {a b : Nat} (ha : a ∈ o) (h : a ≠ b) : o.idxOf a ≠ o.idxOf b := fun e => by
  have h1 : o.idxOf a < o.length := List.idxOf_lt_length_iff.mpr ha
  have e1 : o[o.idxOf a]? = some a := by rw [List.getElem?_eq_getElem h1, List.getElem_idxOf]
  have h2 : o.idxOf b < o.length := e ▸ h1
  have e2 : o[o.idxOf b]? = some b := by rw [List.getElem?_eq_getElem h2, List.getElem_idxOf]
  rw [e, e2] at e1
  injection e1 with e1
  exact h e1.symm
theorem rev_nn (l : List Nat) : dRev (nn l) = some (nn l.reverse) := by
  show some (D.lst (il (ni l)).reverse) = _
  unfold nn nl il ni
  rw [← List.map_reverse, ← List.map_reverse]
theorem rg_nn {n : Nat} : D.lst (rangeL 0 1 n) = nn (List.range n) := by
  unfold nn nl il ni rangeL
  rw [List.map_map]
  congr 1
  refine List.map_congr_left fun i _ => ?_
  rw [show (0 : Int) + (i : Nat) * 1 = (i : Nat) by omega]; rfl
theorem ixN_n {n k : Nat} (h : k < n) : ixN n ((k : Nat) : Int) = some k := by
  unfold ixN
  rw [if_pos (by omega), if_pos (by omega)]
  simp
theorem erase_ni {l : List Nat} {k : Nat} : (il (ni l)).eraseIdx k = il (ni (l.eraseIdx k)) := by
  unfold il ni
  induction l generalizing k with
  | nil => simp
  | cons x l ih =>
    cases k with
    | zero => simp
    | succ k => simp only [List.map_cons, List.eraseIdx_cons_succ, ih]
theorem pop_nn {l : List Nat} {k : Nat} (h : k < l.length) (h2 : l.length ≤ 1000) : fPop1 (il (ni l)) (.int (k : Nat)) = some (il (ni (l.eraseIdx k)), .int ((l[k] : Nat) : Int)) := by
  have h1 : (decide (-9223372036854775808 ≤ ((k : Nat) : Int)) && decide (((k : Nat) : Int) < 9223372036854775808)) = true := by simp; omega
  have h2 : ixN (il (ni l)).length ((k : Nat) : Int) = some k := ixN_n (by rw [il_len, ni_len]; exact h)
  have h3 : (il (ni l))[k]? = some (.int ((l[k] : Nat) : Int)) := by unfold il ni; rw [List.getElem?_map, List.getElem?_map, List.getElem?_eq_getElem h]; rfl
  simp only [fPop1, h1, if_true, h2, Option.bind_some, h3, erase_ni]
theorem erase_perm : ∀ {l : List Nat} {k : Nat} (h : k < l.length), (l[k] :: l.eraseIdx k).Perm l
  | x :: l, 0, _ => by simp
  | x :: l, k + 1, h => by
    have ih := erase_perm (l := l) (k := k) (by simpa using h)
    simp only [List.getElem_cons_succ, List.eraseIdx_cons_succ]
    exact (List.Perm.swap _ _ _).trans (ih.cons x)
theorem srt_mem {ds : List D} {d : D} : d ∈ srt ds ↔ d ∈ ds := List.mem_mergeSort
theorem srt_len (ds : List D) : (srt ds).length = ds.length := List.length_mergeSort _
/-! joints of maps -/
structure Jt where
  a : Nat
  b : Nat
  s : Nat
deriving DecidableEq
def jD (j : Jt) : D := .tup [.int (j.a : Nat), .int (j.b : Nat), .str [j.s]]
theorem jD_inj {x y : Jt} (h : jD x = jD y) : x = y := by
  obtain ⟨a, b, s⟩ := x
  obtain ⟨a', b', s'⟩ := y
  simp only [jD, D.tup.injEq, List.cons.injEq, D.int.injEq, D.str.injEq, and_true] at h
  obtain ⟨h1, h2, h3⟩ := h
  have e1 : a = a' := by omega
  have e2 : b = b' := by omega
  rw [e1, e2, h3]
def jc (R C r c : Nat) : List Jt :=
  (if c + 1 < C then [⟨r * C + c, r * C + c + 1, if c % 2 = 0 then 101 else 119⟩] else []) ++ (if r + 1 < R then [⟨r * C + c, r * C + c + C, if r % 2 = 0 then 115 else 110⟩] else [])
def jrow (R C r m : Nat) : List Jt := (List.range m).flatMap fun c => jc R C r c
def jall (R C n : Nat) : List Jt := (List.range n).flatMap fun r => jrow R C r C
theorem alike_j (x y : Jt) : PySem.W.alike (toPy (jD x)) (toPy (jD y)) = true := by simp [jD, toPy, toPys, PySem.W.alike, PySem.W.alikeAll]
theorem can_j : ∀ (n : Nat) (L : List Jt), canEqs (L.map jD) (n + 2) = true
  | _, [] => rfl
  | n, x :: L => by
    rw [List.map_cons, canEqs, can_j n L]
    simp [jD, canEq, canEqs]
theorem sort_j (L : List Jt) : dSortX (.lst (L.map jD)) = some (.lst (srt (L.map jD))) := by
  have h : sortOk (L.map jD) = true := by
    unfold sortOk
    simp only [Bool.and_eq_true, Bool.or_eq_true, List.all_eq_true]
    refine ⟨⟨fun x hx y hy => ?_, .inl fun x hx => ?_⟩, can_j 56 L⟩
    · obtain ⟨c, _, rfl⟩ := List.mem_map.mp hx
      obtain ⟨c', _, rfl⟩ := List.mem_map.mp hy
      exact alike_j c c'
    · obtain ⟨c, _, rfl⟩ := List.mem_map.mp hx
      rfl
  simp only [dSortX, h, if_true]
theorem srt_j (J : List Jt) : ∃ L : List Jt, srt (J.map jD) = L.map jD ∧ L.length = J.length ∧ ∀ j, j ∈ L ↔ j ∈ J := by
  have key : ∀ ds : List D, (∀ d ∈ ds, ∃ j, d = jD j) → ∃ L : List Jt, ds = L.map jD := by
    intro ds
    induction ds with
    | nil => intro _; exact ⟨[], rfl⟩
    | cons d ds ih =>
      intro h
      obtain ⟨j, rfl⟩ := h d (List.mem_cons_self ..)
      obtain ⟨L, rfl⟩ := ih fun d hd => h d (List.mem_cons_of_mem _ hd)
      exact ⟨j :: L, rfl⟩
  obtain ⟨L, hL⟩ := key (srt (J.map jD)) fun d hd => by
    obtain ⟨j, _, rfl⟩ := List.mem_map.mp (srt_mem.mp hd)
    exact ⟨j, rfl⟩
  refine ⟨L, hL, ?_, fun j => ?_⟩
  · have := srt_len (J.map jD)
    rw [hL, List.length_map, List.length_map] at this
    exact this
  · have h1 : jD j ∈ srt (J.map jD) ↔ jD j ∈ J.map jD := srt_mem
    rw [hL] at h1
    constructor
    · intro h
      obtain ⟨j', hj', e⟩ := List.mem_map.mp (h1.mp (List.mem_map.mpr ⟨j, h, rfl⟩))
      exact jD_inj e ▸ hj'
    · intro h
      obtain ⟨j', hj', e⟩ := List.mem_map.mp (h1.mpr (List.mem_map.mpr ⟨j, h, rfl⟩))
      exact jD_inj e ▸ hj'
theorem mod2 (k : Nat) : dMod (.int ((k : Nat) : Int)) (.int 2) = some (.int ((k % 2 : Nat) : Int)) := modN (c := 2) (by decide)
theorem smallN {n : Nat} (h : n ≤ 6) : smallI ((n : Nat) : Int) = true := by
  have : n = 0 ∨ n = 1 ∨ n = 2 ∨ n = 3 ∨ n = 4 ∨ n = 5 ∨ n = 6 := by omega
  rcases this with rfl | rfl | rfl | rfl | rfl | rfl | rfl <;> decide
theorem mulN {r n : Nat} (h : n ≤ 6) : dMul (.int ((r : Nat) : Int)) (.int ((n : Nat) : Int)) = some (.int ((r * n : Nat) : Int)) := by
  rw [mul_litr (smallN h), Int.natCast_mul]
/-- the sizes -/
def Sz (R C : Nat) : Prop := 1 ≤ R ∧ 1 ≤ C ∧ R ≤ 5 ∧ C ≤ 5
section
variable {R C : Nat}
theorem one_len {p : Prop} [Decidable p] {α : Type} (x : α) : (if p then [x] else []).length ≤ 1 := by
  by_cases h : p
  · rw [if_pos h]; simp
  · rw [if_neg h]; simp
theorem jc_len (R C r c : Nat) : (jc R C r c).length ≤ 2 := by
  unfold jc
  rw [List.length_append]
  have h1 := one_len (p := c + 1 < C) (⟨r * C + c, r * C + c + 1, if c % 2 = 0 then 101 else 119⟩ : Jt)
  have h2 := one_len (p := r + 1 < R) (⟨r * C + c, r * C + c + C, if r % 2 = 0 then 115 else 110⟩ : Jt)
  omega
theorem jrow_len (R C r : Nat) : ∀ m, (jrow R C r m).length ≤ 2 * m
  | 0 => by simp [jrow]
  | m + 1 => by
    have := jrow_len R C r m
    have := jc_len R C r m
    unfold jrow at *
    rw [List.range_succ, List.flatMap_append, List.length_append]
    simp only [List.flatMap_cons, List.flatMap_nil, List.append_nil]
    omega
theorem jall_len (R C : Nat) : ∀ n, (jall R C n).length ≤ 2 * C * n
  | 0 => by simp [jall]
  | n + 1 => by
    have h1 := jall_len R C n
    have h2 := jrow_len R C n C
    unfold jall at *
    rw [List.range_succ, List.flatMap_append, List.length_append, Nat.mul_add, Nat.mul_one]
    simp only [List.flatMap_cons, List.flatMap_nil, List.append_nil]
    omega
theorem joints_eq (h : Sz R C) : joints_f [.int (R : Nat), .int (C : Nat)] = some (.lst (srt ((jall R C R).map jD)), []) := by
  obtain ⟨h1, h2, h3, h4⟩ := h
  rw [wpF_iff]
  unfold joints_f joints_b
  rw [wp_run]
  have hbR : inB (R : Nat) = true := inb (by omega) (by omega)
  have hbC : inB (C : Nat) = true := inb (by omega) (by omega)
  refine wp_seq_of (fun ε => ε = [some (.int (R : Nat)), some (.int (C : Nat)), some (.lst ((jall R C 0).map jD)), none, none, none]) (by simp only [↓wp_run, startE, ↓wp_sSeq, ↓thenS_nx, ↓thenS_rt, ↓thenS_bk, ↓thenS_ct, ↓xp_sSet, ↓xp_sDo, ↓xp_sRet, ↓wp_sIf, ↓wp_sNil, ↓wp_sBrk, ↓wp_sCnt, ↓xp_sAsg, ↓xp_sPar, ↓xp_sSetIx, ↓wp_sFor, ↓xp_tB, ↓xp_tTru, ↓wp_tNot, ↓wp_tAnd, ↓wp_tOr, ↓xp_wpV, ↓wp_C, ↓xp_V, ↓wp_O, ↓xp_R, ↓xp_e1, ↓xp_e2, ↓wp_if, ↓xp_and, ↓xp_or, ↓wp_lst, ↓wp_tup, ↓wp_nil, ↓xp_cons, ↓xp_call0, ↓xp_call1, ↓wp_anil, ↓wp_av, ↓wp_aw, ↓xp_mut1, ↓xp_mut0, ↓xp_cut, ↓wpP_none, ↓xp_psome, ↓xp_iA, ↓xp_iR1, ↓xp_iR2, exO_some, ↓reduceIte, ↓xp_end_rt, ↓xp_end_nx, ↓turn_nx, ↓turn_ct, ↓turn_bk, ↓turn_rt, get_val, get_slot, gets, looks, look, lookL, put, Option.bind_some, asB, asI, wipeE, backE, List.map_cons, List.map_nil, List.length_cons, List.length_nil, List.replicate, List.cons_append, List.nil_append, List.set_cons_zero, List.set_cons_succ, Nat.reduceAdd, Nat.reduceSub, add_ii, sub_ii, neg_i, lt_ii, le_ii, gt_ii, ge_ii, eq_ii, ne_ii, eq_bb, ne_bb, int_i, int_b, abs_i, len_l, len_f, len_t, list_l, list_t, tuple_l, tuple_t, not_b, truth_b, truth_i, ix_l, ix_f, ix_t, cut_l, min_ii, max_ii, gN, gT, gTs, at_0, at_1, at_2, at_3, decide_eq_true_eq, Bool.not_true, Bool.not_false, Bool.false_eq_true, Int.reduceEq, Int.reduceNeg, Int.reduceLT, Int.reduceLE, Int.reduceAdd, Int.reduceSub, D.int.injEq, D.bl.injEq, reduceCtorEq, ne_eq, not_true_eq_false, not_false_eq_true, List.getElem?_cons_succ, List.getElem?_cons_zero, Option.getD_some, Option.getD_none, ↓xp_chain, ↓nxS_nx, iter_l, iter_t, ↓xp_chain3, ↓wp_yes, ↓xp_iR3, ↓xp_iEn, ↓xp_iEn2, ↓xp_mut2, ↓xp_putD, ↓xp_dic0, lookD, kOf, enum_l, enum_s, listA_l, listA_f, listA_t, notT_b]; rfl) ?_
  rintro ε rfl
  refine wp_seq_of (fun ε => ∃ z3 z4 z5, ε = [some (.int (R : Nat)), some (.int (C : Nat)), some (.lst ((jall R C R).map jD)), z3, z4, z5]) ?_ ?_
  · simp only [↓wp_run, startE, ↓wp_sSeq, ↓thenS_nx, ↓thenS_rt, ↓thenS_bk, ↓thenS_ct, ↓xp_sSet, ↓xp_sDo, ↓xp_sRet, ↓wp_sIf, ↓wp_sNil, ↓wp_sBrk, ↓wp_sCnt, ↓xp_sAsg, ↓xp_sPar, ↓xp_sSetIx, ↓wp_sFor, ↓xp_tB, ↓xp_tTru, ↓wp_tNot, ↓wp_tAnd, ↓wp_tOr, ↓xp_wpV, ↓wp_C, ↓xp_V, ↓wp_O, ↓xp_R, ↓xp_e1, ↓xp_e2, ↓wp_if, ↓xp_and, ↓xp_or, ↓wp_lst, ↓wp_tup, ↓wp_nil, ↓xp_cons, ↓xp_call0, ↓xp_call1, ↓wp_anil, ↓wp_av, ↓wp_aw, ↓xp_mut1, ↓xp_mut0, ↓xp_cut, ↓wpP_none, ↓xp_psome, ↓xp_iA, ↓xp_iR1, ↓xp_iR2, exO_some, ↓reduceIte, ↓xp_end_rt, ↓xp_end_nx, ↓turn_nx, ↓turn_ct, ↓turn_bk, ↓turn_rt, get_val, get_slot, gets, looks, look, lookL, put, Option.bind_some, asB, asI, wipeE, backE, List.map_cons, List.map_nil, List.length_cons, List.length_nil, List.replicate, List.cons_append, List.nil_append, List.set_cons_zero, List.set_cons_succ, Nat.reduceAdd, Nat.reduceSub, add_ii, sub_ii, neg_i, lt_ii, le_ii, gt_ii, ge_ii, eq_ii, ne_ii, eq_bb, ne_bb, int_i, int_b, abs_i, len_l, len_f, len_t, list_l, list_t, tuple_l, tuple_t, not_b, truth_b, truth_i, ix_l, ix_f, ix_t, cut_l, min_ii, max_ii, gN, gT, gTs, at_0, at_1, at_2, at_3, decide_eq_true_eq, Bool.not_true, Bool.not_false, Bool.false_eq_true, Int.reduceEq, Int.reduceNeg, Int.reduceLT, Int.reduceLE, Int.reduceAdd, Int.reduceSub, D.int.injEq, D.bl.injEq, reduceCtorEq, ne_eq, not_true_eq_false, not_false_eq_true, List.getElem?_cons_succ, List.getElem?_cons_zero, Option.getD_some, Option.getD_none, ↓xp_chain, ↓nxS_nx, iter_l, iter_t, ↓xp_chain3, ↓wp_yes, ↓xp_iR3, ↓xp_iEn, ↓xp_iEn2, ↓xp_mut2, ↓xp_putD, ↓xp_dic0, lookD, kOf, enum_l, enum_s, listA_l, listA_f, listA_t, notT_b]
    refine ⟨hbR, ?_⟩
    rw [Int.toNat_natCast]
    refine wp_for (fun r ε => ∃ z3 z4 z5, ε = [some (.int (R : Nat)), some (.int (C : Nat)), some (.lst ((jall R C r).map jD)), z3, z4, z5]) ⟨_, _, _, rfl⟩ (fun r z ε hd w => ?_) (fun ε w => ?_)
    · obtain ⟨z3, z4, z5, rfl⟩ := w
      obtain ⟨hr, rfl⟩ := rangeL_get hd
      rw [show (0 : Int) + (r : Nat) * 1 = (r : Nat) by omega]
      refine ⟨_, rfl, ?_⟩
      simp only [↓wp_run, startE, ↓wp_sSeq, ↓thenS_nx, ↓thenS_rt, ↓thenS_bk, ↓thenS_ct, ↓xp_sSet, ↓xp_sDo, ↓xp_sRet, ↓wp_sIf, ↓wp_sNil, ↓wp_sBrk, ↓wp_sCnt, ↓xp_sAsg, ↓xp_sPar, ↓xp_sSetIx, ↓wp_sFor, ↓xp_tB, ↓xp_tTru, ↓wp_tNot, ↓wp_tAnd, ↓wp_tOr, ↓xp_wpV, ↓wp_C, ↓xp_V, ↓wp_O, ↓xp_R, ↓xp_e1, ↓xp_e2, ↓wp_if, ↓xp_and, ↓xp_or, ↓wp_lst, ↓wp_tup, ↓wp_nil, ↓xp_cons, ↓xp_call0, ↓xp_call1, ↓wp_anil, ↓wp_av, ↓wp_aw, ↓xp_mut1, ↓xp_mut0, ↓xp_cut, ↓wpP_none, ↓xp_psome, ↓xp_iA, ↓xp_iR1, ↓xp_iR2, exO_some, ↓reduceIte, ↓xp_end_rt, ↓xp_end_nx, ↓turn_nx, ↓turn_ct, ↓turn_bk, ↓turn_rt, get_val, get_slot, gets, looks, look, lookL, put, Option.bind_some, asB, asI, wipeE, backE, List.map_cons, List.map_nil, List.length_cons, List.length_nil, List.replicate, List.cons_append, List.nil_append, List.set_cons_zero, List.set_cons_succ, Nat.reduceAdd, Nat.reduceSub, add_ii, sub_ii, neg_i, lt_ii, le_ii, gt_ii, ge_ii, eq_ii, ne_ii, eq_bb, ne_bb, int_i, int_b, abs_i, len_l, len_f, len_t, list_l, list_t, tuple_l, tuple_t, not_b, truth_b, truth_i, ix_l, ix_f, ix_t, cut_l, min_ii, max_ii, gN, gT, gTs, at_0, at_1, at_2, at_3, decide_eq_true_eq, Bool.not_true, Bool.not_false, Bool.false_eq_true, Int.reduceEq, Int.reduceNeg, Int.reduceLT, Int.reduceLE, Int.reduceAdd, Int.reduceSub, D.int.injEq, D.bl.injEq, reduceCtorEq, ne_eq, not_true_eq_false, not_false_eq_true, List.getElem?_cons_succ, List.getElem?_cons_zero, Option.getD_some, Option.getD_none, ↓xp_chain, ↓nxS_nx, iter_l, iter_t, ↓xp_chain3, ↓wp_yes, ↓xp_iR3, ↓xp_iEn, ↓xp_iEn2, ↓xp_mut2, ↓xp_putD, ↓xp_dic0, lookD, kOf, enum_l, enum_s, listA_l, listA_f, listA_t, notT_b]
      refine ⟨hbC, ?_⟩
      rw [Int.toNat_natCast]
      have hjl := jall_len R C r
      have hcr : 2 * C * r ≤ 50 := Nat.le_trans (Nat.mul_le_mul (show 2 * C ≤ 10 by omega) (show r ≤ 5 by omega)) (by decide)
      refine wp_for (fun c ε => ∃ z4 z5, ε = [some (.int (R : Nat)), some (.int (C : Nat)), some (.lst ((jall R C r ++ jrow R C r c).map jD)), some (.int (r : Nat)), z4, z5]) ⟨z4, z5, by simp [jrow]⟩ (fun c z ε hd w => ?_) (fun ε w => ?_)
      · obtain ⟨z4, z5, rfl⟩ := w
        obtain ⟨hc, rfl⟩ := rangeL_get hd
        rw [show (0 : Int) + (c : Nat) * 1 = (c : Nat) by omega]
        refine ⟨_, rfl, ?_⟩
        have hmu := mulN (r := r) (n := C) (by omega)
        have hrl := jrow_len R C r c
        have hjr : jrow R C r (c + 1) = jrow R C r c ++ jc R C r c := by
          unfold jrow
          rw [List.range_succ, List.flatMap_append]; simp
        have hap : ∀ (L : List Jt) (j : Jt), L.length ≤ 1000 → fApp (L.map jD) (jD j) = some ((L ++ [j]).map jD, .non) := fun L j hL => by
          rw [app_ok (by rw [List.length_map]; omega)]; simp
        have hL : (jall R C r ++ jrow R C r c).length ≤ 100 := by rw [List.length_append]; omega
        rw [hjr, ← List.append_assoc]
        generalize jall R C r ++ jrow R C r c = L at *
        have hm1 := mod2 c
        have hm2 := mod2 r
        have e1 : ((r * C : Nat) : Int) + ((c : Nat) : Int) = ((r * C + c : Nat) : Int) := by omega
        have j1 : ∀ s : Nat, D.tup [.int ((r * C + c : Nat) : Int), .int (((r * C + c : Nat) : Int) + 1), .str [s]] = jD ⟨r * C + c, r * C + c + 1, s⟩ := fun s => by
          unfold jD
          rw [show ((r * C + c : Nat) : Int) + 1 = ((r * C + c + 1 : Nat) : Int) by omega]
        have j2 : ∀ s : Nat, D.tup [.int ((r * C + c : Nat) : Int), .int (((r * C + c : Nat) : Int) + ((C : Nat) : Int)), .str [s]] = jD ⟨r * C + c, r * C + c + C, s⟩ := fun s => by
          unfold jD
          rw [show ((r * C + c : Nat) : Int) + ((C : Nat) : Int) = ((r * C + c + C : Nat) : Int) by omega]
        refine wp_seq_of (fun ε => ε = [some (.int (R : Nat)), some (.int (C : Nat)), some (.lst (L.map jD)), some (.int (r : Nat)), some (.int (c : Nat)), some (.int ((r * C + c : Nat) : Int))]) (by simp only [↓wp_run, startE, ↓wp_sSeq, ↓thenS_nx, ↓thenS_rt, ↓thenS_bk, ↓thenS_ct, ↓xp_sSet, ↓xp_sDo, ↓xp_sRet, ↓wp_sIf, ↓wp_sNil, ↓wp_sBrk, ↓wp_sCnt, ↓xp_sAsg, ↓xp_sPar, ↓xp_sSetIx, ↓wp_sFor, ↓xp_tB, ↓xp_tTru, ↓wp_tNot, ↓wp_tAnd, ↓wp_tOr, ↓xp_wpV, ↓wp_C, ↓xp_V, ↓wp_O, ↓xp_R, ↓xp_e1, ↓xp_e2, ↓wp_if, ↓xp_and, ↓xp_or, ↓wp_lst, ↓wp_tup, ↓wp_nil, ↓xp_cons, ↓xp_call0, ↓xp_call1, ↓wp_anil, ↓wp_av, ↓wp_aw, ↓xp_mut1, ↓xp_mut0, ↓xp_cut, ↓wpP_none, ↓xp_psome, ↓xp_iA, ↓xp_iR1, ↓xp_iR2, exO_some, ↓reduceIte, ↓xp_end_rt, ↓xp_end_nx, ↓turn_nx, ↓turn_ct, ↓turn_bk, ↓turn_rt, get_val, get_slot, gets, looks, look, lookL, put, Option.bind_some, asB, asI, wipeE, backE, List.map_cons, List.map_nil, List.length_cons, List.length_nil, List.replicate, List.cons_append, List.nil_append, List.set_cons_zero, List.set_cons_succ, Nat.reduceAdd, Nat.reduceSub, add_ii, sub_ii, neg_i, lt_ii, le_ii, gt_ii, ge_ii, eq_ii, ne_ii, eq_bb, ne_bb, int_i, int_b, abs_i, len_l, len_f, len_t, list_l, list_t, tuple_l, tuple_t, not_b, truth_b, truth_i, ix_l, ix_f, ix_t, cut_l, min_ii, max_ii, gN, gT, gTs, at_0, at_1, at_2, at_3, decide_eq_true_eq, Bool.not_true, Bool.not_false, Bool.false_eq_true, Int.reduceEq, Int.reduceNeg, Int.reduceLT, Int.reduceLE, Int.reduceAdd, Int.reduceSub, D.int.injEq, D.bl.injEq, reduceCtorEq, ne_eq, not_true_eq_false, not_false_eq_true, List.getElem?_cons_succ, List.getElem?_cons_zero, Option.getD_some, Option.getD_none, ↓xp_chain, ↓nxS_nx, iter_l, iter_t, ↓xp_chain3, ↓wp_yes, ↓xp_iR3, ↓xp_iEn, ↓xp_iEn2, ↓xp_mut2, ↓xp_putD, ↓xp_dic0, lookD, kOf, enum_l, enum_s, listA_l, listA_f, listA_t, notT_b, hmu, e1]) ?_
        rintro ε rfl
        refine wp_seq_of (fun ε => ε = [some (.int (R : Nat)), some (.int (C : Nat)), some (.lst ((L ++ (if c + 1 < C then [(⟨r * C + c, r * C + c + 1, if c % 2 = 0 then 101 else 119⟩ : Jt)] else [])).map jD)), some (.int (r : Nat)), some (.int (c : Nat)), some (.int ((r * C + c : Nat) : Int))]) ?_ ?_
        · by_cases q : c + 1 < C
          · have q' : ((c : Nat) : Int) + 1 < ((C : Nat) : Int) := by omega
            by_cases p : c % 2 = 0
            · have p' : ((c % 2 : Nat) : Int) = 0 := by omega
              have ha := hap L ⟨r * C + c, r * C + c + 1, 101⟩ (by omega)
              have hs : (if c % 2 = 0 then 101 else 119) = 101 := if_pos p
              simp only [↓wp_run, startE, ↓wp_sSeq, ↓thenS_nx, ↓thenS_rt, ↓thenS_bk, ↓thenS_ct, ↓xp_sSet, ↓xp_sDo, ↓xp_sRet, ↓wp_sIf, ↓wp_sNil, ↓wp_sBrk, ↓wp_sCnt, ↓xp_sAsg, ↓xp_sPar, ↓xp_sSetIx, ↓wp_sFor, ↓xp_tB, ↓xp_tTru, ↓wp_tNot, ↓wp_tAnd, ↓wp_tOr, ↓xp_wpV, ↓wp_C, ↓xp_V, ↓wp_O, ↓xp_R, ↓xp_e1, ↓xp_e2, ↓wp_if, ↓xp_and, ↓xp_or, ↓wp_lst, ↓wp_tup, ↓wp_nil, ↓xp_cons, ↓xp_call0, ↓xp_call1, ↓wp_anil, ↓wp_av, ↓wp_aw, ↓xp_mut1, ↓xp_mut0, ↓xp_cut, ↓wpP_none, ↓xp_psome, ↓xp_iA, ↓xp_iR1, ↓xp_iR2, exO_some, ↓reduceIte, ↓xp_end_rt, ↓xp_end_nx, ↓turn_nx, ↓turn_ct, ↓turn_bk, ↓turn_rt, get_val, get_slot, gets, looks, look, lookL, put, Option.bind_some, asB, asI, wipeE, backE, List.map_cons, List.map_nil, List.length_cons, List.length_nil, List.replicate, List.cons_append, List.nil_append, List.set_cons_zero, List.set_cons_succ, Nat.reduceAdd, Nat.reduceSub, add_ii, sub_ii, neg_i, lt_ii, le_ii, gt_ii, ge_ii, eq_ii, ne_ii, eq_bb, ne_bb, int_i, int_b, abs_i, len_l, len_f, len_t, list_l, list_t, tuple_l, tuple_t, not_b, truth_b, truth_i, ix_l, ix_f, ix_t, cut_l, min_ii, max_ii, gN, gT, gTs, at_0, at_1, at_2, at_3, decide_eq_true_eq, Bool.not_true, Bool.not_false, Bool.false_eq_true, Int.reduceEq, Int.reduceNeg, Int.reduceLT, Int.reduceLE, Int.reduceAdd, Int.reduceSub, D.int.injEq, D.bl.injEq, reduceCtorEq, ne_eq, not_true_eq_false, not_false_eq_true, List.getElem?_cons_succ, List.getElem?_cons_zero, Option.getD_some, Option.getD_none, ↓xp_chain, ↓nxS_nx, iter_l, iter_t, ↓xp_chain3, ↓wp_yes, ↓xp_iR3, ↓xp_iEn, ↓xp_iEn2, ↓xp_mut2, ↓xp_putD, ↓xp_dic0, lookD, kOf, enum_l, enum_s, listA_l, listA_f, listA_t, notT_b, q, q', decide_true, hm1, hs, p', if_true, j1, ha]
            · have p' : ¬ ((c % 2 : Nat) : Int) = 0 := by omega
              have ha := hap L ⟨r * C + c, r * C + c + 1, 119⟩ (by omega)
              have hs : (if c % 2 = 0 then 101 else 119) = 119 := if_neg p
              simp only [↓wp_run, startE, ↓wp_sSeq, ↓thenS_nx, ↓thenS_rt, ↓thenS_bk, ↓thenS_ct, ↓xp_sSet, ↓xp_sDo, ↓xp_sRet, ↓wp_sIf, ↓wp_sNil, ↓wp_sBrk, ↓wp_sCnt, ↓xp_sAsg, ↓xp_sPar, ↓xp_sSetIx, ↓wp_sFor, ↓xp_tB, ↓xp_tTru, ↓wp_tNot, ↓wp_tAnd, ↓wp_tOr, ↓xp_wpV, ↓wp_C, ↓xp_V, ↓wp_O, ↓xp_R, ↓xp_e1, ↓xp_e2, ↓wp_if, ↓xp_and, ↓xp_or, ↓wp_lst, ↓wp_tup, ↓wp_nil, ↓xp_cons, ↓xp_call0, ↓xp_call1, ↓wp_anil, ↓wp_av, ↓wp_aw, ↓xp_mut1, ↓xp_mut0, ↓xp_cut, ↓wpP_none, ↓xp_psome, ↓xp_iA, ↓xp_iR1, ↓xp_iR2, exO_some, ↓reduceIte, ↓xp_end_rt, ↓xp_end_nx, ↓turn_nx, ↓turn_ct, ↓turn_bk, ↓turn_rt, get_val, get_slot, gets, looks, look, lookL, put, Option.bind_some, asB, asI, wipeE, backE, List.map_cons, List.map_nil, List.length_cons, List.length_nil, List.replicate, List.cons_append, List.nil_append, List.set_cons_zero, List.set_cons_succ, Nat.reduceAdd, Nat.reduceSub, add_ii, sub_ii, neg_i, lt_ii, le_ii, gt_ii, ge_ii, eq_ii, ne_ii, eq_bb, ne_bb, int_i, int_b, abs_i, len_l, len_f, len_t, list_l, list_t, tuple_l, tuple_t, not_b, truth_b, truth_i, ix_l, ix_f, ix_t, cut_l, min_ii, max_ii, gN, gT, gTs, at_0, at_1, at_2, at_3, decide_eq_true_eq, Bool.not_true, Bool.not_false, Bool.false_eq_true, Int.reduceEq, Int.reduceNeg, Int.reduceLT, Int.reduceLE, Int.reduceAdd, Int.reduceSub, D.int.injEq, D.bl.injEq, reduceCtorEq, ne_eq, not_true_eq_false, not_false_eq_true, List.getElem?_cons_succ, List.getElem?_cons_zero, Option.getD_some, Option.getD_none, ↓xp_chain, ↓nxS_nx, iter_l, iter_t, ↓xp_chain3, ↓wp_yes, ↓xp_iR3, ↓xp_iEn, ↓xp_iEn2, ↓xp_mut2, ↓xp_putD, ↓xp_dic0, lookD, kOf, enum_l, enum_s, listA_l, listA_f, listA_t, notT_b, q, q', decide_true, hm1, hs, p', decide_false, Bool.false_eq_true, if_true, if_false, j1, ha]
          · have q' : ¬ ((c : Nat) : Int) + 1 < ((C : Nat) : Int) := by omega
            simp only [↓wp_run, startE, ↓wp_sSeq, ↓thenS_nx, ↓thenS_rt, ↓thenS_bk, ↓thenS_ct, ↓xp_sSet, ↓xp_sDo, ↓xp_sRet, ↓wp_sIf, ↓wp_sNil, ↓wp_sBrk, ↓wp_sCnt, ↓xp_sAsg, ↓xp_sPar, ↓xp_sSetIx, ↓wp_sFor, ↓xp_tB, ↓xp_tTru, ↓wp_tNot, ↓wp_tAnd, ↓wp_tOr, ↓xp_wpV, ↓wp_C, ↓xp_V, ↓wp_O, ↓xp_R, ↓xp_e1, ↓xp_e2, ↓wp_if, ↓xp_and, ↓xp_or, ↓wp_lst, ↓wp_tup, ↓wp_nil, ↓xp_cons, ↓xp_call0, ↓xp_call1, ↓wp_anil, ↓wp_av, ↓wp_aw, ↓xp_mut1, ↓xp_mut0, ↓xp_cut, ↓wpP_none, ↓xp_psome, ↓xp_iA, ↓xp_iR1, ↓xp_iR2, exO_some, ↓reduceIte, ↓xp_end_rt, ↓xp_end_nx, ↓turn_nx, ↓turn_ct, ↓turn_bk, ↓turn_rt, get_val, get_slot, gets, looks, look, lookL, put, Option.bind_some, asB, asI, wipeE, backE, List.map_cons, List.map_nil, List.length_cons, List.length_nil, List.replicate, List.cons_append, List.nil_append, List.set_cons_zero, List.set_cons_succ, Nat.reduceAdd, Nat.reduceSub, add_ii, sub_ii, neg_i, lt_ii, le_ii, gt_ii, ge_ii, eq_ii, ne_ii, eq_bb, ne_bb, int_i, int_b, abs_i, len_l, len_f, len_t, list_l, list_t, tuple_l, tuple_t, not_b, truth_b, truth_i, ix_l, ix_f, ix_t, cut_l, min_ii, max_ii, gN, gT, gTs, at_0, at_1, at_2, at_3, decide_eq_true_eq, Bool.not_true, Bool.not_false, Bool.false_eq_true, Int.reduceEq, Int.reduceNeg, Int.reduceLT, Int.reduceLE, Int.reduceAdd, Int.reduceSub, D.int.injEq, D.bl.injEq, reduceCtorEq, ne_eq, not_true_eq_false, not_false_eq_true, List.getElem?_cons_succ, List.getElem?_cons_zero, Option.getD_some, Option.getD_none, ↓xp_chain, ↓nxS_nx, iter_l, iter_t, ↓xp_chain3, ↓wp_yes, ↓xp_iR3, ↓xp_iEn, ↓xp_iEn2, ↓xp_mut2, ↓xp_putD, ↓xp_dic0, lookD, kOf, enum_l, enum_s, listA_l, listA_f, listA_t, notT_b, q, q', decide_false, if_false, List.append_nil]
        rintro ε rfl
        have hL2 : (L ++ (if c + 1 < C then [(⟨r * C + c, r * C + c + 1, if c % 2 = 0 then 101 else 119⟩ : Jt)] else [])).length ≤ 101 := by
          rw [List.length_append]
          have := one_len (p := c + 1 < C) (⟨r * C + c, r * C + c + 1, if c % 2 = 0 then 101 else 119⟩ : Jt)
          omega
        have hfin : L ++ jc R C r c = (L ++ (if c + 1 < C then [(⟨r * C + c, r * C + c + 1, if c % 2 = 0 then 101 else 119⟩ : Jt)] else [])) ++ (if r + 1 < R then [(⟨r * C + c, r * C + c + C, if r % 2 = 0 then 115 else 110⟩ : Jt)] else []) := by
          unfold jc; rw [List.append_assoc]
        rw [hfin]
        generalize L ++ (if c + 1 < C then [(⟨r * C + c, r * C + c + 1, if c % 2 = 0 then 101 else 119⟩ : Jt)] else []) = M at *
        by_cases q : r + 1 < R
        · have q' : ((r : Nat) : Int) + 1 < ((R : Nat) : Int) := by omega
          by_cases p : r % 2 = 0
          · have p' : ((r % 2 : Nat) : Int) = 0 := by omega
            have ha := hap M ⟨r * C + c, r * C + c + C, 115⟩ (by omega)
            have hs : (if r % 2 = 0 then 115 else 110) = 115 := if_pos p
            simp only [↓wp_run, startE, ↓wp_sSeq, ↓thenS_nx, ↓thenS_rt, ↓thenS_bk, ↓thenS_ct, ↓xp_sSet, ↓xp_sDo, ↓xp_sRet, ↓wp_sIf, ↓wp_sNil, ↓wp_sBrk, ↓wp_sCnt, ↓xp_sAsg, ↓xp_sPar, ↓xp_sSetIx, ↓wp_sFor, ↓xp_tB, ↓xp_tTru, ↓wp_tNot, ↓wp_tAnd, ↓wp_tOr, ↓xp_wpV, ↓wp_C, ↓xp_V, ↓wp_O, ↓xp_R, ↓xp_e1, ↓xp_e2, ↓wp_if, ↓xp_and, ↓xp_or, ↓wp_lst, ↓wp_tup, ↓wp_nil, ↓xp_cons, ↓xp_call0, ↓xp_call1, ↓wp_anil, ↓wp_av, ↓wp_aw, ↓xp_mut1, ↓xp_mut0, ↓xp_cut, ↓wpP_none, ↓xp_psome, ↓xp_iA, ↓xp_iR1, ↓xp_iR2, exO_some, ↓reduceIte, ↓xp_end_rt, ↓xp_end_nx, ↓turn_nx, ↓turn_ct, ↓turn_bk, ↓turn_rt, get_val, get_slot, gets, looks, look, lookL, put, Option.bind_some, asB, asI, wipeE, backE, List.map_cons, List.map_nil, List.length_cons, List.length_nil, List.replicate, List.cons_append, List.nil_append, List.set_cons_zero, List.set_cons_succ, Nat.reduceAdd, Nat.reduceSub, add_ii, sub_ii, neg_i, lt_ii, le_ii, gt_ii, ge_ii, eq_ii, ne_ii, eq_bb, ne_bb, int_i, int_b, abs_i, len_l, len_f, len_t, list_l, list_t, tuple_l, tuple_t, not_b, truth_b, truth_i, ix_l, ix_f, ix_t, cut_l, min_ii, max_ii, gN, gT, gTs, at_0, at_1, at_2, at_3, decide_eq_true_eq, Bool.not_true, Bool.not_false, Bool.false_eq_true, Int.reduceEq, Int.reduceNeg, Int.reduceLT, Int.reduceLE, Int.reduceAdd, Int.reduceSub, D.int.injEq, D.bl.injEq, reduceCtorEq, ne_eq, not_true_eq_false, not_false_eq_true, List.getElem?_cons_succ, List.getElem?_cons_zero, Option.getD_some, Option.getD_none, ↓xp_chain, ↓nxS_nx, iter_l, iter_t, ↓xp_chain3, ↓wp_yes, ↓xp_iR3, ↓xp_iEn, ↓xp_iEn2, ↓xp_mut2, ↓xp_putD, ↓xp_dic0, lookD, kOf, enum_l, enum_s, listA_l, listA_f, listA_t, notT_b, q, q', decide_true, hm2, hs, p', if_true, j2, ha]
            exact ⟨_, _, rfl⟩
          · have p' : ¬ ((r % 2 : Nat) : Int) = 0 := by omega
            have ha := hap M ⟨r * C + c, r * C + c + C, 110⟩ (by omega)
            have hs : (if r % 2 = 0 then 115 else 110) = 110 := if_neg p
            simp only [↓wp_run, startE, ↓wp_sSeq, ↓thenS_nx, ↓thenS_rt, ↓thenS_bk, ↓thenS_ct, ↓xp_sSet, ↓xp_sDo, ↓xp_sRet, ↓wp_sIf, ↓wp_sNil, ↓wp_sBrk, ↓wp_sCnt, ↓xp_sAsg, ↓xp_sPar, ↓xp_sSetIx, ↓wp_sFor, ↓xp_tB, ↓xp_tTru, ↓wp_tNot, ↓wp_tAnd, ↓wp_tOr, ↓xp_wpV, ↓wp_C, ↓xp_V, ↓wp_O, ↓xp_R, ↓xp_e1, ↓xp_e2, ↓wp_if, ↓xp_and, ↓xp_or, ↓wp_lst, ↓wp_tup, ↓wp_nil, ↓xp_cons, ↓xp_call0, ↓xp_call1, ↓wp_anil, ↓wp_av, ↓wp_aw, ↓xp_mut1, ↓xp_mut0, ↓xp_cut, ↓wpP_none, ↓xp_psome, ↓xp_iA, ↓xp_iR1, ↓xp_iR2, exO_some, ↓reduceIte, ↓xp_end_rt, ↓xp_end_nx, ↓turn_nx, ↓turn_ct, ↓turn_bk, ↓turn_rt, get_val, get_slot, gets, looks, look, lookL, put, Option.bind_some, asB, asI, wipeE, backE, List.map_cons, List.map_nil, List.length_cons, List.length_nil, List.replicate, List.cons_append, List.nil_append, List.set_cons_zero, List.set_cons_succ, Nat.reduceAdd, Nat.reduceSub, add_ii, sub_ii, neg_i, lt_ii, le_ii, gt_ii, ge_ii, eq_ii, ne_ii, eq_bb, ne_bb, int_i, int_b, abs_i, len_l, len_f, len_t, list_l, list_t, tuple_l, tuple_t, not_b, truth_b, truth_i, ix_l, ix_f, ix_t, cut_l, min_ii, max_ii, gN, gT, gTs, at_0, at_1, at_2, at_3, decide_eq_true_eq, Bool.not_true, Bool.not_false, Bool.false_eq_true, Int.reduceEq, Int.reduceNeg, Int.reduceLT, Int.reduceLE, Int.reduceAdd, Int.reduceSub, D.int.injEq, D.bl.injEq, reduceCtorEq, ne_eq, not_true_eq_false, not_false_eq_true, List.getElem?_cons_succ, List.getElem?_cons_zero, Option.getD_some, Option.getD_none, ↓xp_chain, ↓nxS_nx, iter_l, iter_t, ↓xp_chain3, ↓wp_yes, ↓xp_iR3, ↓xp_iEn, ↓xp_iEn2, ↓xp_mut2, ↓xp_putD, ↓xp_dic0, lookD, kOf, enum_l, enum_s, listA_l, listA_f, listA_t, notT_b, q, q', decide_true, hm2, hs, p', decide_false, Bool.false_eq_true, if_true, if_false, j2, ha]
            exact ⟨_, _, rfl⟩
        · have q' : ¬ ((r : Nat) : Int) + 1 < ((R : Nat) : Int) := by omega
          simp only [↓wp_run, startE, ↓wp_sSeq, ↓thenS_nx, ↓thenS_rt, ↓thenS_bk, ↓thenS_ct, ↓xp_sSet, ↓xp_sDo, ↓xp_sRet, ↓wp_sIf, ↓wp_sNil, ↓wp_sBrk, ↓wp_sCnt, ↓xp_sAsg, ↓xp_sPar, ↓xp_sSetIx, ↓wp_sFor, ↓xp_tB, ↓xp_tTru, ↓wp_tNot, ↓wp_tAnd, ↓wp_tOr, ↓xp_wpV, ↓wp_C, ↓xp_V, ↓wp_O, ↓xp_R, ↓xp_e1, ↓xp_e2, ↓wp_if, ↓xp_and, ↓xp_or, ↓wp_lst, ↓wp_tup, ↓wp_nil, ↓xp_cons, ↓xp_call0, ↓xp_call1, ↓wp_anil, ↓wp_av, ↓wp_aw, ↓xp_mut1, ↓xp_mut0, ↓xp_cut, ↓wpP_none, ↓xp_psome, ↓xp_iA, ↓xp_iR1, ↓xp_iR2, exO_some, ↓reduceIte, ↓xp_end_rt, ↓xp_end_nx, ↓turn_nx, ↓turn_ct, ↓turn_bk, ↓turn_rt, get_val, get_slot, gets, looks, look, lookL, put, Option.bind_some, asB, asI, wipeE, backE, List.map_cons, List.map_nil, List.length_cons, List.length_nil, List.replicate, List.cons_append, List.nil_append, List.set_cons_zero, List.set_cons_succ, Nat.reduceAdd, Nat.reduceSub, add_ii, sub_ii, neg_i, lt_ii, le_ii, gt_ii, ge_ii, eq_ii, ne_ii, eq_bb, ne_bb, int_i, int_b, abs_i, len_l, len_f, len_t, list_l, list_t, tuple_l, tuple_t, not_b, truth_b, truth_i, ix_l, ix_f, ix_t, cut_l, min_ii, max_ii, gN, gT, gTs, at_0, at_1, at_2, at_3, decide_eq_true_eq, Bool.not_true, Bool.not_false, Bool.false_eq_true, Int.reduceEq, Int.reduceNeg, Int.reduceLT, Int.reduceLE, Int.reduceAdd, Int.reduceSub, D.int.injEq, D.bl.injEq, reduceCtorEq, ne_eq, not_true_eq_false, not_false_eq_true, List.getElem?_cons_succ, List.getElem?_cons_zero, Option.getD_some, Option.getD_none, ↓xp_chain, ↓nxS_nx, iter_l, iter_t, ↓xp_chain3, ↓wp_yes, ↓xp_iR3, ↓xp_iEn, ↓xp_iEn2, ↓xp_mut2, ↓xp_putD, ↓xp_dic0, lookD, kOf, enum_l, enum_s, listA_l, listA_f, listA_t, notT_b, q, q', decide_false, if_false, List.append_nil]
          exact ⟨_, _, rfl⟩
      · obtain ⟨z4, z5, rfl⟩ := w
        rw [rangeL_len]
        have e : jall R C (r + 1) = jall R C r ++ jrow R C r C := by
          unfold jall
          rw [List.range_succ, List.flatMap_append]; simp
        rw [e]
        exact ⟨_, _, _, rfl⟩
    · obtain ⟨z3, z4, z5, rfl⟩ := w
      rw [rangeL_len]
      exact ⟨_, _, _, rfl⟩
  rintro ε ⟨z3, z4, z5, rfl⟩
  simp only [↓wp_run, startE, ↓wp_sSeq, ↓thenS_nx, ↓thenS_rt, ↓thenS_bk, ↓thenS_ct, ↓xp_sSet, ↓xp_sDo, ↓xp_sRet, ↓wp_sIf, ↓wp_sNil, ↓wp_sBrk, ↓wp_sCnt, ↓xp_sAsg, ↓xp_sPar, ↓xp_sSetIx, ↓wp_sFor, ↓xp_tB, ↓xp_tTru, ↓wp_tNot, ↓wp_tAnd, ↓wp_tOr, ↓xp_wpV, ↓wp_C, ↓xp_V, ↓wp_O, ↓xp_R, ↓xp_e1, ↓xp_e2, ↓wp_if, ↓xp_and, ↓xp_or, ↓wp_lst, ↓wp_tup, ↓wp_nil, ↓xp_cons, ↓xp_call0, ↓xp_call1, ↓wp_anil, ↓wp_av, ↓wp_aw, ↓xp_mut1, ↓xp_mut0, ↓xp_cut, ↓wpP_none, ↓xp_psome, ↓xp_iA, ↓xp_iR1, ↓xp_iR2, exO_some, ↓reduceIte, ↓xp_end_rt, ↓xp_end_nx, ↓turn_nx, ↓turn_ct, ↓turn_bk, ↓turn_rt, get_val, get_slot, gets, looks, look, lookL, put, Option.bind_some, asB, asI, wipeE, backE, List.map_cons, List.map_nil, List.length_cons, List.length_nil, List.replicate, List.cons_append, List.nil_append, List.set_cons_zero, List.set_cons_succ, Nat.reduceAdd, Nat.reduceSub, add_ii, sub_ii, neg_i, lt_ii, le_ii, gt_ii, ge_ii, eq_ii, ne_ii, eq_bb, ne_bb, int_i, int_b, abs_i, len_l, len_f, len_t, list_l, list_t, tuple_l, tuple_t, not_b, truth_b, truth_i, ix_l, ix_f, ix_t, cut_l, min_ii, max_ii, gN, gT, gTs, at_0, at_1, at_2, at_3, decide_eq_true_eq, Bool.not_true, Bool.not_false, Bool.false_eq_true, Int.reduceEq, Int.reduceNeg, Int.reduceLT, Int.reduceLE, Int.reduceAdd, Int.reduceSub, D.int.injEq, D.bl.injEq, reduceCtorEq, ne_eq, not_true_eq_false, not_false_eq_true, List.getElem?_cons_succ, List.getElem?_cons_zero, Option.getD_some, Option.getD_none, ↓xp_chain, ↓nxS_nx, iter_l, iter_t, ↓xp_chain3, ↓wp_yes, ↓xp_iR3, ↓xp_iEn, ↓xp_iEn2, ↓xp_mut2, ↓xp_putD, ↓xp_dic0, lookD, kOf, enum_l, enum_s, listA_l, listA_f, listA_t, notT_b, sort_j, and_self]
end
/-! piles -/
theorem eq_s1 (a b : Nat) : dEq (.str [a]) (.str [b]) = some (.bl (decide (a = b))) := by
  unfold dEq
  simp [canEq, deq]
def CLb (L : List Jt) (o : List Nat) (s : Nat) : Bool := L.all fun x => L.all fun y => !(decide (x.b = s) && (decide (y.b ≤ s) && (decide (x.s = y.s) && AL o (x.a, x.b) (y.a, y.b))))
theorem cl_iff {L : List Jt} {o : List Nat} {s : Nat} : CLb L o s = true ↔ ∀ x ∈ L, ∀ y ∈ L, x.b = s → y.b ≤ s → x.s = y.s → AL o (x.a, x.b) (y.a, y.b) = false := by
  unfold CLb
  simp only [List.all_eq_true, Bool.not_eq_true', Bool.and_eq_false_iff, decide_eq_false_iff_not]
  constructor
  · intro h x hx y hy a b c
    rcases h x hx y hy with q | q | q | q
    · exact absurd a q
    · exact absurd b q
    · exact absurd c q
    · exact q
  · intro h x hx y hy
    by_cases a : x.b = s
    · by_cases b : y.b ≤ s
      · by_cases c : x.s = y.s
        · exact .inr (.inr (.inr (h x hx y hy a b c)))
        · exact .inr (.inr (.inl c))
      · exact .inr (.inl b)
    · exact .inl a
theorem cl_congr {L J : List Jt} (h : ∀ j, j ∈ L ↔ j ∈ J) (o : List Nat) (s : Nat) : CLb L o s = CLb J o s := by
  rw [Bool.eq_iff_iff, cl_iff, cl_iff]
  exact ⟨fun q x hx y hy => q x ((h x).mpr hx) y ((h y).mpr hy), fun q x hx y hy => q x ((h x).mp hx) y ((h y).mp hy)⟩
theorem can_lie_eq {L : List Jt} {o : List Nat} {s : Nat} (hLl : L.length ≤ 1000) (hL : ∀ j ∈ L, j.a < j.b) (g : gd o) (hs : o.length = s + 1) : can_lie_f [.lst (L.map jD), nn o, .int (s : Nat)] = some (.bl (CLb L o s), []) := by
  have ww : wpF can_lie_f [.lst (L.map jD), nn o, .int (s : Nat)] fun z ws => z = .bl (CLb L o s) ∧ ws = [] := by
    have hl := g.2.2
    unfold can_lie_f can_lie_b
    rw [wp_run]
    refine wp_seq_of (fun ε => ε = [some (.lst (L.map jD)), some (nn o), some (.int (s : Nat)), some (plc o), none, none, none, none, none, none, none, none, none, none]) ?_ ?_
    · have he : dEnum (nn o) = some (o.zipIdx.map fun p => .tup [.int (p.2 : Nat), .int (p.1 : Nat)]) := by
        have gen : ∀ (l : List Nat) (k : Nat), enumL k (il (ni l)) = (l.zipIdx k).map fun p => D.tup [.int (p.2 : Nat), .int (p.1 : Nat)] := by
          intro l
          induction l with
          | nil => intro k; rfl
          | cons x l ih =>
            intro k
            have := ih (k + 1)
            unfold ni il at this ⊢
            simp only [List.map_cons, enumL, List.zipIdx_cons, this]
        show some (enumL 0 (il (ni o))) = _
        rw [gen]
      simp only [↓wp_run, startE, ↓wp_sSeq, ↓thenS_nx, ↓thenS_rt, ↓thenS_bk, ↓thenS_ct, ↓xp_sSet, ↓xp_sDo, ↓xp_sRet, ↓wp_sIf, ↓wp_sNil, ↓wp_sBrk, ↓wp_sCnt, ↓xp_sAsg, ↓xp_sPar, ↓xp_sSetIx, ↓wp_sFor, ↓xp_tB, ↓xp_tTru, ↓wp_tNot, ↓wp_tAnd, ↓wp_tOr, ↓xp_wpV, ↓wp_C, ↓xp_V, ↓wp_O, ↓xp_R, ↓xp_e1, ↓xp_e2, ↓wp_if, ↓xp_and, ↓xp_or, ↓wp_lst, ↓wp_tup, ↓wp_nil, ↓xp_cons, ↓xp_call0, ↓xp_call1, ↓wp_anil, ↓wp_av, ↓wp_aw, ↓xp_mut1, ↓xp_mut0, ↓xp_cut, ↓wpP_none, ↓xp_psome, ↓xp_iA, ↓xp_iR1, ↓xp_iR2, exO_some, ↓reduceIte, ↓xp_end_rt, ↓xp_end_nx, ↓turn_nx, ↓turn_ct, ↓turn_bk, ↓turn_rt, get_val, get_slot, gets, looks, look, lookL, put, Option.bind_some, asB, asI, wipeE, backE, List.map_cons, List.map_nil, List.length_cons, List.length_nil, List.replicate, List.cons_append, List.nil_append, List.set_cons_zero, List.set_cons_succ, Nat.reduceAdd, Nat.reduceSub, add_ii, sub_ii, neg_i, lt_ii, le_ii, gt_ii, ge_ii, eq_ii, ne_ii, eq_bb, ne_bb, int_i, int_b, abs_i, len_l, len_f, len_t, list_l, list_t, tuple_l, tuple_t, not_b, truth_b, truth_i, ix_l, ix_f, ix_t, cut_l, min_ii, max_ii, gN, gT, gTs, at_0, at_1, at_2, at_3, decide_eq_true_eq, Bool.not_true, Bool.not_false, Bool.false_eq_true, Int.reduceEq, Int.reduceNeg, Int.reduceLT, Int.reduceLE, Int.reduceAdd, Int.reduceSub, D.int.injEq, D.bl.injEq, reduceCtorEq, ne_eq, not_true_eq_false, not_false_eq_true, List.getElem?_cons_succ, List.getElem?_cons_zero, Option.getD_some, Option.getD_none, ↓xp_chain, ↓nxS_nx, iter_l, iter_t, ↓xp_chain3, ↓wp_yes, ↓xp_iR3, ↓xp_iEn, ↓xp_iEn2, ↓xp_mut2, ↓xp_putD, ↓xp_dic0, lookD, kOf, enum_l, enum_s, listA_l, listA_f, listA_t, notT_b]
      refine wp_dcomp o.zipIdx (fun p => .tup [.int (p.2 : Nat), .int (p.1 : Nat)]) (fun p => .k (.i (p.1 : Nat))) (fun p => .int (p.2 : Nat)) ?_
      simp only [↓wp_run, startE, ↓wp_sSeq, ↓thenS_nx, ↓thenS_rt, ↓thenS_bk, ↓thenS_ct, ↓xp_sSet, ↓xp_sDo, ↓xp_sRet, ↓wp_sIf, ↓wp_sNil, ↓wp_sBrk, ↓wp_sCnt, ↓xp_sAsg, ↓xp_sPar, ↓xp_sSetIx, ↓wp_sFor, ↓xp_tB, ↓xp_tTru, ↓wp_tNot, ↓wp_tAnd, ↓wp_tOr, ↓xp_wpV, ↓wp_C, ↓xp_V, ↓wp_O, ↓xp_R, ↓xp_e1, ↓xp_e2, ↓wp_if, ↓xp_and, ↓xp_or, ↓wp_lst, ↓wp_tup, ↓wp_nil, ↓xp_cons, ↓xp_call0, ↓xp_call1, ↓wp_anil, ↓wp_av, ↓wp_aw, ↓xp_mut1, ↓xp_mut0, ↓xp_cut, ↓wpP_none, ↓xp_psome, ↓xp_iA, ↓xp_iR1, ↓xp_iR2, exO_some, ↓reduceIte, ↓xp_end_rt, ↓xp_end_nx, ↓turn_nx, ↓turn_ct, ↓turn_bk, ↓turn_rt, get_val, get_slot, gets, looks, look, lookL, put, Option.bind_some, asB, asI, wipeE, backE, List.map_cons, List.map_nil, List.length_cons, List.length_nil, List.replicate, List.cons_append, List.nil_append, List.set_cons_zero, List.set_cons_succ, Nat.reduceAdd, Nat.reduceSub, add_ii, sub_ii, neg_i, lt_ii, le_ii, gt_ii, ge_ii, eq_ii, ne_ii, eq_bb, ne_bb, int_i, int_b, abs_i, len_l, len_f, len_t, list_l, list_t, tuple_l, tuple_t, not_b, truth_b, truth_i, ix_l, ix_f, ix_t, cut_l, min_ii, max_ii, gN, gT, gTs, at_0, at_1, at_2, at_3, decide_eq_true_eq, Bool.not_true, Bool.not_false, Bool.false_eq_true, Int.reduceEq, Int.reduceNeg, Int.reduceLT, Int.reduceLE, Int.reduceAdd, Int.reduceSub, D.int.injEq, D.bl.injEq, reduceCtorEq, ne_eq, not_true_eq_false, not_false_eq_true, List.getElem?_cons_succ, List.getElem?_cons_zero, Option.getD_some, Option.getD_none, ↓xp_chain, ↓nxS_nx, iter_l, iter_t, ↓xp_chain3, ↓wp_yes, ↓xp_iR3, ↓xp_iEn, ↓xp_iEn2, ↓xp_mut2, ↓xp_putD, ↓xp_dic0, lookD, kOf, enum_l, enum_s, listA_l, listA_f, listA_t, notT_b, he]
      refine ⟨by first | rfl | trivial, by rw [List.length_zipIdx]; omega, fun x hx => ⟨_, rfl, ?_⟩, ?_⟩
      · simp only [↓wp_run, startE, ↓wp_sSeq, ↓thenS_nx, ↓thenS_rt, ↓thenS_bk, ↓thenS_ct, ↓xp_sSet, ↓xp_sDo, ↓xp_sRet, ↓wp_sIf, ↓wp_sNil, ↓wp_sBrk, ↓wp_sCnt, ↓xp_sAsg, ↓xp_sPar, ↓xp_sSetIx, ↓wp_sFor, ↓xp_tB, ↓xp_tTru, ↓wp_tNot, ↓wp_tAnd, ↓wp_tOr, ↓xp_wpV, ↓wp_C, ↓xp_V, ↓wp_O, ↓xp_R, ↓xp_e1, ↓xp_e2, ↓wp_if, ↓xp_and, ↓xp_or, ↓wp_lst, ↓wp_tup, ↓wp_nil, ↓xp_cons, ↓xp_call0, ↓xp_call1, ↓wp_anil, ↓wp_av, ↓wp_aw, ↓xp_mut1, ↓xp_mut0, ↓xp_cut, ↓wpP_none, ↓xp_psome, ↓xp_iA, ↓xp_iR1, ↓xp_iR2, exO_some, ↓reduceIte, ↓xp_end_rt, ↓xp_end_nx, ↓turn_nx, ↓turn_ct, ↓turn_bk, ↓turn_rt, get_val, get_slot, gets, looks, look, lookL, put, Option.bind_some, asB, asI, wipeE, backE, List.map_cons, List.map_nil, List.length_cons, List.length_nil, List.replicate, List.cons_append, List.nil_append, List.set_cons_zero, List.set_cons_succ, Nat.reduceAdd, Nat.reduceSub, add_ii, sub_ii, neg_i, lt_ii, le_ii, gt_ii, ge_ii, eq_ii, ne_ii, eq_bb, ne_bb, int_i, int_b, abs_i, len_l, len_f, len_t, list_l, list_t, tuple_l, tuple_t, not_b, truth_b, truth_i, ix_l, ix_f, ix_t, cut_l, min_ii, max_ii, gN, gT, gTs, at_0, at_1, at_2, at_3, decide_eq_true_eq, Bool.not_true, Bool.not_false, Bool.false_eq_true, Int.reduceEq, Int.reduceNeg, Int.reduceLT, Int.reduceLE, Int.reduceAdd, Int.reduceSub, D.int.injEq, D.bl.injEq, reduceCtorEq, ne_eq, not_true_eq_false, not_false_eq_true, List.getElem?_cons_succ, List.getElem?_cons_zero, Option.getD_some, Option.getD_none, ↓xp_chain, ↓nxS_nx, iter_l, iter_t, ↓xp_chain3, ↓wp_yes, ↓xp_iR3, ↓xp_iEn, ↓xp_iEn2, ↓xp_mut2, ↓xp_putD, ↓xp_dic0, lookD, kOf, enum_l, enum_s, listA_l, listA_f, listA_t, notT_b, kOf, and_self]
      · first | rfl | (simp only [↓wp_run, startE, ↓wp_sSeq, ↓thenS_nx, ↓thenS_rt, ↓thenS_bk, ↓thenS_ct, ↓xp_sSet, ↓xp_sDo, ↓xp_sRet, ↓wp_sIf, ↓wp_sNil, ↓wp_sBrk, ↓wp_sCnt, ↓xp_sAsg, ↓xp_sPar, ↓xp_sSetIx, ↓wp_sFor, ↓xp_tB, ↓xp_tTru, ↓wp_tNot, ↓wp_tAnd, ↓wp_tOr, ↓xp_wpV, ↓wp_C, ↓xp_V, ↓wp_O, ↓xp_R, ↓xp_e1, ↓xp_e2, ↓wp_if, ↓xp_and, ↓xp_or, ↓wp_lst, ↓wp_tup, ↓wp_nil, ↓xp_cons, ↓xp_call0, ↓xp_call1, ↓wp_anil, ↓wp_av, ↓wp_aw, ↓xp_mut1, ↓xp_mut0, ↓xp_cut, ↓wpP_none, ↓xp_psome, ↓xp_iA, ↓xp_iR1, ↓xp_iR2, exO_some, ↓reduceIte, ↓xp_end_rt, ↓xp_end_nx, ↓turn_nx, ↓turn_ct, ↓turn_bk, ↓turn_rt, get_val, get_slot, gets, looks, look, lookL, put, Option.bind_some, asB, asI, wipeE, backE, List.map_cons, List.map_nil, List.length_cons, List.length_nil, List.replicate, List.cons_append, List.nil_append, List.set_cons_zero, List.set_cons_succ, Nat.reduceAdd, Nat.reduceSub, add_ii, sub_ii, neg_i, lt_ii, le_ii, gt_ii, ge_ii, eq_ii, ne_ii, eq_bb, ne_bb, int_i, int_b, abs_i, len_l, len_f, len_t, list_l, list_t, tuple_l, tuple_t, not_b, truth_b, truth_i, ix_l, ix_f, ix_t, cut_l, min_ii, max_ii, gN, gT, gTs, at_0, at_1, at_2, at_3, decide_eq_true_eq, Bool.not_true, Bool.not_false, Bool.false_eq_true, Int.reduceEq, Int.reduceNeg, Int.reduceLT, Int.reduceLE, Int.reduceAdd, Int.reduceSub, D.int.injEq, D.bl.injEq, reduceCtorEq, ne_eq, not_true_eq_false, not_false_eq_true, List.getElem?_cons_succ, List.getElem?_cons_zero, Option.getD_some, Option.getD_none, ↓xp_chain, ↓nxS_nx, iter_l, iter_t, ↓xp_chain3, ↓wp_yes, ↓xp_iR3, ↓xp_iEn, ↓xp_iEn2, ↓xp_mut2, ↓xp_putD, ↓xp_dic0, lookD, kOf, enum_l, enum_s, listA_l, listA_f, listA_t, notT_b, plc]; done) | (try simp only [↓wp_run, startE, ↓wp_sSeq, ↓thenS_nx, ↓thenS_rt, ↓thenS_bk, ↓thenS_ct, ↓xp_sSet, ↓xp_sDo, ↓xp_sRet, ↓wp_sIf, ↓wp_sNil, ↓wp_sBrk, ↓wp_sCnt, ↓xp_sAsg, ↓xp_sPar, ↓xp_sSetIx, ↓wp_sFor, ↓xp_tB, ↓xp_tTru, ↓wp_tNot, ↓wp_tAnd, ↓wp_tOr, ↓xp_wpV, ↓wp_C, ↓xp_V, ↓wp_O, ↓xp_R, ↓xp_e1, ↓xp_e2, ↓wp_if, ↓xp_and, ↓xp_or, ↓wp_lst, ↓wp_tup, ↓wp_nil, ↓xp_cons, ↓xp_call0, ↓xp_call1, ↓wp_anil, ↓wp_av, ↓wp_aw, ↓xp_mut1, ↓xp_mut0, ↓xp_cut, ↓wpP_none, ↓xp_psome, ↓xp_iA, ↓xp_iR1, ↓xp_iR2, exO_some, ↓reduceIte, ↓xp_end_rt, ↓xp_end_nx, ↓turn_nx, ↓turn_ct, ↓turn_bk, ↓turn_rt, get_val, get_slot, gets, looks, look, lookL, put, Option.bind_some, asB, asI, wipeE, backE, List.map_cons, List.map_nil, List.length_cons, List.length_nil, List.replicate, List.cons_append, List.nil_append, List.set_cons_zero, List.set_cons_succ, Nat.reduceAdd, Nat.reduceSub, add_ii, sub_ii, neg_i, lt_ii, le_ii, gt_ii, ge_ii, eq_ii, ne_ii, eq_bb, ne_bb, int_i, int_b, abs_i, len_l, len_f, len_t, list_l, list_t, tuple_l, tuple_t, not_b, truth_b, truth_i, ix_l, ix_f, ix_t, cut_l, min_ii, max_ii, gN, gT, gTs, at_0, at_1, at_2, at_3, decide_eq_true_eq, Bool.not_true, Bool.not_false, Bool.false_eq_true, Int.reduceEq, Int.reduceNeg, Int.reduceLT, Int.reduceLE, Int.reduceAdd, Int.reduceSub, D.int.injEq, D.bl.injEq, reduceCtorEq, ne_eq, not_true_eq_false, not_false_eq_true, List.getElem?_cons_succ, List.getElem?_cons_zero, Option.getD_some, Option.getD_none, ↓xp_chain, ↓nxS_nx, iter_l, iter_t, ↓xp_chain3, ↓wp_yes, ↓xp_iR3, ↓xp_iEn, ↓xp_iEn2, ↓xp_mut2, ↓xp_putD, ↓xp_dic0, lookD, kOf, enum_l, enum_s, listA_l, listA_f, listA_t, notT_b]; rfl)
    rintro ε rfl
    have jd1 : ∀ j, dIx (jD j) (.int 1) = some (.int (j.b : Nat)) := fun j => rfl
    refine wp_seq_of (fun ε => ε = [some (.lst (L.map jD)), some (nn o), some (.int (s : Nat)), some (plc o), some (.lst ((L.filter fun j => decide (j.b = s)).map jD)), none, none, none, none, none, none, none, none, none]) ?_ ?_
    · simp only [↓wp_run, startE, ↓wp_sSeq, ↓thenS_nx, ↓thenS_rt, ↓thenS_bk, ↓thenS_ct, ↓xp_sSet, ↓xp_sDo, ↓xp_sRet, ↓wp_sIf, ↓wp_sNil, ↓wp_sBrk, ↓wp_sCnt, ↓xp_sAsg, ↓xp_sPar, ↓xp_sSetIx, ↓wp_sFor, ↓xp_tB, ↓xp_tTru, ↓wp_tNot, ↓wp_tAnd, ↓wp_tOr, ↓xp_wpV, ↓wp_C, ↓xp_V, ↓wp_O, ↓xp_R, ↓xp_e1, ↓xp_e2, ↓wp_if, ↓xp_and, ↓xp_or, ↓wp_lst, ↓wp_tup, ↓wp_nil, ↓xp_cons, ↓xp_call0, ↓xp_call1, ↓wp_anil, ↓wp_av, ↓wp_aw, ↓xp_mut1, ↓xp_mut0, ↓xp_cut, ↓wpP_none, ↓xp_psome, ↓xp_iA, ↓xp_iR1, ↓xp_iR2, exO_some, ↓reduceIte, ↓xp_end_rt, ↓xp_end_nx, ↓turn_nx, ↓turn_ct, ↓turn_bk, ↓turn_rt, get_val, get_slot, gets, looks, look, lookL, put, Option.bind_some, asB, asI, wipeE, backE, List.map_cons, List.map_nil, List.length_cons, List.length_nil, List.replicate, List.cons_append, List.nil_append, List.set_cons_zero, List.set_cons_succ, Nat.reduceAdd, Nat.reduceSub, add_ii, sub_ii, neg_i, lt_ii, le_ii, gt_ii, ge_ii, eq_ii, ne_ii, eq_bb, ne_bb, int_i, int_b, abs_i, len_l, len_f, len_t, list_l, list_t, tuple_l, tuple_t, not_b, truth_b, truth_i, ix_l, ix_f, ix_t, cut_l, min_ii, max_ii, gN, gT, gTs, at_0, at_1, at_2, at_3, decide_eq_true_eq, Bool.not_true, Bool.not_false, Bool.false_eq_true, Int.reduceEq, Int.reduceNeg, Int.reduceLT, Int.reduceLE, Int.reduceAdd, Int.reduceSub, D.int.injEq, D.bl.injEq, reduceCtorEq, ne_eq, not_true_eq_false, not_false_eq_true, List.getElem?_cons_succ, List.getElem?_cons_zero, Option.getD_some, Option.getD_none, ↓xp_chain, ↓nxS_nx, iter_l, iter_t, ↓xp_chain3, ↓wp_yes, ↓xp_iR3, ↓xp_iEn, ↓xp_iEn2, ↓xp_mut2, ↓xp_putD, ↓xp_dic0, lookD, kOf, enum_l, enum_s, listA_l, listA_f, listA_t, notT_b]
      refine wp_comp_fp L jD jD (fun j => decide (j.b = s)) ?_
      simp only [↓wp_run, startE, ↓wp_sSeq, ↓thenS_nx, ↓thenS_rt, ↓thenS_bk, ↓thenS_ct, ↓xp_sSet, ↓xp_sDo, ↓xp_sRet, ↓wp_sIf, ↓wp_sNil, ↓wp_sBrk, ↓wp_sCnt, ↓xp_sAsg, ↓xp_sPar, ↓xp_sSetIx, ↓wp_sFor, ↓xp_tB, ↓xp_tTru, ↓wp_tNot, ↓wp_tAnd, ↓wp_tOr, ↓xp_wpV, ↓wp_C, ↓xp_V, ↓wp_O, ↓xp_R, ↓xp_e1, ↓xp_e2, ↓wp_if, ↓xp_and, ↓xp_or, ↓wp_lst, ↓wp_tup, ↓wp_nil, ↓xp_cons, ↓xp_call0, ↓xp_call1, ↓wp_anil, ↓wp_av, ↓wp_aw, ↓xp_mut1, ↓xp_mut0, ↓xp_cut, ↓wpP_none, ↓xp_psome, ↓xp_iA, ↓xp_iR1, ↓xp_iR2, exO_some, ↓reduceIte, ↓xp_end_rt, ↓xp_end_nx, ↓turn_nx, ↓turn_ct, ↓turn_bk, ↓turn_rt, get_val, get_slot, gets, looks, look, lookL, put, Option.bind_some, asB, asI, wipeE, backE, List.map_cons, List.map_nil, List.length_cons, List.length_nil, List.replicate, List.cons_append, List.nil_append, List.set_cons_zero, List.set_cons_succ, Nat.reduceAdd, Nat.reduceSub, add_ii, sub_ii, neg_i, lt_ii, le_ii, gt_ii, ge_ii, eq_ii, ne_ii, eq_bb, ne_bb, int_i, int_b, abs_i, len_l, len_f, len_t, list_l, list_t, tuple_l, tuple_t, not_b, truth_b, truth_i, ix_l, ix_f, ix_t, cut_l, min_ii, max_ii, gN, gT, gTs, at_0, at_1, at_2, at_3, decide_eq_true_eq, Bool.not_true, Bool.not_false, Bool.false_eq_true, Int.reduceEq, Int.reduceNeg, Int.reduceLT, Int.reduceLE, Int.reduceAdd, Int.reduceSub, D.int.injEq, D.bl.injEq, reduceCtorEq, ne_eq, not_true_eq_false, not_false_eq_true, List.getElem?_cons_succ, List.getElem?_cons_zero, Option.getD_some, Option.getD_none, ↓xp_chain, ↓nxS_nx, iter_l, iter_t, ↓xp_chain3, ↓wp_yes, ↓xp_iR3, ↓xp_iEn, ↓xp_iEn2, ↓xp_mut2, ↓xp_putD, ↓xp_dic0, lookD, kOf, enum_l, enum_s, listA_l, listA_f, listA_t, notT_b]
      refine ⟨by first | rfl | trivial, by omega, fun j hj => ⟨_, rfl, ?_⟩, ?_⟩
      · by_cases c : j.b = s
        · have c' : ((j.b : Nat) : Int) = ((s : Nat) : Int) := by omega
          simp only [↓wp_run, startE, ↓wp_sSeq, ↓thenS_nx, ↓thenS_rt, ↓thenS_bk, ↓thenS_ct, ↓xp_sSet, ↓xp_sDo, ↓xp_sRet, ↓wp_sIf, ↓wp_sNil, ↓wp_sBrk, ↓wp_sCnt, ↓xp_sAsg, ↓xp_sPar, ↓xp_sSetIx, ↓wp_sFor, ↓xp_tB, ↓xp_tTru, ↓wp_tNot, ↓wp_tAnd, ↓wp_tOr, ↓xp_wpV, ↓wp_C, ↓xp_V, ↓wp_O, ↓xp_R, ↓xp_e1, ↓xp_e2, ↓wp_if, ↓xp_and, ↓xp_or, ↓wp_lst, ↓wp_tup, ↓wp_nil, ↓xp_cons, ↓xp_call0, ↓xp_call1, ↓wp_anil, ↓wp_av, ↓wp_aw, ↓xp_mut1, ↓xp_mut0, ↓xp_cut, ↓wpP_none, ↓xp_psome, ↓xp_iA, ↓xp_iR1, ↓xp_iR2, exO_some, ↓reduceIte, ↓xp_end_rt, ↓xp_end_nx, ↓turn_nx, ↓turn_ct, ↓turn_bk, ↓turn_rt, get_val, get_slot, gets, looks, look, lookL, put, Option.bind_some, asB, asI, wipeE, backE, List.map_cons, List.map_nil, List.length_cons, List.length_nil, List.replicate, List.cons_append, List.nil_append, List.set_cons_zero, List.set_cons_succ, Nat.reduceAdd, Nat.reduceSub, add_ii, sub_ii, neg_i, lt_ii, le_ii, gt_ii, ge_ii, eq_ii, ne_ii, eq_bb, ne_bb, int_i, int_b, abs_i, len_l, len_f, len_t, list_l, list_t, tuple_l, tuple_t, not_b, truth_b, truth_i, ix_l, ix_f, ix_t, cut_l, min_ii, max_ii, gN, gT, gTs, at_0, at_1, at_2, at_3, decide_eq_true_eq, Bool.not_true, Bool.not_false, Bool.false_eq_true, Int.reduceEq, Int.reduceNeg, Int.reduceLT, Int.reduceLE, Int.reduceAdd, Int.reduceSub, D.int.injEq, D.bl.injEq, reduceCtorEq, ne_eq, not_true_eq_false, not_false_eq_true, List.getElem?_cons_succ, List.getElem?_cons_zero, Option.getD_some, Option.getD_none, ↓xp_chain, ↓nxS_nx, iter_l, iter_t, ↓xp_chain3, ↓wp_yes, ↓xp_iR3, ↓xp_iEn, ↓xp_iEn2, ↓xp_mut2, ↓xp_putD, ↓xp_dic0, lookD, kOf, enum_l, enum_s, listA_l, listA_f, listA_t, notT_b, jd1, c, c', decide_true, if_true, and_self]
        · have c' : ¬ ((j.b : Nat) : Int) = ((s : Nat) : Int) := by omega
          simp only [↓wp_run, startE, ↓wp_sSeq, ↓thenS_nx, ↓thenS_rt, ↓thenS_bk, ↓thenS_ct, ↓xp_sSet, ↓xp_sDo, ↓xp_sRet, ↓wp_sIf, ↓wp_sNil, ↓wp_sBrk, ↓wp_sCnt, ↓xp_sAsg, ↓xp_sPar, ↓xp_sSetIx, ↓wp_sFor, ↓xp_tB, ↓xp_tTru, ↓wp_tNot, ↓wp_tAnd, ↓wp_tOr, ↓xp_wpV, ↓wp_C, ↓xp_V, ↓wp_O, ↓xp_R, ↓xp_e1, ↓xp_e2, ↓wp_if, ↓xp_and, ↓xp_or, ↓wp_lst, ↓wp_tup, ↓wp_nil, ↓xp_cons, ↓xp_call0, ↓xp_call1, ↓wp_anil, ↓wp_av, ↓wp_aw, ↓xp_mut1, ↓xp_mut0, ↓xp_cut, ↓wpP_none, ↓xp_psome, ↓xp_iA, ↓xp_iR1, ↓xp_iR2, exO_some, ↓reduceIte, ↓xp_end_rt, ↓xp_end_nx, ↓turn_nx, ↓turn_ct, ↓turn_bk, ↓turn_rt, get_val, get_slot, gets, looks, look, lookL, put, Option.bind_some, asB, asI, wipeE, backE, List.map_cons, List.map_nil, List.length_cons, List.length_nil, List.replicate, List.cons_append, List.nil_append, List.set_cons_zero, List.set_cons_succ, Nat.reduceAdd, Nat.reduceSub, add_ii, sub_ii, neg_i, lt_ii, le_ii, gt_ii, ge_ii, eq_ii, ne_ii, eq_bb, ne_bb, int_i, int_b, abs_i, len_l, len_f, len_t, list_l, list_t, tuple_l, tuple_t, not_b, truth_b, truth_i, ix_l, ix_f, ix_t, cut_l, min_ii, max_ii, gN, gT, gTs, at_0, at_1, at_2, at_3, decide_eq_true_eq, Bool.not_true, Bool.not_false, Bool.false_eq_true, Int.reduceEq, Int.reduceNeg, Int.reduceLT, Int.reduceLE, Int.reduceAdd, Int.reduceSub, D.int.injEq, D.bl.injEq, reduceCtorEq, ne_eq, not_true_eq_false, not_false_eq_true, List.getElem?_cons_succ, List.getElem?_cons_zero, Option.getD_some, Option.getD_none, ↓xp_chain, ↓nxS_nx, iter_l, iter_t, ↓xp_chain3, ↓wp_yes, ↓xp_iR3, ↓xp_iEn, ↓xp_iEn2, ↓xp_mut2, ↓xp_putD, ↓xp_dic0, lookD, kOf, enum_l, enum_s, listA_l, listA_f, listA_t, notT_b, jd1, c, c', decide_false, Bool.false_eq_true, if_false, and_self]
      · try simp only [↓wp_run, startE, ↓wp_sSeq, ↓thenS_nx, ↓thenS_rt, ↓thenS_bk, ↓thenS_ct, ↓xp_sSet, ↓xp_sDo, ↓xp_sRet, ↓wp_sIf, ↓wp_sNil, ↓wp_sBrk, ↓wp_sCnt, ↓xp_sAsg, ↓xp_sPar, ↓xp_sSetIx, ↓wp_sFor, ↓xp_tB, ↓xp_tTru, ↓wp_tNot, ↓wp_tAnd, ↓wp_tOr, ↓xp_wpV, ↓wp_C, ↓xp_V, ↓wp_O, ↓xp_R, ↓xp_e1, ↓xp_e2, ↓wp_if, ↓xp_and, ↓xp_or, ↓wp_lst, ↓wp_tup, ↓wp_nil, ↓xp_cons, ↓xp_call0, ↓xp_call1, ↓wp_anil, ↓wp_av, ↓wp_aw, ↓xp_mut1, ↓xp_mut0, ↓xp_cut, ↓wpP_none, ↓xp_psome, ↓xp_iA, ↓xp_iR1, ↓xp_iR2, exO_some, ↓reduceIte, ↓xp_end_rt, ↓xp_end_nx, ↓turn_nx, ↓turn_ct, ↓turn_bk, ↓turn_rt, get_val, get_slot, gets, looks, look, lookL, put, Option.bind_some, asB, asI, wipeE, backE, List.map_cons, List.map_nil, List.length_cons, List.length_nil, List.replicate, List.cons_append, List.nil_append, List.set_cons_zero, List.set_cons_succ, Nat.reduceAdd, Nat.reduceSub, add_ii, sub_ii, neg_i, lt_ii, le_ii, gt_ii, ge_ii, eq_ii, ne_ii, eq_bb, ne_bb, int_i, int_b, abs_i, len_l, len_f, len_t, list_l, list_t, tuple_l, tuple_t, not_b, truth_b, truth_i, ix_l, ix_f, ix_t, cut_l, min_ii, max_ii, gN, gT, gTs, at_0, at_1, at_2, at_3, decide_eq_true_eq, Bool.not_true, Bool.not_false, Bool.false_eq_true, Int.reduceEq, Int.reduceNeg, Int.reduceLT, Int.reduceLE, Int.reduceAdd, Int.reduceSub, D.int.injEq, D.bl.injEq, reduceCtorEq, ne_eq, not_true_eq_false, not_false_eq_true, List.getElem?_cons_succ, List.getElem?_cons_zero, Option.getD_some, Option.getD_none, ↓xp_chain, ↓nxS_nx, iter_l, iter_t, ↓xp_chain3, ↓wp_yes, ↓xp_iR3, ↓xp_iEn, ↓xp_iEn2, ↓xp_mut2, ↓xp_putD, ↓xp_dic0, lookD, kOf, enum_l, enum_s, listA_l, listA_f, listA_t, notT_b]
    rintro ε rfl
    refine wp_seq_of (fun ε => ε = [some (.lst (L.map jD)), some (nn o), some (.int (s : Nat)), some (plc o), some (.lst ((L.filter fun j => decide (j.b = s)).map jD)), some (.lst ((L.filter fun j => decide (j.b ≤ s)).map jD)), none, none, none, none, none, none, none, none]) ?_ ?_
    · simp only [↓wp_run, startE, ↓wp_sSeq, ↓thenS_nx, ↓thenS_rt, ↓thenS_bk, ↓thenS_ct, ↓xp_sSet, ↓xp_sDo, ↓xp_sRet, ↓wp_sIf, ↓wp_sNil, ↓wp_sBrk, ↓wp_sCnt, ↓xp_sAsg, ↓xp_sPar, ↓xp_sSetIx, ↓wp_sFor, ↓xp_tB, ↓xp_tTru, ↓wp_tNot, ↓wp_tAnd, ↓wp_tOr, ↓xp_wpV, ↓wp_C, ↓xp_V, ↓wp_O, ↓xp_R, ↓xp_e1, ↓xp_e2, ↓wp_if, ↓xp_and, ↓xp_or, ↓wp_lst, ↓wp_tup, ↓wp_nil, ↓xp_cons, ↓xp_call0, ↓xp_call1, ↓wp_anil, ↓wp_av, ↓wp_aw, ↓xp_mut1, ↓xp_mut0, ↓xp_cut, ↓wpP_none, ↓xp_psome, ↓xp_iA, ↓xp_iR1, ↓xp_iR2, exO_some, ↓reduceIte, ↓xp_end_rt, ↓xp_end_nx, ↓turn_nx, ↓turn_ct, ↓turn_bk, ↓turn_rt, get_val, get_slot, gets, looks, look, lookL, put, Option.bind_some, asB, asI, wipeE, backE, List.map_cons, List.map_nil, List.length_cons, List.length_nil, List.replicate, List.cons_append, List.nil_append, List.set_cons_zero, List.set_cons_succ, Nat.reduceAdd, Nat.reduceSub, add_ii, sub_ii, neg_i, lt_ii, le_ii, gt_ii, ge_ii, eq_ii, ne_ii, eq_bb, ne_bb, int_i, int_b, abs_i, len_l, len_f, len_t, list_l, list_t, tuple_l, tuple_t, not_b, truth_b, truth_i, ix_l, ix_f, ix_t, cut_l, min_ii, max_ii, gN, gT, gTs, at_0, at_1, at_2, at_3, decide_eq_true_eq, Bool.not_true, Bool.not_false, Bool.false_eq_true, Int.reduceEq, Int.reduceNeg, Int.reduceLT, Int.reduceLE, Int.reduceAdd, Int.reduceSub, D.int.injEq, D.bl.injEq, reduceCtorEq, ne_eq, not_true_eq_false, not_false_eq_true, List.getElem?_cons_succ, List.getElem?_cons_zero, Option.getD_some, Option.getD_none, ↓xp_chain, ↓nxS_nx, iter_l, iter_t, ↓xp_chain3, ↓wp_yes, ↓xp_iR3, ↓xp_iEn, ↓xp_iEn2, ↓xp_mut2, ↓xp_putD, ↓xp_dic0, lookD, kOf, enum_l, enum_s, listA_l, listA_f, listA_t, notT_b]
      refine wp_comp_fp L jD jD (fun j => decide (j.b ≤ s)) ?_
      simp only [↓wp_run, startE, ↓wp_sSeq, ↓thenS_nx, ↓thenS_rt, ↓thenS_bk, ↓thenS_ct, ↓xp_sSet, ↓xp_sDo, ↓xp_sRet, ↓wp_sIf, ↓wp_sNil, ↓wp_sBrk, ↓wp_sCnt, ↓xp_sAsg, ↓xp_sPar, ↓xp_sSetIx, ↓wp_sFor, ↓xp_tB, ↓xp_tTru, ↓wp_tNot, ↓wp_tAnd, ↓wp_tOr, ↓xp_wpV, ↓wp_C, ↓xp_V, ↓wp_O, ↓xp_R, ↓xp_e1, ↓xp_e2, ↓wp_if, ↓xp_and, ↓xp_or, ↓wp_lst, ↓wp_tup, ↓wp_nil, ↓xp_cons, ↓xp_call0, ↓xp_call1, ↓wp_anil, ↓wp_av, ↓wp_aw, ↓xp_mut1, ↓xp_mut0, ↓xp_cut, ↓wpP_none, ↓xp_psome, ↓xp_iA, ↓xp_iR1, ↓xp_iR2, exO_some, ↓reduceIte, ↓xp_end_rt, ↓xp_end_nx, ↓turn_nx, ↓turn_ct, ↓turn_bk, ↓turn_rt, get_val, get_slot, gets, looks, look, lookL, put, Option.bind_some, asB, asI, wipeE, backE, List.map_cons, List.map_nil, List.length_cons, List.length_nil, List.replicate, List.cons_append, List.nil_append, List.set_cons_zero, List.set_cons_succ, Nat.reduceAdd, Nat.reduceSub, add_ii, sub_ii, neg_i, lt_ii, le_ii, gt_ii, ge_ii, eq_ii, ne_ii, eq_bb, ne_bb, int_i, int_b, abs_i, len_l, len_f, len_t, list_l, list_t, tuple_l, tuple_t, not_b, truth_b, truth_i, ix_l, ix_f, ix_t, cut_l, min_ii, max_ii, gN, gT, gTs, at_0, at_1, at_2, at_3, decide_eq_true_eq, Bool.not_true, Bool.not_false, Bool.false_eq_true, Int.reduceEq, Int.reduceNeg, Int.reduceLT, Int.reduceLE, Int.reduceAdd, Int.reduceSub, D.int.injEq, D.bl.injEq, reduceCtorEq, ne_eq, not_true_eq_false, not_false_eq_true, List.getElem?_cons_succ, List.getElem?_cons_zero, Option.getD_some, Option.getD_none, ↓xp_chain, ↓nxS_nx, iter_l, iter_t, ↓xp_chain3, ↓wp_yes, ↓xp_iR3, ↓xp_iEn, ↓xp_iEn2, ↓xp_mut2, ↓xp_putD, ↓xp_dic0, lookD, kOf, enum_l, enum_s, listA_l, listA_f, listA_t, notT_b]
      refine ⟨by first | rfl | trivial, by omega, fun j hj => ⟨_, rfl, ?_⟩, ?_⟩
      · by_cases c : j.b ≤ s
        · have c' : ((j.b : Nat) : Int) ≤ ((s : Nat) : Int) := by omega
          simp only [↓wp_run, startE, ↓wp_sSeq, ↓thenS_nx, ↓thenS_rt, ↓thenS_bk, ↓thenS_ct, ↓xp_sSet, ↓xp_sDo, ↓xp_sRet, ↓wp_sIf, ↓wp_sNil, ↓wp_sBrk, ↓wp_sCnt, ↓xp_sAsg, ↓xp_sPar, ↓xp_sSetIx, ↓wp_sFor, ↓xp_tB, ↓xp_tTru, ↓wp_tNot, ↓wp_tAnd, ↓wp_tOr, ↓xp_wpV, ↓wp_C, ↓xp_V, ↓wp_O, ↓xp_R, ↓xp_e1, ↓xp_e2, ↓wp_if, ↓xp_and, ↓xp_or, ↓wp_lst, ↓wp_tup, ↓wp_nil, ↓xp_cons, ↓xp_call0, ↓xp_call1, ↓wp_anil, ↓wp_av, ↓wp_aw, ↓xp_mut1, ↓xp_mut0, ↓xp_cut, ↓wpP_none, ↓xp_psome, ↓xp_iA, ↓xp_iR1, ↓xp_iR2, exO_some, ↓reduceIte, ↓xp_end_rt, ↓xp_end_nx, ↓turn_nx, ↓turn_ct, ↓turn_bk, ↓turn_rt, get_val, get_slot, gets, looks, look, lookL, put, Option.bind_some, asB, asI, wipeE, backE, List.map_cons, List.map_nil, List.length_cons, List.length_nil, List.replicate, List.cons_append, List.nil_append, List.set_cons_zero, List.set_cons_succ, Nat.reduceAdd, Nat.reduceSub, add_ii, sub_ii, neg_i, lt_ii, le_ii, gt_ii, ge_ii, eq_ii, ne_ii, eq_bb, ne_bb, int_i, int_b, abs_i, len_l, len_f, len_t, list_l, list_t, tuple_l, tuple_t, not_b, truth_b, truth_i, ix_l, ix_f, ix_t, cut_l, min_ii, max_ii, gN, gT, gTs, at_0, at_1, at_2, at_3, decide_eq_true_eq, Bool.not_true, Bool.not_false, Bool.false_eq_true, Int.reduceEq, Int.reduceNeg, Int.reduceLT, Int.reduceLE, Int.reduceAdd, Int.reduceSub, D.int.injEq, D.bl.injEq, reduceCtorEq, ne_eq, not_true_eq_false, not_false_eq_true, List.getElem?_cons_succ, List.getElem?_cons_zero, Option.getD_some, Option.getD_none, ↓xp_chain, ↓nxS_nx, iter_l, iter_t, ↓xp_chain3, ↓wp_yes, ↓xp_iR3, ↓xp_iEn, ↓xp_iEn2, ↓xp_mut2, ↓xp_putD, ↓xp_dic0, lookD, kOf, enum_l, enum_s, listA_l, listA_f, listA_t, notT_b, jd1, c, c', decide_true, if_true, and_self]
        · have c' : ¬ ((j.b : Nat) : Int) ≤ ((s : Nat) : Int) := by omega
          simp only [↓wp_run, startE, ↓wp_sSeq, ↓thenS_nx, ↓thenS_rt, ↓thenS_bk, ↓thenS_ct, ↓xp_sSet, ↓xp_sDo, ↓xp_sRet, ↓wp_sIf, ↓wp_sNil, ↓wp_sBrk, ↓wp_sCnt, ↓xp_sAsg, ↓xp_sPar, ↓xp_sSetIx, ↓wp_sFor, ↓xp_tB, ↓xp_tTru, ↓wp_tNot, ↓wp_tAnd, ↓wp_tOr, ↓xp_wpV, ↓wp_C, ↓xp_V, ↓wp_O, ↓xp_R, ↓xp_e1, ↓xp_e2, ↓wp_if, ↓xp_and, ↓xp_or, ↓wp_lst, ↓wp_tup, ↓wp_nil, ↓xp_cons, ↓xp_call0, ↓xp_call1, ↓wp_anil, ↓wp_av, ↓wp_aw, ↓xp_mut1, ↓xp_mut0, ↓xp_cut, ↓wpP_none, ↓xp_psome, ↓xp_iA, ↓xp_iR1, ↓xp_iR2, exO_some, ↓reduceIte, ↓xp_end_rt, ↓xp_end_nx, ↓turn_nx, ↓turn_ct, ↓turn_bk, ↓turn_rt, get_val, get_slot, gets, looks, look, lookL, put, Option.bind_some, asB, asI, wipeE, backE, List.map_cons, List.map_nil, List.length_cons, List.length_nil, List.replicate, List.cons_append, List.nil_append, List.set_cons_zero, List.set_cons_succ, Nat.reduceAdd, Nat.reduceSub, add_ii, sub_ii, neg_i, lt_ii, le_ii, gt_ii, ge_ii, eq_ii, ne_ii, eq_bb, ne_bb, int_i, int_b, abs_i, len_l, len_f, len_t, list_l, list_t, tuple_l, tuple_t, not_b, truth_b, truth_i, ix_l, ix_f, ix_t, cut_l, min_ii, max_ii, gN, gT, gTs, at_0, at_1, at_2, at_3, decide_eq_true_eq, Bool.not_true, Bool.not_false, Bool.false_eq_true, Int.reduceEq, Int.reduceNeg, Int.reduceLT, Int.reduceLE, Int.reduceAdd, Int.reduceSub, D.int.injEq, D.bl.injEq, reduceCtorEq, ne_eq, not_true_eq_false, not_false_eq_true, List.getElem?_cons_succ, List.getElem?_cons_zero, Option.getD_some, Option.getD_none, ↓xp_chain, ↓nxS_nx, iter_l, iter_t, ↓xp_chain3, ↓wp_yes, ↓xp_iR3, ↓xp_iEn, ↓xp_iEn2, ↓xp_mut2, ↓xp_putD, ↓xp_dic0, lookD, kOf, enum_l, enum_s, listA_l, listA_f, listA_t, notT_b, jd1, c, c', decide_false, Bool.false_eq_true, if_false, and_self]
      · try simp only [↓wp_run, startE, ↓wp_sSeq, ↓thenS_nx, ↓thenS_rt, ↓thenS_bk, ↓thenS_ct, ↓xp_sSet, ↓xp_sDo, ↓xp_sRet, ↓wp_sIf, ↓wp_sNil, ↓wp_sBrk, ↓wp_sCnt, ↓xp_sAsg, ↓xp_sPar, ↓xp_sSetIx, ↓wp_sFor, ↓xp_tB, ↓xp_tTru, ↓wp_tNot, ↓wp_tAnd, ↓wp_tOr, ↓xp_wpV, ↓wp_C, ↓xp_V, ↓wp_O, ↓xp_R, ↓xp_e1, ↓xp_e2, ↓wp_if, ↓xp_and, ↓xp_or, ↓wp_lst, ↓wp_tup, ↓wp_nil, ↓xp_cons, ↓xp_call0, ↓xp_call1, ↓wp_anil, ↓wp_av, ↓wp_aw, ↓xp_mut1, ↓xp_mut0, ↓xp_cut, ↓wpP_none, ↓xp_psome, ↓xp_iA, ↓xp_iR1, ↓xp_iR2, exO_some, ↓reduceIte, ↓xp_end_rt, ↓xp_end_nx, ↓turn_nx, ↓turn_ct, ↓turn_bk, ↓turn_rt, get_val, get_slot, gets, looks, look, lookL, put, Option.bind_some, asB, asI, wipeE, backE, List.map_cons, List.map_nil, List.length_cons, List.length_nil, List.replicate, List.cons_append, List.nil_append, List.set_cons_zero, List.set_cons_succ, Nat.reduceAdd, Nat.reduceSub, add_ii, sub_ii, neg_i, lt_ii, le_ii, gt_ii, ge_ii, eq_ii, ne_ii, eq_bb, ne_bb, int_i, int_b, abs_i, len_l, len_f, len_t, list_l, list_t, tuple_l, tuple_t, not_b, truth_b, truth_i, ix_l, ix_f, ix_t, cut_l, min_ii, max_ii, gN, gT, gTs, at_0, at_1, at_2, at_3, decide_eq_true_eq, Bool.not_true, Bool.not_false, Bool.false_eq_true, Int.reduceEq, Int.reduceNeg, Int.reduceLT, Int.reduceLE, Int.reduceAdd, Int.reduceSub, D.int.injEq, D.bl.injEq, reduceCtorEq, ne_eq, not_true_eq_false, not_false_eq_true, List.getElem?_cons_succ, List.getElem?_cons_zero, Option.getD_some, Option.getD_none, ↓xp_chain, ↓nxS_nx, iter_l, iter_t, ↓xp_chain3, ↓wp_yes, ↓xp_iR3, ↓xp_iEn, ↓xp_iEn2, ↓xp_mut2, ↓xp_putD, ↓xp_dic0, lookD, kOf, enum_l, enum_s, listA_l, listA_f, listA_t, notT_b]
    rintro ε rfl
    have hO : ∀ x, x ∈ L.filter (fun j => decide (j.b = s)) ↔ x ∈ L ∧ x.b = s := fun x => by rw [List.mem_filter, decide_eq_true_eq]
    have hT : ∀ x, x ∈ L.filter (fun j => decide (j.b ≤ s)) ↔ x ∈ L ∧ x.b ≤ s := fun x => by rw [List.mem_filter, decide_eq_true_eq]
    generalize L.filter (fun j => decide (j.b = s)) = O at *
    generalize L.filter (fun j => decide (j.b ≤ s)) = T at *
    simp only [↓wp_run, startE, ↓wp_sSeq, ↓thenS_nx, ↓thenS_rt, ↓thenS_bk, ↓thenS_ct, ↓xp_sSet, ↓xp_sDo, ↓xp_sRet, ↓wp_sIf, ↓wp_sNil, ↓wp_sBrk, ↓wp_sCnt, ↓xp_sAsg, ↓xp_sPar, ↓xp_sSetIx, ↓wp_sFor, ↓xp_tB, ↓xp_tTru, ↓wp_tNot, ↓wp_tAnd, ↓wp_tOr, ↓xp_wpV, ↓wp_C, ↓xp_V, ↓wp_O, ↓xp_R, ↓xp_e1, ↓xp_e2, ↓wp_if, ↓xp_and, ↓xp_or, ↓wp_lst, ↓wp_tup, ↓wp_nil, ↓xp_cons, ↓xp_call0, ↓xp_call1, ↓wp_anil, ↓wp_av, ↓wp_aw, ↓xp_mut1, ↓xp_mut0, ↓xp_cut, ↓wpP_none, ↓xp_psome, ↓xp_iA, ↓xp_iR1, ↓xp_iR2, exO_some, ↓reduceIte, ↓xp_end_rt, ↓xp_end_nx, ↓turn_nx, ↓turn_ct, ↓turn_bk, ↓turn_rt, get_val, get_slot, gets, looks, look, lookL, put, Option.bind_some, asB, asI, wipeE, backE, List.map_cons, List.map_nil, List.length_cons, List.length_nil, List.replicate, List.cons_append, List.nil_append, List.set_cons_zero, List.set_cons_succ, Nat.reduceAdd, Nat.reduceSub, add_ii, sub_ii, neg_i, lt_ii, le_ii, gt_ii, ge_ii, eq_ii, ne_ii, eq_bb, ne_bb, int_i, int_b, abs_i, len_l, len_f, len_t, list_l, list_t, tuple_l, tuple_t, not_b, truth_b, truth_i, ix_l, ix_f, ix_t, cut_l, min_ii, max_ii, gN, gT, gTs, at_0, at_1, at_2, at_3, decide_eq_true_eq, Bool.not_true, Bool.not_false, Bool.false_eq_true, Int.reduceEq, Int.reduceNeg, Int.reduceLT, Int.reduceLE, Int.reduceAdd, Int.reduceSub, D.int.injEq, D.bl.injEq, reduceCtorEq, ne_eq, not_true_eq_false, not_false_eq_true, List.getElem?_cons_succ, List.getElem?_cons_zero, Option.getD_some, Option.getD_none, ↓xp_chain, ↓nxS_nx, iter_l, iter_t, ↓xp_chain3, ↓wp_yes, ↓xp_iR3, ↓xp_iEn, ↓xp_iEn2, ↓xp_mut2, ↓xp_putD, ↓xp_dic0, lookD, kOf, enum_l, enum_s, listA_l, listA_f, listA_t, notT_b]
    refine wp_for (fun i ε => (∃ z6 z7 z8 z9 z10 z11, ε = [some (.lst (L.map jD)), some (nn o), some (.int (s : Nat)), some (plc o), some (.lst (O.map jD)), some (.lst (T.map jD)), z6, z7, z8, z9, z10, z11, none, none]) ∧ ∀ x ∈ O.take i, ∀ y ∈ T, x.s = y.s → AL o (x.a, x.b) (y.a, y.b) = false) ⟨⟨_, _, _, _, _, _, rfl⟩, fun x h => by simp at h⟩ (fun i z ε hd w => ?_) (fun ε w => ?_)
    · obtain ⟨⟨z6, z7, z8, z9, z10, z11, rfl⟩, hw⟩ := w
      rw [List.getElem?_map] at hd
      obtain ⟨x, hx, rfl⟩ := Option.map_eq_some_iff.mp hd
      have hxO := (hO x).mp (List.mem_of_getElem? hx)
      refine ⟨_, rfl, ?_⟩
      simp only [gT, gTs, gN, jD, VS.put, List.set_cons_succ, List.set_cons_zero, Option.bind_some]
      simp only [↓wp_run, startE, ↓wp_sSeq, ↓thenS_nx, ↓thenS_rt, ↓thenS_bk, ↓thenS_ct, ↓xp_sSet, ↓xp_sDo, ↓xp_sRet, ↓wp_sIf, ↓wp_sNil, ↓wp_sBrk, ↓wp_sCnt, ↓xp_sAsg, ↓xp_sPar, ↓xp_sSetIx, ↓wp_sFor, ↓xp_tB, ↓xp_tTru, ↓wp_tNot, ↓wp_tAnd, ↓wp_tOr, ↓xp_wpV, ↓wp_C, ↓xp_V, ↓wp_O, ↓xp_R, ↓xp_e1, ↓xp_e2, ↓wp_if, ↓xp_and, ↓xp_or, ↓wp_lst, ↓wp_tup, ↓wp_nil, ↓xp_cons, ↓xp_call0, ↓xp_call1, ↓wp_anil, ↓wp_av, ↓wp_aw, ↓xp_mut1, ↓xp_mut0, ↓xp_cut, ↓wpP_none, ↓xp_psome, ↓xp_iA, ↓xp_iR1, ↓xp_iR2, exO_some, ↓reduceIte, ↓xp_end_rt, ↓xp_end_nx, ↓turn_nx, ↓turn_ct, ↓turn_bk, ↓turn_rt, get_val, get_slot, gets, looks, look, lookL, put, Option.bind_some, asB, asI, wipeE, backE, List.map_cons, List.map_nil, List.length_cons, List.length_nil, List.replicate, List.cons_append, List.nil_append, List.set_cons_zero, List.set_cons_succ, Nat.reduceAdd, Nat.reduceSub, add_ii, sub_ii, neg_i, lt_ii, le_ii, gt_ii, ge_ii, eq_ii, ne_ii, eq_bb, ne_bb, int_i, int_b, abs_i, len_l, len_f, len_t, list_l, list_t, tuple_l, tuple_t, not_b, truth_b, truth_i, ix_l, ix_f, ix_t, cut_l, min_ii, max_ii, gN, gT, gTs, at_0, at_1, at_2, at_3, decide_eq_true_eq, Bool.not_true, Bool.not_false, Bool.false_eq_true, Int.reduceEq, Int.reduceNeg, Int.reduceLT, Int.reduceLE, Int.reduceAdd, Int.reduceSub, D.int.injEq, D.bl.injEq, reduceCtorEq, ne_eq, not_true_eq_false, not_false_eq_true, List.getElem?_cons_succ, List.getElem?_cons_zero, Option.getD_some, Option.getD_none, ↓xp_chain, ↓nxS_nx, iter_l, iter_t, ↓xp_chain3, ↓wp_yes, ↓xp_iR3, ↓xp_iEn, ↓xp_iEn2, ↓xp_mut2, ↓xp_putD, ↓xp_dic0, lookD, kOf, enum_l, enum_s, listA_l, listA_f, listA_t, notT_b]
      refine wp_for (fun j ε => (∃ z9 z10 z11, ε = [some (.lst (L.map jD)), some (nn o), some (.int (s : Nat)), some (plc o), some (.lst (O.map jD)), some (.lst (T.map jD)), some (.int (x.a : Nat)), some (.int (x.b : Nat)), some (.str [x.s]), z9, z10, z11, none, none]) ∧ ∀ y ∈ T.take j, x.s = y.s → AL o (x.a, x.b) (y.a, y.b) = false) ⟨⟨_, _, _, rfl⟩, fun x h => by simp at h⟩ (fun j z ε hd w => ?_) (fun ε w => ?_)
      · obtain ⟨⟨z9, z10, z11, rfl⟩, hw2⟩ := w
        rw [List.getElem?_map] at hd
        obtain ⟨y, hy, rfl⟩ := Option.map_eq_some_iff.mp hd
        have hyT := (hT y).mp (List.mem_of_getElem? hy)
        refine ⟨_, rfl, ?_⟩
        simp only [gT, gTs, gN, jD, VS.put, List.set_cons_succ, List.set_cons_zero, Option.bind_some]
        have ax := hL x hxO.1
        have ay := hL y hyT.1
        have hlie := lie_eq (o := o) (a := (x.a, x.b)) (b := (y.a, y.b)) g.1 (g.2.1 x.a (by omega)) (g.2.1 x.b (by omega)) (g.2.1 y.a (by omega)) (g.2.1 y.b (by omega))
        have ej : ∀ p q : Nat, D.tup [.int ((p : Nat) : Int), .int ((q : Nat) : Int)] = jn (p, q) := fun p q => rfl
        have step : (x.s = y.s → AL o (x.a, x.b) (y.a, y.b) = false) → ∀ y ∈ T.take (j + 1), x.s = y.s → AL o (x.a, x.b) (y.a, y.b) = false := fun h y' hy' => by
          have ht : T.take (j + 1) = T.take j ++ [y] := by rw [List.take_succ, hy]; rfl
          rw [ht] at hy'
          rcases List.mem_append.mp hy' with q | q
          · exact hw2 y' q
          · rw [List.mem_singleton] at q; rw [q]; exact h
        have hse := eq_s1 x.s y.s
        by_cases c : x.s = y.s
        · rw [decide_eq_true c] at hse
          cases hA : AL o (x.a, x.b) (y.a, y.b) with
          | true =>
            rw [hA] at hlie
            have hn : CLb L o s = false := by
              cases e : CLb L o s with
              | false => rfl
              | true =>
                have := cl_iff.mp e x hxO.1 y hyT.1 hxO.2 hyT.2 c
                rw [hA] at this; cases this
            simp only [↓wp_run, startE, ↓wp_sSeq, ↓thenS_nx, ↓thenS_rt, ↓thenS_bk, ↓thenS_ct, ↓xp_sSet, ↓xp_sDo, ↓xp_sRet, ↓wp_sIf, ↓wp_sNil, ↓wp_sBrk, ↓wp_sCnt, ↓xp_sAsg, ↓xp_sPar, ↓xp_sSetIx, ↓wp_sFor, ↓xp_tB, ↓xp_tTru, ↓wp_tNot, ↓wp_tAnd, ↓wp_tOr, ↓xp_wpV, ↓wp_C, ↓xp_V, ↓wp_O, ↓xp_R, ↓xp_e1, ↓xp_e2, ↓wp_if, ↓xp_and, ↓xp_or, ↓wp_lst, ↓wp_tup, ↓wp_nil, ↓xp_cons, ↓xp_call0, ↓xp_call1, ↓wp_anil, ↓wp_av, ↓wp_aw, ↓xp_mut1, ↓xp_mut0, ↓xp_cut, ↓wpP_none, ↓xp_psome, ↓xp_iA, ↓xp_iR1, ↓xp_iR2, exO_some, ↓reduceIte, ↓xp_end_rt, ↓xp_end_nx, ↓turn_nx, ↓turn_ct, ↓turn_bk, ↓turn_rt, get_val, get_slot, gets, looks, look, lookL, put, Option.bind_some, asB, asI, wipeE, backE, List.map_cons, List.map_nil, List.length_cons, List.length_nil, List.replicate, List.cons_append, List.nil_append, List.set_cons_zero, List.set_cons_succ, Nat.reduceAdd, Nat.reduceSub, add_ii, sub_ii, neg_i, lt_ii, le_ii, gt_ii, ge_ii, eq_ii, ne_ii, eq_bb, ne_bb, int_i, int_b, abs_i, len_l, len_f, len_t, list_l, list_t, tuple_l, tuple_t, not_b, truth_b, truth_i, ix_l, ix_f, ix_t, cut_l, min_ii, max_ii, gN, gT, gTs, at_0, at_1, at_2, at_3, decide_eq_true_eq, Bool.not_true, Bool.not_false, Bool.false_eq_true, Int.reduceEq, Int.reduceNeg, Int.reduceLT, Int.reduceLE, Int.reduceAdd, Int.reduceSub, D.int.injEq, D.bl.injEq, reduceCtorEq, ne_eq, not_true_eq_false, not_false_eq_true, List.getElem?_cons_succ, List.getElem?_cons_zero, Option.getD_some, Option.getD_none, ↓xp_chain, ↓nxS_nx, iter_l, iter_t, ↓xp_chain3, ↓wp_yes, ↓xp_iR3, ↓xp_iEn, ↓xp_iEn2, ↓xp_mut2, ↓xp_putD, ↓xp_dic0, lookD, kOf, enum_l, enum_s, listA_l, listA_f, listA_t, notT_b, hse, ej, wpF_eq hlie]
            first | exact ⟨by rw [hn], rfl⟩ | exact ⟨by rw [hn], trivial⟩ | (rw [hn]; simp)
          | false =>
            rw [hA] at hlie
            simp only [↓wp_run, startE, ↓wp_sSeq, ↓thenS_nx, ↓thenS_rt, ↓thenS_bk, ↓thenS_ct, ↓xp_sSet, ↓xp_sDo, ↓xp_sRet, ↓wp_sIf, ↓wp_sNil, ↓wp_sBrk, ↓wp_sCnt, ↓xp_sAsg, ↓xp_sPar, ↓xp_sSetIx, ↓wp_sFor, ↓xp_tB, ↓xp_tTru, ↓wp_tNot, ↓wp_tAnd, ↓wp_tOr, ↓xp_wpV, ↓wp_C, ↓xp_V, ↓wp_O, ↓xp_R, ↓xp_e1, ↓xp_e2, ↓wp_if, ↓xp_and, ↓xp_or, ↓wp_lst, ↓wp_tup, ↓wp_nil, ↓xp_cons, ↓xp_call0, ↓xp_call1, ↓wp_anil, ↓wp_av, ↓wp_aw, ↓xp_mut1, ↓xp_mut0, ↓xp_cut, ↓wpP_none, ↓xp_psome, ↓xp_iA, ↓xp_iR1, ↓xp_iR2, exO_some, ↓reduceIte, ↓xp_end_rt, ↓xp_end_nx, ↓turn_nx, ↓turn_ct, ↓turn_bk, ↓turn_rt, get_val, get_slot, gets, looks, look, lookL, put, Option.bind_some, asB, asI, wipeE, backE, List.map_cons, List.map_nil, List.length_cons, List.length_nil, List.replicate, List.cons_append, List.nil_append, List.set_cons_zero, List.set_cons_succ, Nat.reduceAdd, Nat.reduceSub, add_ii, sub_ii, neg_i, lt_ii, le_ii, gt_ii, ge_ii, eq_ii, ne_ii, eq_bb, ne_bb, int_i, int_b, abs_i, len_l, len_f, len_t, list_l, list_t, tuple_l, tuple_t, not_b, truth_b, truth_i, ix_l, ix_f, ix_t, cut_l, min_ii, max_ii, gN, gT, gTs, at_0, at_1, at_2, at_3, decide_eq_true_eq, Bool.not_true, Bool.not_false, Bool.false_eq_true, Int.reduceEq, Int.reduceNeg, Int.reduceLT, Int.reduceLE, Int.reduceAdd, Int.reduceSub, D.int.injEq, D.bl.injEq, reduceCtorEq, ne_eq, not_true_eq_false, not_false_eq_true, List.getElem?_cons_succ, List.getElem?_cons_zero, Option.getD_some, Option.getD_none, ↓xp_chain, ↓nxS_nx, iter_l, iter_t, ↓xp_chain3, ↓wp_yes, ↓xp_iR3, ↓xp_iEn, ↓xp_iEn2, ↓xp_mut2, ↓xp_putD, ↓xp_dic0, lookD, kOf, enum_l, enum_s, listA_l, listA_f, listA_t, notT_b, hse, ej, wpF_eq hlie]
            exact ⟨⟨_, _, _, rfl⟩, step fun _ => hA⟩
        · rw [decide_eq_false c] at hse
          simp only [↓wp_run, startE, ↓wp_sSeq, ↓thenS_nx, ↓thenS_rt, ↓thenS_bk, ↓thenS_ct, ↓xp_sSet, ↓xp_sDo, ↓xp_sRet, ↓wp_sIf, ↓wp_sNil, ↓wp_sBrk, ↓wp_sCnt, ↓xp_sAsg, ↓xp_sPar, ↓xp_sSetIx, ↓wp_sFor, ↓xp_tB, ↓xp_tTru, ↓wp_tNot, ↓wp_tAnd, ↓wp_tOr, ↓xp_wpV, ↓wp_C, ↓xp_V, ↓wp_O, ↓xp_R, ↓xp_e1, ↓xp_e2, ↓wp_if, ↓xp_and, ↓xp_or, ↓wp_lst, ↓wp_tup, ↓wp_nil, ↓xp_cons, ↓xp_call0, ↓xp_call1, ↓wp_anil, ↓wp_av, ↓wp_aw, ↓xp_mut1, ↓xp_mut0, ↓xp_cut, ↓wpP_none, ↓xp_psome, ↓xp_iA, ↓xp_iR1, ↓xp_iR2, exO_some, ↓reduceIte, ↓xp_end_rt, ↓xp_end_nx, ↓turn_nx, ↓turn_ct, ↓turn_bk, ↓turn_rt, get_val, get_slot, gets, looks, look, lookL, put, Option.bind_some, asB, asI, wipeE, backE, List.map_cons, List.map_nil, List.length_cons, List.length_nil, List.replicate, List.cons_append, List.nil_append, List.set_cons_zero, List.set_cons_succ, Nat.reduceAdd, Nat.reduceSub, add_ii, sub_ii, neg_i, lt_ii, le_ii, gt_ii, ge_ii, eq_ii, ne_ii, eq_bb, ne_bb, int_i, int_b, abs_i, len_l, len_f, len_t, list_l, list_t, tuple_l, tuple_t, not_b, truth_b, truth_i, ix_l, ix_f, ix_t, cut_l, min_ii, max_ii, gN, gT, gTs, at_0, at_1, at_2, at_3, decide_eq_true_eq, Bool.not_true, Bool.not_false, Bool.false_eq_true, Int.reduceEq, Int.reduceNeg, Int.reduceLT, Int.reduceLE, Int.reduceAdd, Int.reduceSub, D.int.injEq, D.bl.injEq, reduceCtorEq, ne_eq, not_true_eq_false, not_false_eq_true, List.getElem?_cons_succ, List.getElem?_cons_zero, Option.getD_some, Option.getD_none, ↓xp_chain, ↓nxS_nx, iter_l, iter_t, ↓xp_chain3, ↓wp_yes, ↓xp_iR3, ↓xp_iEn, ↓xp_iEn2, ↓xp_mut2, ↓xp_putD, ↓xp_dic0, lookD, kOf, enum_l, enum_s, listA_l, listA_f, listA_t, notT_b, hse]
          exact ⟨⟨_, _, _, rfl⟩, step fun q => absurd q c⟩
      · obtain ⟨⟨z9, z10, z11, rfl⟩, hw2⟩ := w
        rw [List.length_map, List.take_length] at hw2
        refine ⟨⟨_, _, _, _, _, _, rfl⟩, fun x' hx' => ?_⟩
        have ht : O.take (i + 1) = O.take i ++ [x] := by rw [List.take_succ, hx]; rfl
        rw [ht] at hx'
        rcases List.mem_append.mp hx' with q | q
        · exact hw x' q
        · rw [List.mem_singleton] at q; rw [q]; exact hw2
    · obtain ⟨⟨z6, z7, z8, z9, z10, z11, rfl⟩, hw⟩ := w
      rw [List.length_map, List.take_length] at hw
      have hn : CLb L o s = true := cl_iff.mpr fun x hx y hy a b c => hw x ((hO x).mpr ⟨hx, a⟩) y ((hT y).mpr ⟨hy, b⟩) c
      rw [hn]
      simp only [↓wp_run, startE, ↓wp_sSeq, ↓thenS_nx, ↓thenS_rt, ↓thenS_bk, ↓thenS_ct, ↓xp_sSet, ↓xp_sDo, ↓xp_sRet, ↓wp_sIf, ↓wp_sNil, ↓wp_sBrk, ↓wp_sCnt, ↓xp_sAsg, ↓xp_sPar, ↓xp_sSetIx, ↓wp_sFor, ↓xp_tB, ↓xp_tTru, ↓wp_tNot, ↓wp_tAnd, ↓wp_tOr, ↓xp_wpV, ↓wp_C, ↓xp_V, ↓wp_O, ↓xp_R, ↓xp_e1, ↓xp_e2, ↓wp_if, ↓xp_and, ↓xp_or, ↓wp_lst, ↓wp_tup, ↓wp_nil, ↓xp_cons, ↓xp_call0, ↓xp_call1, ↓wp_anil, ↓wp_av, ↓wp_aw, ↓xp_mut1, ↓xp_mut0, ↓xp_cut, ↓wpP_none, ↓xp_psome, ↓xp_iA, ↓xp_iR1, ↓xp_iR2, exO_some, ↓reduceIte, ↓xp_end_rt, ↓xp_end_nx, ↓turn_nx, ↓turn_ct, ↓turn_bk, ↓turn_rt, get_val, get_slot, gets, looks, look, lookL, put, Option.bind_some, asB, asI, wipeE, backE, List.map_cons, List.map_nil, List.length_cons, List.length_nil, List.replicate, List.cons_append, List.nil_append, List.set_cons_zero, List.set_cons_succ, Nat.reduceAdd, Nat.reduceSub, add_ii, sub_ii, neg_i, lt_ii, le_ii, gt_ii, ge_ii, eq_ii, ne_ii, eq_bb, ne_bb, int_i, int_b, abs_i, len_l, len_f, len_t, list_l, list_t, tuple_l, tuple_t, not_b, truth_b, truth_i, ix_l, ix_f, ix_t, cut_l, min_ii, max_ii, gN, gT, gTs, at_0, at_1, at_2, at_3, decide_eq_true_eq, Bool.not_true, Bool.not_false, Bool.false_eq_true, Int.reduceEq, Int.reduceNeg, Int.reduceLT, Int.reduceLE, Int.reduceAdd, Int.reduceSub, D.int.injEq, D.bl.injEq, reduceCtorEq, ne_eq, not_true_eq_false, not_false_eq_true, List.getElem?_cons_succ, List.getElem?_cons_zero, Option.getD_some, Option.getD_none, ↓xp_chain, ↓nxS_nx, iter_l, iter_t, ↓xp_chain3, ↓wp_yes, ↓xp_iR3, ↓xp_iEn, ↓xp_iEn2, ↓xp_mut2, ↓xp_putD, ↓xp_dic0, lookD, kOf, enum_l, enum_s, listA_l, listA_f, listA_t, notT_b, and_self]
  obtain ⟨z, ws, e, rfl, rfl⟩ := ww
  exact e
theorem app_nns {X : List (List Nat)} {o : List Nat} (h : X.length ≤ 100000) : fApp (nns X) (nn o) = some (nns (X ++ [o]), .non) := by
  rw [app_ok (by rw [nns_len]; omega)]
  simp [nns]
def pl (J : List Jt) : Nat → List (List Nat)
  | 0 => [[]]
  | k + 1 => (ext k (pl J k)).filter fun o => CLb J o k
theorem ext_perm' {k : Nat} {X : List (List Nat)} (h : ∀ o ∈ X, o.Perm (List.range k)) : ∀ o ∈ ext k X, o.Perm (List.range (k + 1)) := fun o ho => by
  obtain ⟨o1, h1, h2⟩ := List.mem_flatMap.mp ho
  obtain ⟨a, _, rfl⟩ := List.mem_map.mp h2
  have e : (o1.take a ++ [k] ++ o1.drop a).Perm (k :: o1) := by
    rw [List.append_assoc, List.singleton_append]
    refine List.perm_middle.trans ?_
    rw [List.take_append_drop]
  rw [List.range_succ]
  exact e.trans (((h o1 h1).cons _).trans (List.perm_append_singleton _ _).symm)
theorem pl_perm (J : List Jt) : ∀ k, ∀ o ∈ pl J k, o.Perm (List.range k)
  | 0, o, h => by
    simp only [pl, List.mem_singleton] at h
    rw [h]; exact .refl _
  | k + 1, o, h => ext_perm' (pl_perm J k) o (List.mem_filter.mp h).1
theorem ext_len (s : Nat) : ∀ X : List (List Nat), (ext s X).length = (s + 1) * X.length
  | [] => rfl
  | x :: X => by
    have ih := ext_len s X
    unfold ext at ih ⊢
    rw [List.flatMap_cons, List.length_append, ih, List.length_map, List.length_range, List.length_cons, Nat.mul_add]
    omega
theorem pl_len (J : List Jt) : ∀ k, k ≤ 6 → (pl J k).length ≤ 720 := by
  have h : ∀ k, (pl J (k + 1)).length ≤ (k + 1) * (pl J k).length := fun k => by
    refine Nat.le_trans (List.length_filter_le ..) ?_
    rw [ext_len]; exact Nat.le_refl _
  have h0 : (pl J 0).length = 1 := rfl
  have h1 : (pl J 1).length ≤ 1 * (pl J 0).length := h 0
  have h2 : (pl J 2).length ≤ 2 * (pl J 1).length := h 1
  have h3 : (pl J 3).length ≤ 3 * (pl J 2).length := h 2
  have h4 : (pl J 4).length ≤ 4 * (pl J 3).length := h 3
  have h5 : (pl J 5).length ≤ 5 * (pl J 4).length := h 4
  have h6 : (pl J 6).length ≤ 6 * (pl J 5).length := h 5
  intro k hk
  have : k = 0 ∨ k = 1 ∨ k = 2 ∨ k = 3 ∨ k = 4 ∨ k = 5 ∨ k = 6 := by omega
  rcases this with rfl | rfl | rfl | rfl | rfl | rfl | rfl <;> omega
theorem jc_ab {R C r c : Nat} (h : 1 ≤ C) : ∀ j ∈ jc R C r c, j.a < j.b := fun j hj => by
  unfold jc at hj
  rcases List.mem_append.mp hj with q | q
  · split at q
    · rw [List.mem_singleton] at q; subst q; show r * C + c < r * C + c + 1; omega
    · simp at q
  · split at q
    · rw [List.mem_singleton] at q; subst q; show r * C + c < r * C + c + C; omega
    · simp at q
theorem jall_ab {R C n : Nat} (h : 1 ≤ C) : ∀ j ∈ jall R C n, j.a < j.b := fun j hj => by
  obtain ⟨r, _, hj⟩ := List.mem_flatMap.mp hj
  obtain ⟨c, _, hj⟩ := List.mem_flatMap.mp hj
  exact jc_ab h j hj
theorem all_piles_eq {R C : Nat} (h : Sz R C) (hm : R * C ≤ 6) : all_piles_f [.int (R : Nat), .int (C : Nat)] = some (.lst (nns (pl (jall R C R) (R * C))), []) := by
  rw [wpF_iff]
  unfold all_piles_f all_piles_b
  rw [wp_run]
  have hj := joints_eq h
  obtain ⟨L, hL1, hL2, hL3⟩ := srt_j (jall R C R)
  rw [hL1] at hj
  have hlj := jall_len R C R
  have hll : L.length ≤ 1000 := by
    rw [hL2]
    obtain ⟨a1, a2, a3, a4⟩ := h
    have : 2 * C * R ≤ 10 * 5 := Nat.mul_le_mul (by omega) (by omega)
    omega
  have hab : ∀ j ∈ L, j.a < j.b := fun j hj => jall_ab h.2.1 j ((hL3 j).mp hj)
  have hmu := mulN (r := R) (n := C) (by have := h.2.2.2; omega)
  have hcl : ∀ o s, CLb L o s = CLb (jall R C R) o s := cl_congr hL3
  generalize hJ : jall R C R = J at *
  refine wp_seq_of (fun ε => ε = [some (.int (R : Nat)), some (.int (C : Nat)), some (.lst (L.map jD)), none, none, none, none, none, none]) (by simp only [↓wp_run, startE, ↓wp_sSeq, ↓thenS_nx, ↓thenS_rt, ↓thenS_bk, ↓thenS_ct, ↓xp_sSet, ↓xp_sDo, ↓xp_sRet, ↓wp_sIf, ↓wp_sNil, ↓wp_sBrk, ↓wp_sCnt, ↓xp_sAsg, ↓xp_sPar, ↓xp_sSetIx, ↓wp_sFor, ↓xp_tB, ↓xp_tTru, ↓wp_tNot, ↓wp_tAnd, ↓wp_tOr, ↓xp_wpV, ↓wp_C, ↓xp_V, ↓wp_O, ↓xp_R, ↓xp_e1, ↓xp_e2, ↓wp_if, ↓xp_and, ↓xp_or, ↓wp_lst, ↓wp_tup, ↓wp_nil, ↓xp_cons, ↓xp_call0, ↓xp_call1, ↓wp_anil, ↓wp_av, ↓wp_aw, ↓xp_mut1, ↓xp_mut0, ↓xp_cut, ↓wpP_none, ↓xp_psome, ↓xp_iA, ↓xp_iR1, ↓xp_iR2, exO_some, ↓reduceIte, ↓xp_end_rt, ↓xp_end_nx, ↓turn_nx, ↓turn_ct, ↓turn_bk, ↓turn_rt, get_val, get_slot, gets, looks, look, lookL, put, Option.bind_some, asB, asI, wipeE, backE, List.map_cons, List.map_nil, List.length_cons, List.length_nil, List.replicate, List.cons_append, List.nil_append, List.set_cons_zero, List.set_cons_succ, Nat.reduceAdd, Nat.reduceSub, add_ii, sub_ii, neg_i, lt_ii, le_ii, gt_ii, ge_ii, eq_ii, ne_ii, eq_bb, ne_bb, int_i, int_b, abs_i, len_l, len_f, len_t, list_l, list_t, tuple_l, tuple_t, not_b, truth_b, truth_i, ix_l, ix_f, ix_t, cut_l, min_ii, max_ii, gN, gT, gTs, at_0, at_1, at_2, at_3, decide_eq_true_eq, Bool.not_true, Bool.not_false, Bool.false_eq_true, Int.reduceEq, Int.reduceNeg, Int.reduceLT, Int.reduceLE, Int.reduceAdd, Int.reduceSub, D.int.injEq, D.bl.injEq, reduceCtorEq, ne_eq, not_true_eq_false, not_false_eq_true, List.getElem?_cons_succ, List.getElem?_cons_zero, Option.getD_some, Option.getD_none, ↓xp_chain, ↓nxS_nx, iter_l, iter_t, ↓xp_chain3, ↓wp_yes, ↓xp_iR3, ↓xp_iEn, ↓xp_iEn2, ↓xp_mut2, ↓xp_putD, ↓xp_dic0, lookD, kOf, enum_l, enum_s, listA_l, listA_f, listA_t, notT_b, wpF_eq hj]) ?_
  rintro ε rfl
  refine wp_seq_of (fun ε => ε = [some (.int (R : Nat)), some (.int (C : Nat)), some (.lst (L.map jD)), some (.lst (nns (pl J 0))), none, none, none, none, none]) (by simp only [↓wp_run, startE, ↓wp_sSeq, ↓thenS_nx, ↓thenS_rt, ↓thenS_bk, ↓thenS_ct, ↓xp_sSet, ↓xp_sDo, ↓xp_sRet, ↓wp_sIf, ↓wp_sNil, ↓wp_sBrk, ↓wp_sCnt, ↓xp_sAsg, ↓xp_sPar, ↓xp_sSetIx, ↓wp_sFor, ↓xp_tB, ↓xp_tTru, ↓wp_tNot, ↓wp_tAnd, ↓wp_tOr, ↓xp_wpV, ↓wp_C, ↓xp_V, ↓wp_O, ↓xp_R, ↓xp_e1, ↓xp_e2, ↓wp_if, ↓xp_and, ↓xp_or, ↓wp_lst, ↓wp_tup, ↓wp_nil, ↓xp_cons, ↓xp_call0, ↓xp_call1, ↓wp_anil, ↓wp_av, ↓wp_aw, ↓xp_mut1, ↓xp_mut0, ↓xp_cut, ↓wpP_none, ↓xp_psome, ↓xp_iA, ↓xp_iR1, ↓xp_iR2, exO_some, ↓reduceIte, ↓xp_end_rt, ↓xp_end_nx, ↓turn_nx, ↓turn_ct, ↓turn_bk, ↓turn_rt, get_val, get_slot, gets, looks, look, lookL, put, Option.bind_some, asB, asI, wipeE, backE, List.map_cons, List.map_nil, List.length_cons, List.length_nil, List.replicate, List.cons_append, List.nil_append, List.set_cons_zero, List.set_cons_succ, Nat.reduceAdd, Nat.reduceSub, add_ii, sub_ii, neg_i, lt_ii, le_ii, gt_ii, ge_ii, eq_ii, ne_ii, eq_bb, ne_bb, int_i, int_b, abs_i, len_l, len_f, len_t, list_l, list_t, tuple_l, tuple_t, not_b, truth_b, truth_i, ix_l, ix_f, ix_t, cut_l, min_ii, max_ii, gN, gT, gTs, at_0, at_1, at_2, at_3, decide_eq_true_eq, Bool.not_true, Bool.not_false, Bool.false_eq_true, Int.reduceEq, Int.reduceNeg, Int.reduceLT, Int.reduceLE, Int.reduceAdd, Int.reduceSub, D.int.injEq, D.bl.injEq, reduceCtorEq, ne_eq, not_true_eq_false, not_false_eq_true, List.getElem?_cons_succ, List.getElem?_cons_zero, Option.getD_some, Option.getD_none, ↓xp_chain, ↓nxS_nx, iter_l, iter_t, ↓xp_chain3, ↓wp_yes, ↓xp_iR3, ↓xp_iEn, ↓xp_iEn2, ↓xp_mut2, ↓xp_putD, ↓xp_dic0, lookD, kOf, enum_l, enum_s, listA_l, listA_f, listA_t, notT_b]; rfl) ?_
  rintro ε rfl
  generalize R * C = m at *
  have hbm : inB (m : Nat) = true := inb (by omega) (by omega)
  refine wp_seq_of (fun ε => ∃ z4 z5 z6 z7 z8, ε = [some (.int (R : Nat)), some (.int (C : Nat)), some (.lst (L.map jD)), some (.lst (nns (pl J m))), z4, z5, z6, z7, z8]) ?_ ?_
  · simp only [↓wp_run, startE, ↓wp_sSeq, ↓thenS_nx, ↓thenS_rt, ↓thenS_bk, ↓thenS_ct, ↓xp_sSet, ↓xp_sDo, ↓xp_sRet, ↓wp_sIf, ↓wp_sNil, ↓wp_sBrk, ↓wp_sCnt, ↓xp_sAsg, ↓xp_sPar, ↓xp_sSetIx, ↓wp_sFor, ↓xp_tB, ↓xp_tTru, ↓wp_tNot, ↓wp_tAnd, ↓wp_tOr, ↓xp_wpV, ↓wp_C, ↓xp_V, ↓wp_O, ↓xp_R, ↓xp_e1, ↓xp_e2, ↓wp_if, ↓xp_and, ↓xp_or, ↓wp_lst, ↓wp_tup, ↓wp_nil, ↓xp_cons, ↓xp_call0, ↓xp_call1, ↓wp_anil, ↓wp_av, ↓wp_aw, ↓xp_mut1, ↓xp_mut0, ↓xp_cut, ↓wpP_none, ↓xp_psome, ↓xp_iA, ↓xp_iR1, ↓xp_iR2, exO_some, ↓reduceIte, ↓xp_end_rt, ↓xp_end_nx, ↓turn_nx, ↓turn_ct, ↓turn_bk, ↓turn_rt, get_val, get_slot, gets, looks, look, lookL, put, Option.bind_some, asB, asI, wipeE, backE, List.map_cons, List.map_nil, List.length_cons, List.length_nil, List.replicate, List.cons_append, List.nil_append, List.set_cons_zero, List.set_cons_succ, Nat.reduceAdd, Nat.reduceSub, add_ii, sub_ii, neg_i, lt_ii, le_ii, gt_ii, ge_ii, eq_ii, ne_ii, eq_bb, ne_bb, int_i, int_b, abs_i, len_l, len_f, len_t, list_l, list_t, tuple_l, tuple_t, not_b, truth_b, truth_i, ix_l, ix_f, ix_t, cut_l, min_ii, max_ii, gN, gT, gTs, at_0, at_1, at_2, at_3, decide_eq_true_eq, Bool.not_true, Bool.not_false, Bool.false_eq_true, Int.reduceEq, Int.reduceNeg, Int.reduceLT, Int.reduceLE, Int.reduceAdd, Int.reduceSub, D.int.injEq, D.bl.injEq, reduceCtorEq, ne_eq, not_true_eq_false, not_false_eq_true, List.getElem?_cons_succ, List.getElem?_cons_zero, Option.getD_some, Option.getD_none, ↓xp_chain, ↓nxS_nx, iter_l, iter_t, ↓xp_chain3, ↓wp_yes, ↓xp_iR3, ↓xp_iEn, ↓xp_iEn2, ↓xp_mut2, ↓xp_putD, ↓xp_dic0, lookD, kOf, enum_l, enum_s, listA_l, listA_f, listA_t, notT_b, hmu]
    refine ⟨hbm, ?_⟩
    rw [Int.toNat_natCast]
    refine wp_for (fun k ε => ∃ z4 z5 z6 z7 z8, ε = [some (.int (R : Nat)), some (.int (C : Nat)), some (.lst (L.map jD)), some (.lst (nns (pl J k))), z4, z5, z6, z7, z8]) ⟨_, _, _, _, _, rfl⟩ (fun k z ε hd w => ?_) (fun ε w => ?_)
    · obtain ⟨z4, z5, z6, z7, z8, rfl⟩ := w
      obtain ⟨hk, rfl⟩ := rangeL_get hd
      rw [show (0 : Int) + (k : Nat) * 1 = (k : Nat) by omega]
      refine ⟨_, rfl, ?_⟩
      simp only [gN, VS.put, List.set_cons_succ, List.set_cons_zero]
      refine wp_seq_of (fun ε => ε = [some (.int (R : Nat)), some (.int (C : Nat)), some (.lst (L.map jD)), some (.lst (nns (pl J k))), some (.int (k : Nat)), some (.lst (nns [])), z6, z7, z8]) (by simp only [↓wp_run, startE, ↓wp_sSeq, ↓thenS_nx, ↓thenS_rt, ↓thenS_bk, ↓thenS_ct, ↓xp_sSet, ↓xp_sDo, ↓xp_sRet, ↓wp_sIf, ↓wp_sNil, ↓wp_sBrk, ↓wp_sCnt, ↓xp_sAsg, ↓xp_sPar, ↓xp_sSetIx, ↓wp_sFor, ↓xp_tB, ↓xp_tTru, ↓wp_tNot, ↓wp_tAnd, ↓wp_tOr, ↓xp_wpV, ↓wp_C, ↓xp_V, ↓wp_O, ↓xp_R, ↓xp_e1, ↓xp_e2, ↓wp_if, ↓xp_and, ↓xp_or, ↓wp_lst, ↓wp_tup, ↓wp_nil, ↓xp_cons, ↓xp_call0, ↓xp_call1, ↓wp_anil, ↓wp_av, ↓wp_aw, ↓xp_mut1, ↓xp_mut0, ↓xp_cut, ↓wpP_none, ↓xp_psome, ↓xp_iA, ↓xp_iR1, ↓xp_iR2, exO_some, ↓reduceIte, ↓xp_end_rt, ↓xp_end_nx, ↓turn_nx, ↓turn_ct, ↓turn_bk, ↓turn_rt, get_val, get_slot, gets, looks, look, lookL, put, Option.bind_some, asB, asI, wipeE, backE, List.map_cons, List.map_nil, List.length_cons, List.length_nil, List.replicate, List.cons_append, List.nil_append, List.set_cons_zero, List.set_cons_succ, Nat.reduceAdd, Nat.reduceSub, add_ii, sub_ii, neg_i, lt_ii, le_ii, gt_ii, ge_ii, eq_ii, ne_ii, eq_bb, ne_bb, int_i, int_b, abs_i, len_l, len_f, len_t, list_l, list_t, tuple_l, tuple_t, not_b, truth_b, truth_i, ix_l, ix_f, ix_t, cut_l, min_ii, max_ii, gN, gT, gTs, at_0, at_1, at_2, at_3, decide_eq_true_eq, Bool.not_true, Bool.not_false, Bool.false_eq_true, Int.reduceEq, Int.reduceNeg, Int.reduceLT, Int.reduceLE, Int.reduceAdd, Int.reduceSub, D.int.injEq, D.bl.injEq, reduceCtorEq, ne_eq, not_true_eq_false, not_false_eq_true, List.getElem?_cons_succ, List.getElem?_cons_zero, Option.getD_some, Option.getD_none, ↓xp_chain, ↓nxS_nx, iter_l, iter_t, ↓xp_chain3, ↓wp_yes, ↓xp_iR3, ↓xp_iEn, ↓xp_iEn2, ↓xp_mut2, ↓xp_putD, ↓xp_dic0, lookD, kOf, enum_l, enum_s, listA_l, listA_f, listA_t, notT_b]; rfl) ?_
      rintro ε rfl
      have hpp := pl_perm J k
      have hpl := pl_len J k (by omega)
      have hel := ext_len k (pl J k)
      have hel2 : (k + 1) * (pl J k).length ≤ 6 * 720 := Nat.mul_le_mul (by omega) hpl
      have hsub : ∀ X : List (List Nat), X.Sublist (ext k (pl J k)) → (X.filter fun o => CLb J o k).length ≤ 5000 := fun X hX => by
        have := List.length_filter_le (fun o => CLb J o k) X
        have := hX.length_le
        omega
      refine wp_seq_of (fun ε => ∃ z6 z7 z8, ε = [some (.int (R : Nat)), some (.int (C : Nat)), some (.lst (L.map jD)), some (.lst (nns (pl J k))), some (.int (k : Nat)), some (.lst (nns (pl J (k + 1)))), z6, z7, z8]) ?_ ?_
      · simp only [↓wp_run, startE, ↓wp_sSeq, ↓thenS_nx, ↓thenS_rt, ↓thenS_bk, ↓thenS_ct, ↓xp_sSet, ↓xp_sDo, ↓xp_sRet, ↓wp_sIf, ↓wp_sNil, ↓wp_sBrk, ↓wp_sCnt, ↓xp_sAsg, ↓xp_sPar, ↓xp_sSetIx, ↓wp_sFor, ↓xp_tB, ↓xp_tTru, ↓wp_tNot, ↓wp_tAnd, ↓wp_tOr, ↓xp_wpV, ↓wp_C, ↓xp_V, ↓wp_O, ↓xp_R, ↓xp_e1, ↓xp_e2, ↓wp_if, ↓xp_and, ↓xp_or, ↓wp_lst, ↓wp_tup, ↓wp_nil, ↓xp_cons, ↓xp_call0, ↓xp_call1, ↓wp_anil, ↓wp_av, ↓wp_aw, ↓xp_mut1, ↓xp_mut0, ↓xp_cut, ↓wpP_none, ↓xp_psome, ↓xp_iA, ↓xp_iR1, ↓xp_iR2, exO_some, ↓reduceIte, ↓xp_end_rt, ↓xp_end_nx, ↓turn_nx, ↓turn_ct, ↓turn_bk, ↓turn_rt, get_val, get_slot, gets, looks, look, lookL, put, Option.bind_some, asB, asI, wipeE, backE, List.map_cons, List.map_nil, List.length_cons, List.length_nil, List.replicate, List.cons_append, List.nil_append, List.set_cons_zero, List.set_cons_succ, Nat.reduceAdd, Nat.reduceSub, add_ii, sub_ii, neg_i, lt_ii, le_ii, gt_ii, ge_ii, eq_ii, ne_ii, eq_bb, ne_bb, int_i, int_b, abs_i, len_l, len_f, len_t, list_l, list_t, tuple_l, tuple_t, not_b, truth_b, truth_i, ix_l, ix_f, ix_t, cut_l, min_ii, max_ii, gN, gT, gTs, at_0, at_1, at_2, at_3, decide_eq_true_eq, Bool.not_true, Bool.not_false, Bool.false_eq_true, Int.reduceEq, Int.reduceNeg, Int.reduceLT, Int.reduceLE, Int.reduceAdd, Int.reduceSub, D.int.injEq, D.bl.injEq, reduceCtorEq, ne_eq, not_true_eq_false, not_false_eq_true, List.getElem?_cons_succ, List.getElem?_cons_zero, Option.getD_some, Option.getD_none, ↓xp_chain, ↓nxS_nx, iter_l, iter_t, ↓xp_chain3, ↓wp_yes, ↓xp_iR3, ↓xp_iEn, ↓xp_iEn2, ↓xp_mut2, ↓xp_putD, ↓xp_dic0, lookD, kOf, enum_l, enum_s, listA_l, listA_f, listA_t, notT_b]
        refine wp_for (fun i ε => ∃ z6 z7 z8, ε = [some (.int (R : Nat)), some (.int (C : Nat)), some (.lst (L.map jD)), some (.lst (nns (pl J k))), some (.int (k : Nat)), some (.lst (nns ((ext k ((pl J k).take i)).filter fun o => CLb J o k))), z6, z7, z8]) ⟨_, _, _, rfl⟩ (fun i z ε hd w => ?_) (fun ε w => ?_)
        · obtain ⟨z6, z7, z8, rfl⟩ := w
          unfold nns at hd
          rw [List.getElem?_map] at hd
          obtain ⟨o, ho, rfl⟩ := Option.map_eq_some_iff.mp hd
          have hoP := hpp o (List.mem_of_getElem? ho)
          have hol : o.length = k := by rw [hoP.length_eq, List.length_range]
          refine ⟨_, rfl, ?_⟩
          have hb1 : inB (((k : Nat) : Int) + 1) = true := inb (by omega) (by omega)
          simp only [↓wp_run, startE, ↓wp_sSeq, ↓thenS_nx, ↓thenS_rt, ↓thenS_bk, ↓thenS_ct, ↓xp_sSet, ↓xp_sDo, ↓xp_sRet, ↓wp_sIf, ↓wp_sNil, ↓wp_sBrk, ↓wp_sCnt, ↓xp_sAsg, ↓xp_sPar, ↓xp_sSetIx, ↓wp_sFor, ↓xp_tB, ↓xp_tTru, ↓wp_tNot, ↓wp_tAnd, ↓wp_tOr, ↓xp_wpV, ↓wp_C, ↓xp_V, ↓wp_O, ↓xp_R, ↓xp_e1, ↓xp_e2, ↓wp_if, ↓xp_and, ↓xp_or, ↓wp_lst, ↓wp_tup, ↓wp_nil, ↓xp_cons, ↓xp_call0, ↓xp_call1, ↓wp_anil, ↓wp_av, ↓wp_aw, ↓xp_mut1, ↓xp_mut0, ↓xp_cut, ↓wpP_none, ↓xp_psome, ↓xp_iA, ↓xp_iR1, ↓xp_iR2, exO_some, ↓reduceIte, ↓xp_end_rt, ↓xp_end_nx, ↓turn_nx, ↓turn_ct, ↓turn_bk, ↓turn_rt, get_val, get_slot, gets, looks, look, lookL, put, Option.bind_some, asB, asI, wipeE, backE, List.map_cons, List.map_nil, List.length_cons, List.length_nil, List.replicate, List.cons_append, List.nil_append, List.set_cons_zero, List.set_cons_succ, Nat.reduceAdd, Nat.reduceSub, add_ii, sub_ii, neg_i, lt_ii, le_ii, gt_ii, ge_ii, eq_ii, ne_ii, eq_bb, ne_bb, int_i, int_b, abs_i, len_l, len_f, len_t, list_l, list_t, tuple_l, tuple_t, not_b, truth_b, truth_i, ix_l, ix_f, ix_t, cut_l, min_ii, max_ii, gN, gT, gTs, at_0, at_1, at_2, at_3, decide_eq_true_eq, Bool.not_true, Bool.not_false, Bool.false_eq_true, Int.reduceEq, Int.reduceNeg, Int.reduceLT, Int.reduceLE, Int.reduceAdd, Int.reduceSub, D.int.injEq, D.bl.injEq, reduceCtorEq, ne_eq, not_true_eq_false, not_false_eq_true, List.getElem?_cons_succ, List.getElem?_cons_zero, Option.getD_some, Option.getD_none, ↓xp_chain, ↓nxS_nx, iter_l, iter_t, ↓xp_chain3, ↓wp_yes, ↓xp_iR3, ↓xp_iEn, ↓xp_iEn2, ↓xp_mut2, ↓xp_putD, ↓xp_dic0, lookD, kOf, enum_l, enum_s, listA_l, listA_f, listA_t, notT_b, nn_len, hol, hb1]
          refine ⟨trivial, ?_⟩
          rw [show (((k : Nat) : Int) + 1).toNat = k + 1 by omega]
          have ht : (pl J k).take (i + 1) = (pl J k).take i ++ [o] := by rw [List.take_succ, ho]; rfl
          have hex : ext k ((pl J k).take (i + 1)) = ext k ((pl J k).take i) ++ (List.range (k + 1)).map fun a => o.take a ++ [k] ++ o.drop a := by
            rw [ht]
            unfold ext
            rw [List.flatMap_append]; simp
          have hsl : (ext k ((pl J k).take (i + 1))).Sublist (ext k (pl J k)) := by
            unfold ext
            conv => rhs; rw [← List.take_append_drop (i + 1) (pl J k), List.flatMap_append]
            exact List.sublist_append_left ..
          have hlen1 := hsub _ hsl
          rw [hex, List.filter_append, List.length_append] at hlen1
          refine wp_for (fun a ε => ∃ z7 z8, ε = [some (.int (R : Nat)), some (.int (C : Nat)), some (.lst (L.map jD)), some (.lst (nns (pl J k))), some (.int (k : Nat)), some (.lst (nns ((ext k ((pl J k).take i)).filter (fun o => CLb J o k) ++ ((List.range a).map fun a => o.take a ++ [k] ++ o.drop a).filter fun o => CLb J o k))), some (nn o), z7, z8]) ⟨z7, z8, by simp⟩ (fun a z ε hd w => ?_) (fun ε w => ?_)
          · obtain ⟨z7, z8, rfl⟩ := w
            obtain ⟨ha, rfl⟩ := rangeL_get hd
            rw [show (0 : Int) + (a : Nat) * 1 = (a : Nat) by omega]
            refine ⟨_, rfl, ?_⟩
            simp only [gN, VS.put, List.set_cons_succ, List.set_cons_zero]
            have c1 := cutT_nn (l := o) (k := a) (by omega)
            have c2 := cutF_nn (l := o) (k := a) (by omega)
            have a1 : dAdd (nn (o.take a)) (.lst [.int ((k : Nat) : Int)]) = some (nn (o.take a ++ [k])) := add_nn (l := o.take a) (m := [k]) (by rw [List.length_take]; simp; omega)
            have a2 := add_nn (l := o.take a ++ [k]) (m := o.drop a) (by rw [List.length_append, List.length_take, List.length_drop]; simp; omega)
            have hq : (o.take a ++ [k] ++ o.drop a).Perm (List.range (k + 1)) := ext_perm' hpp _ (List.mem_flatMap.mpr ⟨o, List.mem_of_getElem? ho, List.mem_map.mpr ⟨a, List.mem_range.mpr (by omega), rfl⟩⟩)
            obtain ⟨g, gl⟩ := gd_perm hq (by omega)
            have hcan := can_lie_eq hll hab g gl
            rw [hcl] at hcan
            have hr : (List.range (a + 1)).map (fun a => o.take a ++ [k] ++ o.drop a) = (List.range a).map (fun a => o.take a ++ [k] ++ o.drop a) ++ [o.take a ++ [k] ++ o.drop a] := by rw [List.range_succ, List.map_append]; rfl
            have hlen2 : (((List.range a).map fun a => o.take a ++ [k] ++ o.drop a).filter fun o => CLb J o k).length ≤ 7 := Nat.le_trans (List.length_filter_le ..) (by rw [List.length_map, List.length_range]; omega)
            refine wp_seq_of (fun ε => ε = [some (.int (R : Nat)), some (.int (C : Nat)), some (.lst (L.map jD)), some (.lst (nns (pl J k))), some (.int (k : Nat)), some (.lst (nns ((ext k ((pl J k).take i)).filter (fun o => CLb J o k) ++ ((List.range a).map fun a => o.take a ++ [k] ++ o.drop a).filter fun o => CLb J o k))), some (nn o), some (.int (a : Nat)), some (nn (o.take a ++ [k] ++ o.drop a))]) (by simp only [↓wp_run, startE, ↓wp_sSeq, ↓thenS_nx, ↓thenS_rt, ↓thenS_bk, ↓thenS_ct, ↓xp_sSet, ↓xp_sDo, ↓xp_sRet, ↓wp_sIf, ↓wp_sNil, ↓wp_sBrk, ↓wp_sCnt, ↓xp_sAsg, ↓xp_sPar, ↓xp_sSetIx, ↓wp_sFor, ↓xp_tB, ↓xp_tTru, ↓wp_tNot, ↓wp_tAnd, ↓wp_tOr, ↓xp_wpV, ↓wp_C, ↓xp_V, ↓wp_O, ↓xp_R, ↓xp_e1, ↓xp_e2, ↓wp_if, ↓xp_and, ↓xp_or, ↓wp_lst, ↓wp_tup, ↓wp_nil, ↓xp_cons, ↓xp_call0, ↓xp_call1, ↓wp_anil, ↓wp_av, ↓wp_aw, ↓xp_mut1, ↓xp_mut0, ↓xp_cut, ↓wpP_none, ↓xp_psome, ↓xp_iA, ↓xp_iR1, ↓xp_iR2, exO_some, ↓reduceIte, ↓xp_end_rt, ↓xp_end_nx, ↓turn_nx, ↓turn_ct, ↓turn_bk, ↓turn_rt, get_val, get_slot, gets, looks, look, lookL, put, Option.bind_some, asB, asI, wipeE, backE, List.map_cons, List.map_nil, List.length_cons, List.length_nil, List.replicate, List.cons_append, List.nil_append, List.set_cons_zero, List.set_cons_succ, Nat.reduceAdd, Nat.reduceSub, add_ii, sub_ii, neg_i, lt_ii, le_ii, gt_ii, ge_ii, eq_ii, ne_ii, eq_bb, ne_bb, int_i, int_b, abs_i, len_l, len_f, len_t, list_l, list_t, tuple_l, tuple_t, not_b, truth_b, truth_i, ix_l, ix_f, ix_t, cut_l, min_ii, max_ii, gN, gT, gTs, at_0, at_1, at_2, at_3, decide_eq_true_eq, Bool.not_true, Bool.not_false, Bool.false_eq_true, Int.reduceEq, Int.reduceNeg, Int.reduceLT, Int.reduceLE, Int.reduceAdd, Int.reduceSub, D.int.injEq, D.bl.injEq, reduceCtorEq, ne_eq, not_true_eq_false, not_false_eq_true, List.getElem?_cons_succ, List.getElem?_cons_zero, Option.getD_some, Option.getD_none, ↓xp_chain, ↓nxS_nx, iter_l, iter_t, ↓xp_chain3, ↓wp_yes, ↓xp_iR3, ↓xp_iEn, ↓xp_iEn2, ↓xp_mut2, ↓xp_putD, ↓xp_dic0, lookD, kOf, enum_l, enum_s, listA_l, listA_f, listA_t, notT_b, c1, c2, a1, a2]) ?_
            rintro ε rfl
            rw [hr, List.filter_append, List.filter_cons, ← List.append_assoc]
            cases hq : CLb J (o.take a ++ [k] ++ o.drop a) k with
            | true =>
              rw [hq] at hcan
              have hap : fApp (nns ((ext k ((pl J k).take i)).filter (fun o => CLb J o k) ++ ((List.range a).map fun a => o.take a ++ [k] ++ o.drop a).filter fun o => CLb J o k)) (nn (o.take a ++ [k] ++ o.drop a)) = some (nns (((ext k ((pl J k).take i)).filter (fun o => CLb J o k) ++ ((List.range a).map fun a => o.take a ++ [k] ++ o.drop a).filter fun o => CLb J o k) ++ [o.take a ++ [k] ++ o.drop a]), .non) := by
                exact app_nns (by rw [List.length_append]; omega)
              simp only [↓wp_run, startE, ↓wp_sSeq, ↓thenS_nx, ↓thenS_rt, ↓thenS_bk, ↓thenS_ct, ↓xp_sSet, ↓xp_sDo, ↓xp_sRet, ↓wp_sIf, ↓wp_sNil, ↓wp_sBrk, ↓wp_sCnt, ↓xp_sAsg, ↓xp_sPar, ↓xp_sSetIx, ↓wp_sFor, ↓xp_tB, ↓xp_tTru, ↓wp_tNot, ↓wp_tAnd, ↓wp_tOr, ↓xp_wpV, ↓wp_C, ↓xp_V, ↓wp_O, ↓xp_R, ↓xp_e1, ↓xp_e2, ↓wp_if, ↓xp_and, ↓xp_or, ↓wp_lst, ↓wp_tup, ↓wp_nil, ↓xp_cons, ↓xp_call0, ↓xp_call1, ↓wp_anil, ↓wp_av, ↓wp_aw, ↓xp_mut1, ↓xp_mut0, ↓xp_cut, ↓wpP_none, ↓xp_psome, ↓xp_iA, ↓xp_iR1, ↓xp_iR2, exO_some, ↓reduceIte, ↓xp_end_rt, ↓xp_end_nx, ↓turn_nx, ↓turn_ct, ↓turn_bk, ↓turn_rt, get_val, get_slot, gets, looks, look, lookL, put, Option.bind_some, asB, asI, wipeE, backE, List.map_cons, List.map_nil, List.length_cons, List.length_nil, List.replicate, List.cons_append, List.nil_append, List.set_cons_zero, List.set_cons_succ, Nat.reduceAdd, Nat.reduceSub, add_ii, sub_ii, neg_i, lt_ii, le_ii, gt_ii, ge_ii, eq_ii, ne_ii, eq_bb, ne_bb, int_i, int_b, abs_i, len_l, len_f, len_t, list_l, list_t, tuple_l, tuple_t, not_b, truth_b, truth_i, ix_l, ix_f, ix_t, cut_l, min_ii, max_ii, gN, gT, gTs, at_0, at_1, at_2, at_3, decide_eq_true_eq, Bool.not_true, Bool.not_false, Bool.false_eq_true, Int.reduceEq, Int.reduceNeg, Int.reduceLT, Int.reduceLE, Int.reduceAdd, Int.reduceSub, D.int.injEq, D.bl.injEq, reduceCtorEq, ne_eq, not_true_eq_false, not_false_eq_true, List.getElem?_cons_succ, List.getElem?_cons_zero, Option.getD_some, Option.getD_none, ↓xp_chain, ↓nxS_nx, iter_l, iter_t, ↓xp_chain3, ↓wp_yes, ↓xp_iR3, ↓xp_iEn, ↓xp_iEn2, ↓xp_mut2, ↓xp_putD, ↓xp_dic0, lookD, kOf, enum_l, enum_s, listA_l, listA_f, listA_t, notT_b, wpF_eq hcan, hap, if_true, List.filter_nil]
              exact ⟨_, _, rfl⟩
            | false =>
              rw [hq] at hcan
              simp only [↓wp_run, startE, ↓wp_sSeq, ↓thenS_nx, ↓thenS_rt, ↓thenS_bk, ↓thenS_ct, ↓xp_sSet, ↓xp_sDo, ↓xp_sRet, ↓wp_sIf, ↓wp_sNil, ↓wp_sBrk, ↓wp_sCnt, ↓xp_sAsg, ↓xp_sPar, ↓xp_sSetIx, ↓wp_sFor, ↓xp_tB, ↓xp_tTru, ↓wp_tNot, ↓wp_tAnd, ↓wp_tOr, ↓xp_wpV, ↓wp_C, ↓xp_V, ↓wp_O, ↓xp_R, ↓xp_e1, ↓xp_e2, ↓wp_if, ↓xp_and, ↓xp_or, ↓wp_lst, ↓wp_tup, ↓wp_nil, ↓xp_cons, ↓xp_call0, ↓xp_call1, ↓wp_anil, ↓wp_av, ↓wp_aw, ↓xp_mut1, ↓xp_mut0, ↓xp_cut, ↓wpP_none, ↓xp_psome, ↓xp_iA, ↓xp_iR1, ↓xp_iR2, exO_some, ↓reduceIte, ↓xp_end_rt, ↓xp_end_nx, ↓turn_nx, ↓turn_ct, ↓turn_bk, ↓turn_rt, get_val, get_slot, gets, looks, look, lookL, put, Option.bind_some, asB, asI, wipeE, backE, List.map_cons, List.map_nil, List.length_cons, List.length_nil, List.replicate, List.cons_append, List.nil_append, List.set_cons_zero, List.set_cons_succ, Nat.reduceAdd, Nat.reduceSub, add_ii, sub_ii, neg_i, lt_ii, le_ii, gt_ii, ge_ii, eq_ii, ne_ii, eq_bb, ne_bb, int_i, int_b, abs_i, len_l, len_f, len_t, list_l, list_t, tuple_l, tuple_t, not_b, truth_b, truth_i, ix_l, ix_f, ix_t, cut_l, min_ii, max_ii, gN, gT, gTs, at_0, at_1, at_2, at_3, decide_eq_true_eq, Bool.not_true, Bool.not_false, Bool.false_eq_true, Int.reduceEq, Int.reduceNeg, Int.reduceLT, Int.reduceLE, Int.reduceAdd, Int.reduceSub, D.int.injEq, D.bl.injEq, reduceCtorEq, ne_eq, not_true_eq_false, not_false_eq_true, List.getElem?_cons_succ, List.getElem?_cons_zero, Option.getD_some, Option.getD_none, ↓xp_chain, ↓nxS_nx, iter_l, iter_t, ↓xp_chain3, ↓wp_yes, ↓xp_iR3, ↓xp_iEn, ↓xp_iEn2, ↓xp_mut2, ↓xp_putD, ↓xp_dic0, lookD, kOf, enum_l, enum_s, listA_l, listA_f, listA_t, notT_b, wpF_eq hcan, Bool.false_eq_true, if_false, List.filter_nil, List.append_nil]
              exact ⟨_, _, rfl⟩
          · obtain ⟨z7, z8, rfl⟩ := w
            rw [rangeL_len, hex, List.filter_append]
            exact ⟨_, _, _, rfl⟩
        · obtain ⟨z6, z7, z8, rfl⟩ := w
          rw [nns_len, List.take_length]
          exact ⟨_, _, _, rfl⟩
      rintro ε ⟨z6, z7, z8, rfl⟩
      simp only [↓wp_run, startE, ↓wp_sSeq, ↓thenS_nx, ↓thenS_rt, ↓thenS_bk, ↓thenS_ct, ↓xp_sSet, ↓xp_sDo, ↓xp_sRet, ↓wp_sIf, ↓wp_sNil, ↓wp_sBrk, ↓wp_sCnt, ↓xp_sAsg, ↓xp_sPar, ↓xp_sSetIx, ↓wp_sFor, ↓xp_tB, ↓xp_tTru, ↓wp_tNot, ↓wp_tAnd, ↓wp_tOr, ↓xp_wpV, ↓wp_C, ↓xp_V, ↓wp_O, ↓xp_R, ↓xp_e1, ↓xp_e2, ↓wp_if, ↓xp_and, ↓xp_or, ↓wp_lst, ↓wp_tup, ↓wp_nil, ↓xp_cons, ↓xp_call0, ↓xp_call1, ↓wp_anil, ↓wp_av, ↓wp_aw, ↓xp_mut1, ↓xp_mut0, ↓xp_cut, ↓wpP_none, ↓xp_psome, ↓xp_iA, ↓xp_iR1, ↓xp_iR2, exO_some, ↓reduceIte, ↓xp_end_rt, ↓xp_end_nx, ↓turn_nx, ↓turn_ct, ↓turn_bk, ↓turn_rt, get_val, get_slot, gets, looks, look, lookL, put, Option.bind_some, asB, asI, wipeE, backE, List.map_cons, List.map_nil, List.length_cons, List.length_nil, List.replicate, List.cons_append, List.nil_append, List.set_cons_zero, List.set_cons_succ, Nat.reduceAdd, Nat.reduceSub, add_ii, sub_ii, neg_i, lt_ii, le_ii, gt_ii, ge_ii, eq_ii, ne_ii, eq_bb, ne_bb, int_i, int_b, abs_i, len_l, len_f, len_t, list_l, list_t, tuple_l, tuple_t, not_b, truth_b, truth_i, ix_l, ix_f, ix_t, cut_l, min_ii, max_ii, gN, gT, gTs, at_0, at_1, at_2, at_3, decide_eq_true_eq, Bool.not_true, Bool.not_false, Bool.false_eq_true, Int.reduceEq, Int.reduceNeg, Int.reduceLT, Int.reduceLE, Int.reduceAdd, Int.reduceSub, D.int.injEq, D.bl.injEq, reduceCtorEq, ne_eq, not_true_eq_false, not_false_eq_true, List.getElem?_cons_succ, List.getElem?_cons_zero, Option.getD_some, Option.getD_none, ↓xp_chain, ↓nxS_nx, iter_l, iter_t, ↓xp_chain3, ↓wp_yes, ↓xp_iR3, ↓xp_iEn, ↓xp_iEn2, ↓xp_mut2, ↓xp_putD, ↓xp_dic0, lookD, kOf, enum_l, enum_s, listA_l, listA_f, listA_t, notT_b]
      exact ⟨_, _, _, _, _, rfl⟩
    · obtain ⟨z4, z5, z6, z7, z8, rfl⟩ := w
      rw [rangeL_len]
      exact ⟨_, _, _, _, _, rfl⟩
  rintro ε ⟨z4, z5, z6, z7, z8, rfl⟩
  simp only [↓wp_run, startE, ↓wp_sSeq, ↓thenS_nx, ↓thenS_rt, ↓thenS_bk, ↓thenS_ct, ↓xp_sSet, ↓xp_sDo, ↓xp_sRet, ↓wp_sIf, ↓wp_sNil, ↓wp_sBrk, ↓wp_sCnt, ↓xp_sAsg, ↓xp_sPar, ↓xp_sSetIx, ↓wp_sFor, ↓xp_tB, ↓xp_tTru, ↓wp_tNot, ↓wp_tAnd, ↓wp_tOr, ↓xp_wpV, ↓wp_C, ↓xp_V, ↓wp_O, ↓xp_R, ↓xp_e1, ↓xp_e2, ↓wp_if, ↓xp_and, ↓xp_or, ↓wp_lst, ↓wp_tup, ↓wp_nil, ↓xp_cons, ↓xp_call0, ↓xp_call1, ↓wp_anil, ↓wp_av, ↓wp_aw, ↓xp_mut1, ↓xp_mut0, ↓xp_cut, ↓wpP_none, ↓xp_psome, ↓xp_iA, ↓xp_iR1, ↓xp_iR2, exO_some, ↓reduceIte, ↓xp_end_rt, ↓xp_end_nx, ↓turn_nx, ↓turn_ct, ↓turn_bk, ↓turn_rt, get_val, get_slot, gets, looks, look, lookL, put, Option.bind_some, asB, asI, wipeE, backE, List.map_cons, List.map_nil, List.length_cons, List.length_nil, List.replicate, List.cons_append, List.nil_append, List.set_cons_zero, List.set_cons_succ, Nat.reduceAdd, Nat.reduceSub, add_ii, sub_ii, neg_i, lt_ii, le_ii, gt_ii, ge_ii, eq_ii, ne_ii, eq_bb, ne_bb, int_i, int_b, abs_i, len_l, len_f, len_t, list_l, list_t, tuple_l, tuple_t, not_b, truth_b, truth_i, ix_l, ix_f, ix_t, cut_l, min_ii, max_ii, gN, gT, gTs, at_0, at_1, at_2, at_3, decide_eq_true_eq, Bool.not_true, Bool.not_false, Bool.false_eq_true, Int.reduceEq, Int.reduceNeg, Int.reduceLT, Int.reduceLE, Int.reduceAdd, Int.reduceSub, D.int.injEq, D.bl.injEq, reduceCtorEq, ne_eq, not_true_eq_false, not_false_eq_true, List.getElem?_cons_succ, List.getElem?_cons_zero, Option.getD_some, Option.getD_none, ↓xp_chain, ↓nxS_nx, iter_l, iter_t, ↓xp_chain3, ↓wp_yes, ↓xp_iR3, ↓xp_iEn, ↓xp_iEn2, ↓xp_mut2, ↓xp_putD, ↓xp_dic0, lookD, kOf, enum_l, enum_s, listA_l, listA_f, listA_t, notT_b, and_self]
/-! maps -/
def sl (X : List (List Nat)) : List D := X.map D.str
def mD (R C : Nat) (t : List (List Nat) × List (List Nat)) : D := .tup [.int (R : Nat), .int (C : Nat), .lst (sl t.1), .lst (sl t.2)]
theorem sl_len (X : List (List Nat)) : (sl X).length = X.length := List.length_map ..
theorem deqs_sl : ∀ X Y : List (List Nat), deqs (sl X) (sl Y) = decide (X = Y)
  | [], [] => rfl
  | [], _ :: _ => rfl
  | _ :: _, [] => rfl
  | x :: X, y :: Y => by
    have ih := deqs_sl X Y
    unfold sl at ih ⊢
    simp only [List.map_cons, deqs, deq, ih]
    by_cases h : x = y <;> by_cases h2 : X = Y <;> simp [h, h2]
theorem can_sl : ∀ (n : Nat) (X : List (List Nat)), canEqs (sl X) (n + 1) = true
  | _, [] => rfl
  | n, x :: X => by
    have ih := can_sl n X
    unfold sl at ih ⊢
    rw [List.map_cons, canEqs, ih]; simp [canEq]
theorem eq_mD (R C : Nat) (t u : List (List Nat) × List (List Nat)) : dEq (mD R C t) (mD R C u) = some (.bl (decide (t = u))) := by
  have hc : ∀ t, canEq (mD R C t) 60 = true := fun t => by
    unfold mD
    have h1 := can_sl 57 t.1
    have h2 := can_sl 57 t.2
    simp [canEq, canEqs, h1, h2]
  unfold dEq
  rw [hc, hc]
  show some (D.bl (deq (mD R C t) (mD R C u))) = _
  refine congrArg (fun c => some (D.bl c)) ?_
  unfold mD
  simp only [deq, deqs, deqs_sl, decide_true, Bool.true_and, Bool.and_true]
  obtain ⟨t1, t2⟩ := t
  obtain ⟨u1, u2⟩ := u
  rw [Bool.eq_iff_iff]
  simp
theorem join_1 {l : List Nat} (h : l.length ≤ 1000) : dJoin (.lst (l.map fun c => D.str [c])) = some (.str l) := by
  have e : strsOf (l.map fun c => D.str [c]) = some (l.map fun c => [c]) := by
    clear h
    induction l with
    | nil => rfl
    | cons c l ih => simp [strsOf, ih]
  have e2 : ((l.map fun c => [c]).map List.length).sum = l.length := by
    clear h e
    induction l with
    | nil => rfl
    | cons c l ih =>
      simp only [List.map_cons, List.sum_cons, List.length_cons, List.length_nil] at ih ⊢
      omega
  have e3 : (l.map fun c => [c]).flatten = l := by
    clear h e e2
    induction l with
    | nil => rfl
    | cons c l ih => simp [ih]
  simp only [dJoin, e, Option.bind_some, e2, e3]
  rw [if_pos (by omega)]
def ltr (C : Nat) (o : List Nat) (a b : Nat) : Nat := if (decide (o.idxOf a < o.idxOf b) == decide ((a / C + a % C) % 2 = 0)) = true then 118 else 109
def mp (R C : Nat) (o : List Nat) : List (List Nat) × List (List Nat) :=
  ((List.range R).map fun r => (List.range (C - 1)).map fun c => ltr C o (r * C + c) (r * C + c + 1), (List.range (R - 1)).map fun r => (List.range C).map fun c => ltr C o (r * C + c) (r * C + c + C))
theorem eq_bb (a b : Bool) : dEq (.bl a) (.bl b) = some (.bl (a == b)) := by cases a <;> cases b <;> rfl
theorem divN {C : Nat} (h : 1 ≤ C) (h2 : C ≤ 5) : divOk ((C : Nat) : Int) = true := by
  have : C = 1 ∨ C = 2 ∨ C = 3 ∨ C = 4 ∨ C = 5 := by omega
  rcases this with rfl | rfl | rfl | rfl | rfl <;> decide
theorem letter_eq {C : Nat} (h : 1 ≤ C) (h2 : C ≤ 5) {o : List Nat} {a b : Nat} (ha : a ∈ o) (hb : b ∈ o) : letter_at_f [.int (C : Nat), nn o, .int (a : Nat), .int (b : Nat)] = some (.str [ltr C o a b], []) := by
  rw [wpF_iff]
  unfold letter_at_f letter_at_b
  rw [wp_run]
  have e1 : dFdiv (.int ((a : Nat) : Int)) (.int ((C : Nat) : Int)) = some (.int ((a / C : Nat) : Int)) := by rw [fdiv_ii (divN h h2), fdivN]
  have e2 : dMod (.int ((a : Nat) : Int)) (.int ((C : Nat) : Int)) = some (.int ((a % C : Nat) : Int)) := modN h
  have e3 := mod2 (a / C + a % C)
  rw [show ((a / C + a % C : Nat) : Int) = ((a / C : Nat) : Int) + ((a % C : Nat) : Int) by omega] at e3
  have e4 : decide ((((a / C + a % C) % 2 : Nat) : Int) = 0) = decide ((a / C + a % C) % 2 = 0) := decide_eq_decide.mpr (by omega)
  refine wp_seq_of (fun ε => ε = [some (.int (C : Nat)), some (nn o), some (.int (a : Nat)), some (.int (b : Nat)), some (.bl (decide ((a / C + a % C) % 2 = 0)))]) (by simp only [↓wp_run, startE, ↓wp_sSeq, ↓thenS_nx, ↓thenS_rt, ↓thenS_bk, ↓thenS_ct, ↓xp_sSet, ↓xp_sDo, ↓xp_sRet, ↓wp_sIf, ↓wp_sNil, ↓wp_sBrk, ↓wp_sCnt, ↓xp_sAsg, ↓xp_sPar, ↓xp_sSetIx, ↓wp_sFor, ↓xp_tB, ↓xp_tTru, ↓wp_tNot, ↓wp_tAnd, ↓wp_tOr, ↓xp_wpV, ↓wp_C, ↓xp_V, ↓wp_O, ↓xp_R, ↓xp_e1, ↓xp_e2, ↓wp_if, ↓xp_and, ↓xp_or, ↓wp_lst, ↓wp_tup, ↓wp_nil, ↓xp_cons, ↓xp_call0, ↓xp_call1, ↓wp_anil, ↓wp_av, ↓wp_aw, ↓xp_mut1, ↓xp_mut0, ↓xp_cut, ↓wpP_none, ↓xp_psome, ↓xp_iA, ↓xp_iR1, ↓xp_iR2, exO_some, ↓reduceIte, ↓xp_end_rt, ↓xp_end_nx, ↓turn_nx, ↓turn_ct, ↓turn_bk, ↓turn_rt, get_val, get_slot, gets, looks, look, lookL, put, Option.bind_some, asB, asI, wipeE, backE, List.map_cons, List.map_nil, List.length_cons, List.length_nil, List.replicate, List.cons_append, List.nil_append, List.set_cons_zero, List.set_cons_succ, Nat.reduceAdd, Nat.reduceSub, add_ii, sub_ii, neg_i, lt_ii, le_ii, gt_ii, ge_ii, eq_ii, ne_ii, eq_bb, ne_bb, int_i, int_b, abs_i, len_l, len_f, len_t, list_l, list_t, tuple_l, tuple_t, not_b, truth_b, truth_i, ix_l, ix_f, ix_t, cut_l, min_ii, max_ii, gN, gT, gTs, at_0, at_1, at_2, at_3, decide_eq_true_eq, Bool.not_true, Bool.not_false, Bool.false_eq_true, Int.reduceEq, Int.reduceNeg, Int.reduceLT, Int.reduceLE, Int.reduceAdd, Int.reduceSub, D.int.injEq, D.bl.injEq, reduceCtorEq, ne_eq, not_true_eq_false, not_false_eq_true, List.getElem?_cons_succ, List.getElem?_cons_zero, Option.getD_some, Option.getD_none, ↓xp_chain, ↓nxS_nx, iter_l, iter_t, ↓xp_chain3, ↓wp_yes, ↓xp_iR3, ↓xp_iEn, ↓xp_iEn2, ↓xp_mut2, ↓xp_putD, ↓xp_dic0, lookD, kOf, enum_l, enum_s, listA_l, listA_f, listA_t, notT_b, e1, e2, e3, e4]) ?_
  rintro ε rfl
  have i1 := index_nn ha
  have i2 := index_nn hb
  have e5 : decide (((o.idxOf a : Nat) : Int) < ((o.idxOf b : Nat) : Int)) = decide (o.idxOf a < o.idxOf b) := decide_eq_decide.mpr (by omega)
  unfold ltr
  cases c : (decide (o.idxOf a < o.idxOf b) == decide ((a / C + a % C) % 2 = 0)) with
  | true => simp only [↓wp_run, startE, ↓wp_sSeq, ↓thenS_nx, ↓thenS_rt, ↓thenS_bk, ↓thenS_ct, ↓xp_sSet, ↓xp_sDo, ↓xp_sRet, ↓wp_sIf, ↓wp_sNil, ↓wp_sBrk, ↓wp_sCnt, ↓xp_sAsg, ↓xp_sPar, ↓xp_sSetIx, ↓wp_sFor, ↓xp_tB, ↓xp_tTru, ↓wp_tNot, ↓wp_tAnd, ↓wp_tOr, ↓xp_wpV, ↓wp_C, ↓xp_V, ↓wp_O, ↓xp_R, ↓xp_e1, ↓xp_e2, ↓wp_if, ↓xp_and, ↓xp_or, ↓wp_lst, ↓wp_tup, ↓wp_nil, ↓xp_cons, ↓xp_call0, ↓xp_call1, ↓wp_anil, ↓wp_av, ↓wp_aw, ↓xp_mut1, ↓xp_mut0, ↓xp_cut, ↓wpP_none, ↓xp_psome, ↓xp_iA, ↓xp_iR1, ↓xp_iR2, exO_some, ↓reduceIte, ↓xp_end_rt, ↓xp_end_nx, ↓turn_nx, ↓turn_ct, ↓turn_bk, ↓turn_rt, get_val, get_slot, gets, looks, look, lookL, put, Option.bind_some, asB, asI, wipeE, backE, List.map_cons, List.map_nil, List.length_cons, List.length_nil, List.replicate, List.cons_append, List.nil_append, List.set_cons_zero, List.set_cons_succ, Nat.reduceAdd, Nat.reduceSub, add_ii, sub_ii, neg_i, lt_ii, le_ii, gt_ii, ge_ii, eq_ii, ne_ii, eq_bb, ne_bb, int_i, int_b, abs_i, len_l, len_f, len_t, list_l, list_t, tuple_l, tuple_t, not_b, truth_b, truth_i, ix_l, ix_f, ix_t, cut_l, min_ii, max_ii, gN, gT, gTs, at_0, at_1, at_2, at_3, decide_eq_true_eq, Bool.not_true, Bool.not_false, Bool.false_eq_true, Int.reduceEq, Int.reduceNeg, Int.reduceLT, Int.reduceLE, Int.reduceAdd, Int.reduceSub, D.int.injEq, D.bl.injEq, reduceCtorEq, ne_eq, not_true_eq_false, not_false_eq_true, List.getElem?_cons_succ, List.getElem?_cons_zero, Option.getD_some, Option.getD_none, ↓xp_chain, ↓nxS_nx, iter_l, iter_t, ↓xp_chain3, ↓wp_yes, ↓xp_iR3, ↓xp_iEn, ↓xp_iEn2, ↓xp_mut2, ↓xp_putD, ↓xp_dic0, lookD, kOf, enum_l, enum_s, listA_l, listA_f, listA_t, notT_b, i1, i2, e5, eq_bb, c, if_true, and_self]
  | false => simp only [↓wp_run, startE, ↓wp_sSeq, ↓thenS_nx, ↓thenS_rt, ↓thenS_bk, ↓thenS_ct, ↓xp_sSet, ↓xp_sDo, ↓xp_sRet, ↓wp_sIf, ↓wp_sNil, ↓wp_sBrk, ↓wp_sCnt, ↓xp_sAsg, ↓xp_sPar, ↓xp_sSetIx, ↓wp_sFor, ↓xp_tB, ↓xp_tTru, ↓wp_tNot, ↓wp_tAnd, ↓wp_tOr, ↓xp_wpV, ↓wp_C, ↓xp_V, ↓wp_O, ↓xp_R, ↓xp_e1, ↓xp_e2, ↓wp_if, ↓xp_and, ↓xp_or, ↓wp_lst, ↓wp_tup, ↓wp_nil, ↓xp_cons, ↓xp_call0, ↓xp_call1, ↓wp_anil, ↓wp_av, ↓wp_aw, ↓xp_mut1, ↓xp_mut0, ↓xp_cut, ↓wpP_none, ↓xp_psome, ↓xp_iA, ↓xp_iR1, ↓xp_iR2, exO_some, ↓reduceIte, ↓xp_end_rt, ↓xp_end_nx, ↓turn_nx, ↓turn_ct, ↓turn_bk, ↓turn_rt, get_val, get_slot, gets, looks, look, lookL, put, Option.bind_some, asB, asI, wipeE, backE, List.map_cons, List.map_nil, List.length_cons, List.length_nil, List.replicate, List.cons_append, List.nil_append, List.set_cons_zero, List.set_cons_succ, Nat.reduceAdd, Nat.reduceSub, add_ii, sub_ii, neg_i, lt_ii, le_ii, gt_ii, ge_ii, eq_ii, ne_ii, eq_bb, ne_bb, int_i, int_b, abs_i, len_l, len_f, len_t, list_l, list_t, tuple_l, tuple_t, not_b, truth_b, truth_i, ix_l, ix_f, ix_t, cut_l, min_ii, max_ii, gN, gT, gTs, at_0, at_1, at_2, at_3, decide_eq_true_eq, Bool.not_true, Bool.not_false, Bool.false_eq_true, Int.reduceEq, Int.reduceNeg, Int.reduceLT, Int.reduceLE, Int.reduceAdd, Int.reduceSub, D.int.injEq, D.bl.injEq, reduceCtorEq, ne_eq, not_true_eq_false, not_false_eq_true, List.getElem?_cons_succ, List.getElem?_cons_zero, Option.getD_some, Option.getD_none, ↓xp_chain, ↓nxS_nx, iter_l, iter_t, ↓xp_chain3, ↓wp_yes, ↓xp_iR3, ↓xp_iEn, ↓xp_iEn2, ↓xp_mut2, ↓xp_putD, ↓xp_dic0, lookD, kOf, enum_l, enum_s, listA_l, listA_f, listA_t, notT_b, i1, i2, e5, eq_bb, c, Bool.false_eq_true, if_false, and_self]
theorem map_of_eq {R C : Nat} (h : Sz R C) {o : List Nat} (hm : R * C ≤ 6) (ho : ∀ s < R * C, s ∈ o) : map_of_f [.int (R : Nat), .int (C : Nat), nn o] = some (mD R C (mp R C o), []) := by
  obtain ⟨h1, h2, h3, h4⟩ := h
  rw [wpF_iff]
  unfold map_of_f map_of_b
  rw [wp_run]
  let F := fun r => (List.range r).map fun r => (List.range (C - 1)).map fun c => ltr C o (r * C + c) (r * C + c + 1)
  let G := fun r => (List.range r).map fun r => (List.range C).map fun c => ltr C o (r * C + c) (r * C + c + C)
  have hbR : inB (R : Nat) = true := inb (by omega) (by omega)
  refine wp_seq_of (fun ε => ε = [some (.int (R : Nat)), some (.int (C : Nat)), some (nn o), some (.lst (sl (F 0))), none, none, none, none, none]) (by simp only [↓wp_run, startE, ↓wp_sSeq, ↓thenS_nx, ↓thenS_rt, ↓thenS_bk, ↓thenS_ct, ↓xp_sSet, ↓xp_sDo, ↓xp_sRet, ↓wp_sIf, ↓wp_sNil, ↓wp_sBrk, ↓wp_sCnt, ↓xp_sAsg, ↓xp_sPar, ↓xp_sSetIx, ↓wp_sFor, ↓xp_tB, ↓xp_tTru, ↓wp_tNot, ↓wp_tAnd, ↓wp_tOr, ↓xp_wpV, ↓wp_C, ↓xp_V, ↓wp_O, ↓xp_R, ↓xp_e1, ↓xp_e2, ↓wp_if, ↓xp_and, ↓xp_or, ↓wp_lst, ↓wp_tup, ↓wp_nil, ↓xp_cons, ↓xp_call0, ↓xp_call1, ↓wp_anil, ↓wp_av, ↓wp_aw, ↓xp_mut1, ↓xp_mut0, ↓xp_cut, ↓wpP_none, ↓xp_psome, ↓xp_iA, ↓xp_iR1, ↓xp_iR2, exO_some, ↓reduceIte, ↓xp_end_rt, ↓xp_end_nx, ↓turn_nx, ↓turn_ct, ↓turn_bk, ↓turn_rt, get_val, get_slot, gets, looks, look, lookL, put, Option.bind_some, asB, asI, wipeE, backE, List.map_cons, List.map_nil, List.length_cons, List.length_nil, List.replicate, List.cons_append, List.nil_append, List.set_cons_zero, List.set_cons_succ, Nat.reduceAdd, Nat.reduceSub, add_ii, sub_ii, neg_i, lt_ii, le_ii, gt_ii, ge_ii, eq_ii, ne_ii, eq_bb, ne_bb, int_i, int_b, abs_i, len_l, len_f, len_t, list_l, list_t, tuple_l, tuple_t, not_b, truth_b, truth_i, ix_l, ix_f, ix_t, cut_l, min_ii, max_ii, gN, gT, gTs, at_0, at_1, at_2, at_3, decide_eq_true_eq, Bool.not_true, Bool.not_false, Bool.false_eq_true, Int.reduceEq, Int.reduceNeg, Int.reduceLT, Int.reduceLE, Int.reduceAdd, Int.reduceSub, D.int.injEq, D.bl.injEq, reduceCtorEq, ne_eq, not_true_eq_false, not_false_eq_true, List.getElem?_cons_succ, List.getElem?_cons_zero, Option.getD_some, Option.getD_none, ↓xp_chain, ↓nxS_nx, iter_l, iter_t, ↓xp_chain3, ↓wp_yes, ↓xp_iR3, ↓xp_iEn, ↓xp_iEn2, ↓xp_mut2, ↓xp_putD, ↓xp_dic0, lookD, kOf, enum_l, enum_s, listA_l, listA_f, listA_t, notT_b]; rfl) ?_
  rintro ε rfl
  refine wp_seq_of (fun ε => ε = [some (.int (R : Nat)), some (.int (C : Nat)), some (nn o), some (.lst (sl (F 0))), some (.lst (sl (G 0))), none, none, none, none]) (by simp only [↓wp_run, startE, ↓wp_sSeq, ↓thenS_nx, ↓thenS_rt, ↓thenS_bk, ↓thenS_ct, ↓xp_sSet, ↓xp_sDo, ↓xp_sRet, ↓wp_sIf, ↓wp_sNil, ↓wp_sBrk, ↓wp_sCnt, ↓xp_sAsg, ↓xp_sPar, ↓xp_sSetIx, ↓wp_sFor, ↓xp_tB, ↓xp_tTru, ↓wp_tNot, ↓wp_tAnd, ↓wp_tOr, ↓xp_wpV, ↓wp_C, ↓xp_V, ↓wp_O, ↓xp_R, ↓xp_e1, ↓xp_e2, ↓wp_if, ↓xp_and, ↓xp_or, ↓wp_lst, ↓wp_tup, ↓wp_nil, ↓xp_cons, ↓xp_call0, ↓xp_call1, ↓wp_anil, ↓wp_av, ↓wp_aw, ↓xp_mut1, ↓xp_mut0, ↓xp_cut, ↓wpP_none, ↓xp_psome, ↓xp_iA, ↓xp_iR1, ↓xp_iR2, exO_some, ↓reduceIte, ↓xp_end_rt, ↓xp_end_nx, ↓turn_nx, ↓turn_ct, ↓turn_bk, ↓turn_rt, get_val, get_slot, gets, looks, look, lookL, put, Option.bind_some, asB, asI, wipeE, backE, List.map_cons, List.map_nil, List.length_cons, List.length_nil, List.replicate, List.cons_append, List.nil_append, List.set_cons_zero, List.set_cons_succ, Nat.reduceAdd, Nat.reduceSub, add_ii, sub_ii, neg_i, lt_ii, le_ii, gt_ii, ge_ii, eq_ii, ne_ii, eq_bb, ne_bb, int_i, int_b, abs_i, len_l, len_f, len_t, list_l, list_t, tuple_l, tuple_t, not_b, truth_b, truth_i, ix_l, ix_f, ix_t, cut_l, min_ii, max_ii, gN, gT, gTs, at_0, at_1, at_2, at_3, decide_eq_true_eq, Bool.not_true, Bool.not_false, Bool.false_eq_true, Int.reduceEq, Int.reduceNeg, Int.reduceLT, Int.reduceLE, Int.reduceAdd, Int.reduceSub, D.int.injEq, D.bl.injEq, reduceCtorEq, ne_eq, not_true_eq_false, not_false_eq_true, List.getElem?_cons_succ, List.getElem?_cons_zero, Option.getD_some, Option.getD_none, ↓xp_chain, ↓nxS_nx, iter_l, iter_t, ↓xp_chain3, ↓wp_yes, ↓xp_iR3, ↓xp_iEn, ↓xp_iEn2, ↓xp_mut2, ↓xp_putD, ↓xp_dic0, lookD, kOf, enum_l, enum_s, listA_l, listA_f, listA_t, notT_b]; rfl) ?_
  rintro ε rfl
  refine wp_seq_of (fun ε => ∃ z5 z6 z7 z8, ε = [some (.int (R : Nat)), some (.int (C : Nat)), some (nn o), some (.lst (sl (F R))), some (.lst (sl (G (R - 1)))), z5, z6, z7, z8]) ?_ ?_
  · simp only [↓wp_run, startE, ↓wp_sSeq, ↓thenS_nx, ↓thenS_rt, ↓thenS_bk, ↓thenS_ct, ↓xp_sSet, ↓xp_sDo, ↓xp_sRet, ↓wp_sIf, ↓wp_sNil, ↓wp_sBrk, ↓wp_sCnt, ↓xp_sAsg, ↓xp_sPar, ↓xp_sSetIx, ↓wp_sFor, ↓xp_tB, ↓xp_tTru, ↓wp_tNot, ↓wp_tAnd, ↓wp_tOr, ↓xp_wpV, ↓wp_C, ↓xp_V, ↓wp_O, ↓xp_R, ↓xp_e1, ↓xp_e2, ↓wp_if, ↓xp_and, ↓xp_or, ↓wp_lst, ↓wp_tup, ↓wp_nil, ↓xp_cons, ↓xp_call0, ↓xp_call1, ↓wp_anil, ↓wp_av, ↓wp_aw, ↓xp_mut1, ↓xp_mut0, ↓xp_cut, ↓wpP_none, ↓xp_psome, ↓xp_iA, ↓xp_iR1, ↓xp_iR2, exO_some, ↓reduceIte, ↓xp_end_rt, ↓xp_end_nx, ↓turn_nx, ↓turn_ct, ↓turn_bk, ↓turn_rt, get_val, get_slot, gets, looks, look, lookL, put, Option.bind_some, asB, asI, wipeE, backE, List.map_cons, List.map_nil, List.length_cons, List.length_nil, List.replicate, List.cons_append, List.nil_append, List.set_cons_zero, List.set_cons_succ, Nat.reduceAdd, Nat.reduceSub, add_ii, sub_ii, neg_i, lt_ii, le_ii, gt_ii, ge_ii, eq_ii, ne_ii, eq_bb, ne_bb, int_i, int_b, abs_i, len_l, len_f, len_t, list_l, list_t, tuple_l, tuple_t, not_b, truth_b, truth_i, ix_l, ix_f, ix_t, cut_l, min_ii, max_ii, gN, gT, gTs, at_0, at_1, at_2, at_3, decide_eq_true_eq, Bool.not_true, Bool.not_false, Bool.false_eq_true, Int.reduceEq, Int.reduceNeg, Int.reduceLT, Int.reduceLE, Int.reduceAdd, Int.reduceSub, D.int.injEq, D.bl.injEq, reduceCtorEq, ne_eq, not_true_eq_false, not_false_eq_true, List.getElem?_cons_succ, List.getElem?_cons_zero, Option.getD_some, Option.getD_none, ↓xp_chain, ↓nxS_nx, iter_l, iter_t, ↓xp_chain3, ↓wp_yes, ↓xp_iR3, ↓xp_iEn, ↓xp_iEn2, ↓xp_mut2, ↓xp_putD, ↓xp_dic0, lookD, kOf, enum_l, enum_s, listA_l, listA_f, listA_t, notT_b]
    refine ⟨hbR, ?_⟩
    rw [Int.toNat_natCast]
    refine wp_for (fun r ε => ∃ z5 z6 z7 z8, ε = [some (.int (R : Nat)), some (.int (C : Nat)), some (nn o), some (.lst (sl (F r))), some (.lst (sl (G (min r (R - 1))))), z5, z6, z7, z8]) ⟨_, _, _, _, by rw [Nat.zero_min]⟩ (fun r z ε hd w => ?_) (fun ε w => ?_)
    · obtain ⟨z5, z6, z7, z8, rfl⟩ := w
      obtain ⟨hr, rfl⟩ := rangeL_get hd
      rw [show (0 : Int) + (r : Nat) * 1 = (r : Nat) by omega]
      refine ⟨_, rfl, ?_⟩
      simp only [gN, VS.put, List.set_cons_succ, List.set_cons_zero]
      rw [show min r (R - 1) = r by omega]
      have hmu := mulN (r := r) (n := C) (by omega)
      have hin : ∀ r' c, r' < R → c < C → r' * C + c < R * C := fun r' c hr hc => by
        have : (r' + 1) * C ≤ R * C := Nat.mul_le_mul_right _ hr
        rw [Nat.add_mul, Nat.one_mul] at this
        omega
      have hrC : r * C ≤ 6 := Nat.le_trans (Nat.mul_le_mul_right _ (by omega)) hm
      have hrg : dRg2L (.int ((r * C : Nat) : Int)) (.int (((r * C : Nat) : Int) + ((C : Nat) : Int))) = some (.lst ((List.range C).map fun c => .int ((r * C + c : Nat) : Int))) := by
        rw [rg2_l (by omega) (by omega) (by omega)]
        refine congrArg (fun l => some (D.lst l)) ?_
        rw [show (((r * C : Nat) : Int) + ((C : Nat) : Int) - ((r * C : Nat) : Int)).toNat = C by omega]
        unfold rangeL
        refine List.map_congr_left fun i _ => ?_
        rw [show ((r * C : Nat) : Int) + (i : Nat) * 1 = ((r * C + i : Nat) : Int) by omega]
      refine wp_seq_of (fun ε => ε = [some (.int (R : Nat)), some (.int (C : Nat)), some (nn o), some (.lst (sl (F r))), some (.lst (sl (G r))), some (.int (r : Nat)), some (.int ((r * C : Nat) : Int)), z7, z8]) (by simp only [↓wp_run, startE, ↓wp_sSeq, ↓thenS_nx, ↓thenS_rt, ↓thenS_bk, ↓thenS_ct, ↓xp_sSet, ↓xp_sDo, ↓xp_sRet, ↓wp_sIf, ↓wp_sNil, ↓wp_sBrk, ↓wp_sCnt, ↓xp_sAsg, ↓xp_sPar, ↓xp_sSetIx, ↓wp_sFor, ↓xp_tB, ↓xp_tTru, ↓wp_tNot, ↓wp_tAnd, ↓wp_tOr, ↓xp_wpV, ↓wp_C, ↓xp_V, ↓wp_O, ↓xp_R, ↓xp_e1, ↓xp_e2, ↓wp_if, ↓xp_and, ↓xp_or, ↓wp_lst, ↓wp_tup, ↓wp_nil, ↓xp_cons, ↓xp_call0, ↓xp_call1, ↓wp_anil, ↓wp_av, ↓wp_aw, ↓xp_mut1, ↓xp_mut0, ↓xp_cut, ↓wpP_none, ↓xp_psome, ↓xp_iA, ↓xp_iR1, ↓xp_iR2, exO_some, ↓reduceIte, ↓xp_end_rt, ↓xp_end_nx, ↓turn_nx, ↓turn_ct, ↓turn_bk, ↓turn_rt, get_val, get_slot, gets, looks, look, lookL, put, Option.bind_some, asB, asI, wipeE, backE, List.map_cons, List.map_nil, List.length_cons, List.length_nil, List.replicate, List.cons_append, List.nil_append, List.set_cons_zero, List.set_cons_succ, Nat.reduceAdd, Nat.reduceSub, add_ii, sub_ii, neg_i, lt_ii, le_ii, gt_ii, ge_ii, eq_ii, ne_ii, eq_bb, ne_bb, int_i, int_b, abs_i, len_l, len_f, len_t, list_l, list_t, tuple_l, tuple_t, not_b, truth_b, truth_i, ix_l, ix_f, ix_t, cut_l, min_ii, max_ii, gN, gT, gTs, at_0, at_1, at_2, at_3, decide_eq_true_eq, Bool.not_true, Bool.not_false, Bool.false_eq_true, Int.reduceEq, Int.reduceNeg, Int.reduceLT, Int.reduceLE, Int.reduceAdd, Int.reduceSub, D.int.injEq, D.bl.injEq, reduceCtorEq, ne_eq, not_true_eq_false, not_false_eq_true, List.getElem?_cons_succ, List.getElem?_cons_zero, Option.getD_some, Option.getD_none, ↓xp_chain, ↓nxS_nx, iter_l, iter_t, ↓xp_chain3, ↓wp_yes, ↓xp_iR3, ↓xp_iEn, ↓xp_iEn2, ↓xp_mut2, ↓xp_putD, ↓xp_dic0, lookD, kOf, enum_l, enum_s, listA_l, listA_f, listA_t, notT_b, hmu]) ?_
      rintro ε rfl
      refine wp_seq_of (fun ε => ε = [some (.int (R : Nat)), some (.int (C : Nat)), some (nn o), some (.lst (sl (F r))), some (.lst (sl (G r))), some (.int (r : Nat)), some (.int ((r * C : Nat) : Int)), some (.lst ((List.range C).map fun c => .int ((r * C + c : Nat) : Int))), z8]) (by simp only [↓wp_run, startE, ↓wp_sSeq, ↓thenS_nx, ↓thenS_rt, ↓thenS_bk, ↓thenS_ct, ↓xp_sSet, ↓xp_sDo, ↓xp_sRet, ↓wp_sIf, ↓wp_sNil, ↓wp_sBrk, ↓wp_sCnt, ↓xp_sAsg, ↓xp_sPar, ↓xp_sSetIx, ↓wp_sFor, ↓xp_tB, ↓xp_tTru, ↓wp_tNot, ↓wp_tAnd, ↓wp_tOr, ↓xp_wpV, ↓wp_C, ↓xp_V, ↓wp_O, ↓xp_R, ↓xp_e1, ↓xp_e2, ↓wp_if, ↓xp_and, ↓xp_or, ↓wp_lst, ↓wp_tup, ↓wp_nil, ↓xp_cons, ↓xp_call0, ↓xp_call1, ↓wp_anil, ↓wp_av, ↓wp_aw, ↓xp_mut1, ↓xp_mut0, ↓xp_cut, ↓wpP_none, ↓xp_psome, ↓xp_iA, ↓xp_iR1, ↓xp_iR2, exO_some, ↓reduceIte, ↓xp_end_rt, ↓xp_end_nx, ↓turn_nx, ↓turn_ct, ↓turn_bk, ↓turn_rt, get_val, get_slot, gets, looks, look, lookL, put, Option.bind_some, asB, asI, wipeE, backE, List.map_cons, List.map_nil, List.length_cons, List.length_nil, List.replicate, List.cons_append, List.nil_append, List.set_cons_zero, List.set_cons_succ, Nat.reduceAdd, Nat.reduceSub, add_ii, sub_ii, neg_i, lt_ii, le_ii, gt_ii, ge_ii, eq_ii, ne_ii, eq_bb, ne_bb, int_i, int_b, abs_i, len_l, len_f, len_t, list_l, list_t, tuple_l, tuple_t, not_b, truth_b, truth_i, ix_l, ix_f, ix_t, cut_l, min_ii, max_ii, gN, gT, gTs, at_0, at_1, at_2, at_3, decide_eq_true_eq, Bool.not_true, Bool.not_false, Bool.false_eq_true, Int.reduceEq, Int.reduceNeg, Int.reduceLT, Int.reduceLE, Int.reduceAdd, Int.reduceSub, D.int.injEq, D.bl.injEq, reduceCtorEq, ne_eq, not_true_eq_false, not_false_eq_true, List.getElem?_cons_succ, List.getElem?_cons_zero, Option.getD_some, Option.getD_none, ↓xp_chain, ↓nxS_nx, iter_l, iter_t, ↓xp_chain3, ↓wp_yes, ↓xp_iR3, ↓xp_iEn, ↓xp_iEn2, ↓xp_mut2, ↓xp_putD, ↓xp_dic0, lookD, kOf, enum_l, enum_s, listA_l, listA_f, listA_t, notT_b, hrg]) ?_
      rintro ε rfl
      have hcut : dCut none (some (-1)) (.lst ((List.range C).map fun c => D.int ((r * C + c : Nat) : Int))) = some (.lst ((List.range (C - 1)).map fun c => D.int ((r * C + c : Nat) : Int))) := by
        show some (D.lst (cutL _ none (some (-1)))) = _
        refine congrArg (fun l => some (D.lst l)) ?_
        simp only [cutL, HT.sIx, List.length_map, List.length_range, List.drop_zero]
        rw [← List.map_take, List.take_range]
        have : ∀ q, q = C - 1 → (List.range q).map (fun c => D.int ((r * C + c : Nat) : Int)) = (List.range (C - 1)).map fun c => D.int ((r * C + c : Nat) : Int) := fun q hq => by rw [hq]
        refine this _ ?_
        simp; omega
      have hF : F (r + 1) = F r ++ [(List.range (C - 1)).map fun c => ltr C o (r * C + c) (r * C + c + 1)] := by simp only [F]; rw [List.range_succ, List.map_append]; rfl
      have hG : G (r + 1) = G r ++ [(List.range C).map fun c => ltr C o (r * C + c) (r * C + c + C)] := by simp only [G]; rw [List.range_succ, List.map_append]; rfl
      have hFl : (F r).length ≤ 10 := by simp only [F]; rw [List.length_map, List.length_range]; omega
      have hGl : (G r).length ≤ 10 := by simp only [G]; rw [List.length_map, List.length_range]; omega
      have happ : ∀ (X : List (List Nat)) (w : List Nat), X.length ≤ 10 → fApp (sl X) (.str w) = some (sl (X ++ [w]), .non) := fun X w hX => by
        rw [app_ok (by rw [sl_len]; omega)]; simp [sl]
      have hneg : dNeg (.int 1) = some (.int (-1)) := rfl
      refine wp_seq_of (fun ε => ∃ z8, ε = [some (.int (R : Nat)), some (.int (C : Nat)), some (nn o), some (.lst (sl (F (r + 1)))), some (.lst (sl (G r))), some (.int (r : Nat)), some (.int ((r * C : Nat) : Int)), some (.lst ((List.range C).map fun c => .int ((r * C + c : Nat) : Int))), z8]) ?_ ?_
      · simp only [↓wp_run, startE, ↓wp_sSeq, ↓thenS_nx, ↓thenS_rt, ↓thenS_bk, ↓thenS_ct, ↓xp_sSet, ↓xp_sDo, ↓xp_sRet, ↓wp_sIf, ↓wp_sNil, ↓wp_sBrk, ↓wp_sCnt, ↓xp_sAsg, ↓xp_sPar, ↓xp_sSetIx, ↓wp_sFor, ↓xp_tB, ↓xp_tTru, ↓wp_tNot, ↓wp_tAnd, ↓wp_tOr, ↓xp_wpV, ↓wp_C, ↓xp_V, ↓wp_O, ↓xp_R, ↓xp_e1, ↓xp_e2, ↓wp_if, ↓xp_and, ↓xp_or, ↓wp_lst, ↓wp_tup, ↓wp_nil, ↓xp_cons, ↓xp_call0, ↓xp_call1, ↓wp_anil, ↓wp_av, ↓wp_aw, ↓xp_mut1, ↓xp_mut0, ↓xp_cut, ↓wpP_none, ↓xp_psome, ↓xp_iA, ↓xp_iR1, ↓xp_iR2, exO_some, ↓reduceIte, ↓xp_end_rt, ↓xp_end_nx, ↓turn_nx, ↓turn_ct, ↓turn_bk, ↓turn_rt, get_val, get_slot, gets, looks, look, lookL, put, Option.bind_some, asB, asI, wipeE, backE, List.map_cons, List.map_nil, List.length_cons, List.length_nil, List.replicate, List.cons_append, List.nil_append, List.set_cons_zero, List.set_cons_succ, Nat.reduceAdd, Nat.reduceSub, add_ii, sub_ii, neg_i, lt_ii, le_ii, gt_ii, ge_ii, eq_ii, ne_ii, eq_bb, ne_bb, int_i, int_b, abs_i, len_l, len_f, len_t, list_l, list_t, tuple_l, tuple_t, not_b, truth_b, truth_i, ix_l, ix_f, ix_t, cut_l, min_ii, max_ii, gN, gT, gTs, at_0, at_1, at_2, at_3, decide_eq_true_eq, Bool.not_true, Bool.not_false, Bool.false_eq_true, Int.reduceEq, Int.reduceNeg, Int.reduceLT, Int.reduceLE, Int.reduceAdd, Int.reduceSub, D.int.injEq, D.bl.injEq, reduceCtorEq, ne_eq, not_true_eq_false, not_false_eq_true, List.getElem?_cons_succ, List.getElem?_cons_zero, Option.getD_some, Option.getD_none, ↓xp_chain, ↓nxS_nx, iter_l, iter_t, ↓xp_chain3, ↓wp_yes, ↓xp_iR3, ↓xp_iEn, ↓xp_iEn2, ↓xp_mut2, ↓xp_putD, ↓xp_dic0, lookD, kOf, enum_l, enum_s, listA_l, listA_f, listA_t, notT_b, hneg, hcut]
        refine wp_comp_map (List.range (C - 1)) (fun c => .int ((r * C + c : Nat) : Int)) (fun c => .str [ltr C o (r * C + c) (r * C + c + 1)]) ?_
        simp only [↓wp_run, startE, ↓wp_sSeq, ↓thenS_nx, ↓thenS_rt, ↓thenS_bk, ↓thenS_ct, ↓xp_sSet, ↓xp_sDo, ↓xp_sRet, ↓wp_sIf, ↓wp_sNil, ↓wp_sBrk, ↓wp_sCnt, ↓xp_sAsg, ↓xp_sPar, ↓xp_sSetIx, ↓wp_sFor, ↓xp_tB, ↓xp_tTru, ↓wp_tNot, ↓wp_tAnd, ↓wp_tOr, ↓xp_wpV, ↓wp_C, ↓xp_V, ↓wp_O, ↓xp_R, ↓xp_e1, ↓xp_e2, ↓wp_if, ↓xp_and, ↓xp_or, ↓wp_lst, ↓wp_tup, ↓wp_nil, ↓xp_cons, ↓xp_call0, ↓xp_call1, ↓wp_anil, ↓wp_av, ↓wp_aw, ↓xp_mut1, ↓xp_mut0, ↓xp_cut, ↓wpP_none, ↓xp_psome, ↓xp_iA, ↓xp_iR1, ↓xp_iR2, exO_some, ↓reduceIte, ↓xp_end_rt, ↓xp_end_nx, ↓turn_nx, ↓turn_ct, ↓turn_bk, ↓turn_rt, get_val, get_slot, gets, looks, look, lookL, put, Option.bind_some, asB, asI, wipeE, backE, List.map_cons, List.map_nil, List.length_cons, List.length_nil, List.replicate, List.cons_append, List.nil_append, List.set_cons_zero, List.set_cons_succ, Nat.reduceAdd, Nat.reduceSub, add_ii, sub_ii, neg_i, lt_ii, le_ii, gt_ii, ge_ii, eq_ii, ne_ii, eq_bb, ne_bb, int_i, int_b, abs_i, len_l, len_f, len_t, list_l, list_t, tuple_l, tuple_t, not_b, truth_b, truth_i, ix_l, ix_f, ix_t, cut_l, min_ii, max_ii, gN, gT, gTs, at_0, at_1, at_2, at_3, decide_eq_true_eq, Bool.not_true, Bool.not_false, Bool.false_eq_true, Int.reduceEq, Int.reduceNeg, Int.reduceLT, Int.reduceLE, Int.reduceAdd, Int.reduceSub, D.int.injEq, D.bl.injEq, reduceCtorEq, ne_eq, not_true_eq_false, not_false_eq_true, List.getElem?_cons_succ, List.getElem?_cons_zero, Option.getD_some, Option.getD_none, ↓xp_chain, ↓nxS_nx, iter_l, iter_t, ↓xp_chain3, ↓wp_yes, ↓xp_iR3, ↓xp_iEn, ↓xp_iEn2, ↓xp_mut2, ↓xp_putD, ↓xp_dic0, lookD, kOf, enum_l, enum_s, listA_l, listA_f, listA_t, notT_b, hneg, hcut]
        refine ⟨by first | rfl | trivial, by rw [List.length_range]; omega, fun c hc => ⟨_, rfl, ?_⟩, ?_⟩
        · have hc := List.mem_range.mp hc
          have i1 := hin r c hr (by omega)
          have i2 := hin r (c + 1) hr (by omega)
          have hle := letter_eq h2 h4 (ho (r * C + c) i1) (ho (r * C + c + 1) (by omega))
          rw [show ((r * C + c + 1 : Nat) : Int) = ((r * C + c : Nat) : Int) + 1 by omega] at hle
          simp only [↓wp_run, startE, ↓wp_sSeq, ↓thenS_nx, ↓thenS_rt, ↓thenS_bk, ↓thenS_ct, ↓xp_sSet, ↓xp_sDo, ↓xp_sRet, ↓wp_sIf, ↓wp_sNil, ↓wp_sBrk, ↓wp_sCnt, ↓xp_sAsg, ↓xp_sPar, ↓xp_sSetIx, ↓wp_sFor, ↓xp_tB, ↓xp_tTru, ↓wp_tNot, ↓wp_tAnd, ↓wp_tOr, ↓xp_wpV, ↓wp_C, ↓xp_V, ↓wp_O, ↓xp_R, ↓xp_e1, ↓xp_e2, ↓wp_if, ↓xp_and, ↓xp_or, ↓wp_lst, ↓wp_tup, ↓wp_nil, ↓xp_cons, ↓xp_call0, ↓xp_call1, ↓wp_anil, ↓wp_av, ↓wp_aw, ↓xp_mut1, ↓xp_mut0, ↓xp_cut, ↓wpP_none, ↓xp_psome, ↓xp_iA, ↓xp_iR1, ↓xp_iR2, exO_some, ↓reduceIte, ↓xp_end_rt, ↓xp_end_nx, ↓turn_nx, ↓turn_ct, ↓turn_bk, ↓turn_rt, get_val, get_slot, gets, looks, look, lookL, put, Option.bind_some, asB, asI, wipeE, backE, List.map_cons, List.map_nil, List.length_cons, List.length_nil, List.replicate, List.cons_append, List.nil_append, List.set_cons_zero, List.set_cons_succ, Nat.reduceAdd, Nat.reduceSub, add_ii, sub_ii, neg_i, lt_ii, le_ii, gt_ii, ge_ii, eq_ii, ne_ii, eq_bb, ne_bb, int_i, int_b, abs_i, len_l, len_f, len_t, list_l, list_t, tuple_l, tuple_t, not_b, truth_b, truth_i, ix_l, ix_f, ix_t, cut_l, min_ii, max_ii, gN, gT, gTs, at_0, at_1, at_2, at_3, decide_eq_true_eq, Bool.not_true, Bool.not_false, Bool.false_eq_true, Int.reduceEq, Int.reduceNeg, Int.reduceLT, Int.reduceLE, Int.reduceAdd, Int.reduceSub, D.int.injEq, D.bl.injEq, reduceCtorEq, ne_eq, not_true_eq_false, not_false_eq_true, List.getElem?_cons_succ, List.getElem?_cons_zero, Option.getD_some, Option.getD_none, ↓xp_chain, ↓nxS_nx, iter_l, iter_t, ↓xp_chain3, ↓wp_yes, ↓xp_iR3, ↓xp_iEn, ↓xp_iEn2, ↓xp_mut2, ↓xp_putD, ↓xp_dic0, lookD, kOf, enum_l, enum_s, listA_l, listA_f, listA_t, notT_b, wpF_eq hle, and_self]
        · have hjn := join_1 (l := (List.range (C - 1)).map fun c => ltr C o (r * C + c) (r * C + c + 1)) (by rw [List.length_map, List.length_range]; omega)
          rw [List.map_map] at hjn
          have hjn : dJoin (.lst ((List.range (C - 1)).map fun c => D.str [ltr C o (r * C + c) (r * C + c + 1)])) = some (.str ((List.range (C - 1)).map fun c => ltr C o (r * C + c) (r * C + c + 1))) := hjn
          have hap := happ (F r) ((List.range (C - 1)).map fun c => ltr C o (r * C + c) (r * C + c + 1)) hFl
          rw [← hF] at hap
          simp only [↓wp_run, startE, ↓wp_sSeq, ↓thenS_nx, ↓thenS_rt, ↓thenS_bk, ↓thenS_ct, ↓xp_sSet, ↓xp_sDo, ↓xp_sRet, ↓wp_sIf, ↓wp_sNil, ↓wp_sBrk, ↓wp_sCnt, ↓xp_sAsg, ↓xp_sPar, ↓xp_sSetIx, ↓wp_sFor, ↓xp_tB, ↓xp_tTru, ↓wp_tNot, ↓wp_tAnd, ↓wp_tOr, ↓xp_wpV, ↓wp_C, ↓xp_V, ↓wp_O, ↓xp_R, ↓xp_e1, ↓xp_e2, ↓wp_if, ↓xp_and, ↓xp_or, ↓wp_lst, ↓wp_tup, ↓wp_nil, ↓xp_cons, ↓xp_call0, ↓xp_call1, ↓wp_anil, ↓wp_av, ↓wp_aw, ↓xp_mut1, ↓xp_mut0, ↓xp_cut, ↓wpP_none, ↓xp_psome, ↓xp_iA, ↓xp_iR1, ↓xp_iR2, exO_some, ↓reduceIte, ↓xp_end_rt, ↓xp_end_nx, ↓turn_nx, ↓turn_ct, ↓turn_bk, ↓turn_rt, get_val, get_slot, gets, looks, look, lookL, put, Option.bind_some, asB, asI, wipeE, backE, List.map_cons, List.map_nil, List.length_cons, List.length_nil, List.replicate, List.cons_append, List.nil_append, List.set_cons_zero, List.set_cons_succ, Nat.reduceAdd, Nat.reduceSub, add_ii, sub_ii, neg_i, lt_ii, le_ii, gt_ii, ge_ii, eq_ii, ne_ii, eq_bb, ne_bb, int_i, int_b, abs_i, len_l, len_f, len_t, list_l, list_t, tuple_l, tuple_t, not_b, truth_b, truth_i, ix_l, ix_f, ix_t, cut_l, min_ii, max_ii, gN, gT, gTs, at_0, at_1, at_2, at_3, decide_eq_true_eq, Bool.not_true, Bool.not_false, Bool.false_eq_true, Int.reduceEq, Int.reduceNeg, Int.reduceLT, Int.reduceLE, Int.reduceAdd, Int.reduceSub, D.int.injEq, D.bl.injEq, reduceCtorEq, ne_eq, not_true_eq_false, not_false_eq_true, List.getElem?_cons_succ, List.getElem?_cons_zero, Option.getD_some, Option.getD_none, ↓xp_chain, ↓nxS_nx, iter_l, iter_t, ↓xp_chain3, ↓wp_yes, ↓xp_iR3, ↓xp_iEn, ↓xp_iEn2, ↓xp_mut2, ↓xp_putD, ↓xp_dic0, lookD, kOf, enum_l, enum_s, listA_l, listA_f, listA_t, notT_b, hjn, hap]
          exact ⟨_, rfl⟩
      rintro ε ⟨z8, rfl⟩
      by_cases q : r + 1 < R
      · have q' : ((r : Nat) : Int) + 1 < ((R : Nat) : Int) := by omega
        simp only [↓wp_run, startE, ↓wp_sSeq, ↓thenS_nx, ↓thenS_rt, ↓thenS_bk, ↓thenS_ct, ↓xp_sSet, ↓xp_sDo, ↓xp_sRet, ↓wp_sIf, ↓wp_sNil, ↓wp_sBrk, ↓wp_sCnt, ↓xp_sAsg, ↓xp_sPar, ↓xp_sSetIx, ↓wp_sFor, ↓xp_tB, ↓xp_tTru, ↓wp_tNot, ↓wp_tAnd, ↓wp_tOr, ↓xp_wpV, ↓wp_C, ↓xp_V, ↓wp_O, ↓xp_R, ↓xp_e1, ↓xp_e2, ↓wp_if, ↓xp_and, ↓xp_or, ↓wp_lst, ↓wp_tup, ↓wp_nil, ↓xp_cons, ↓xp_call0, ↓xp_call1, ↓wp_anil, ↓wp_av, ↓wp_aw, ↓xp_mut1, ↓xp_mut0, ↓xp_cut, ↓wpP_none, ↓xp_psome, ↓xp_iA, ↓xp_iR1, ↓xp_iR2, exO_some, ↓reduceIte, ↓xp_end_rt, ↓xp_end_nx, ↓turn_nx, ↓turn_ct, ↓turn_bk, ↓turn_rt, get_val, get_slot, gets, looks, look, lookL, put, Option.bind_some, asB, asI, wipeE, backE, List.map_cons, List.map_nil, List.length_cons, List.length_nil, List.replicate, List.cons_append, List.nil_append, List.set_cons_zero, List.set_cons_succ, Nat.reduceAdd, Nat.reduceSub, add_ii, sub_ii, neg_i, lt_ii, le_ii, gt_ii, ge_ii, eq_ii, ne_ii, eq_bb, ne_bb, int_i, int_b, abs_i, len_l, len_f, len_t, list_l, list_t, tuple_l, tuple_t, not_b, truth_b, truth_i, ix_l, ix_f, ix_t, cut_l, min_ii, max_ii, gN, gT, gTs, at_0, at_1, at_2, at_3, decide_eq_true_eq, Bool.not_true, Bool.not_false, Bool.false_eq_true, Int.reduceEq, Int.reduceNeg, Int.reduceLT, Int.reduceLE, Int.reduceAdd, Int.reduceSub, D.int.injEq, D.bl.injEq, reduceCtorEq, ne_eq, not_true_eq_false, not_false_eq_true, List.getElem?_cons_succ, List.getElem?_cons_zero, Option.getD_some, Option.getD_none, ↓xp_chain, ↓nxS_nx, iter_l, iter_t, ↓xp_chain3, ↓wp_yes, ↓xp_iR3, ↓xp_iEn, ↓xp_iEn2, ↓xp_mut2, ↓xp_putD, ↓xp_dic0, lookD, kOf, enum_l, enum_s, listA_l, listA_f, listA_t, notT_b, q', decide_true, if_true]
        refine wp_comp_map (List.range C) (fun c => .int ((r * C + c : Nat) : Int)) (fun c => .str [ltr C o (r * C + c) (r * C + c + C)]) ?_
        simp only [↓wp_run, startE, ↓wp_sSeq, ↓thenS_nx, ↓thenS_rt, ↓thenS_bk, ↓thenS_ct, ↓xp_sSet, ↓xp_sDo, ↓xp_sRet, ↓wp_sIf, ↓wp_sNil, ↓wp_sBrk, ↓wp_sCnt, ↓xp_sAsg, ↓xp_sPar, ↓xp_sSetIx, ↓wp_sFor, ↓xp_tB, ↓xp_tTru, ↓wp_tNot, ↓wp_tAnd, ↓wp_tOr, ↓xp_wpV, ↓wp_C, ↓xp_V, ↓wp_O, ↓xp_R, ↓xp_e1, ↓xp_e2, ↓wp_if, ↓xp_and, ↓xp_or, ↓wp_lst, ↓wp_tup, ↓wp_nil, ↓xp_cons, ↓xp_call0, ↓xp_call1, ↓wp_anil, ↓wp_av, ↓wp_aw, ↓xp_mut1, ↓xp_mut0, ↓xp_cut, ↓wpP_none, ↓xp_psome, ↓xp_iA, ↓xp_iR1, ↓xp_iR2, exO_some, ↓reduceIte, ↓xp_end_rt, ↓xp_end_nx, ↓turn_nx, ↓turn_ct, ↓turn_bk, ↓turn_rt, get_val, get_slot, gets, looks, look, lookL, put, Option.bind_some, asB, asI, wipeE, backE, List.map_cons, List.map_nil, List.length_cons, List.length_nil, List.replicate, List.cons_append, List.nil_append, List.set_cons_zero, List.set_cons_succ, Nat.reduceAdd, Nat.reduceSub, add_ii, sub_ii, neg_i, lt_ii, le_ii, gt_ii, ge_ii, eq_ii, ne_ii, eq_bb, ne_bb, int_i, int_b, abs_i, len_l, len_f, len_t, list_l, list_t, tuple_l, tuple_t, not_b, truth_b, truth_i, ix_l, ix_f, ix_t, cut_l, min_ii, max_ii, gN, gT, gTs, at_0, at_1, at_2, at_3, decide_eq_true_eq, Bool.not_true, Bool.not_false, Bool.false_eq_true, Int.reduceEq, Int.reduceNeg, Int.reduceLT, Int.reduceLE, Int.reduceAdd, Int.reduceSub, D.int.injEq, D.bl.injEq, reduceCtorEq, ne_eq, not_true_eq_false, not_false_eq_true, List.getElem?_cons_succ, List.getElem?_cons_zero, Option.getD_some, Option.getD_none, ↓xp_chain, ↓nxS_nx, iter_l, iter_t, ↓xp_chain3, ↓wp_yes, ↓xp_iR3, ↓xp_iEn, ↓xp_iEn2, ↓xp_mut2, ↓xp_putD, ↓xp_dic0, lookD, kOf, enum_l, enum_s, listA_l, listA_f, listA_t, notT_b]
        refine ⟨by first | rfl | trivial, by rw [List.length_range]; omega, fun c hc => ⟨_, rfl, ?_⟩, ?_⟩
        · have hc := List.mem_range.mp hc
          have i1 := hin r c hr (by omega)
          have i2 := hin (r + 1) c (by omega) (by omega)
          rw [Nat.add_mul, Nat.one_mul] at i2
          have hle := letter_eq h2 h4 (ho (r * C + c) i1) (ho (r * C + c + C) (by omega))
          rw [show ((r * C + c + C : Nat) : Int) = ((r * C + c : Nat) : Int) + ((C : Nat) : Int) by omega] at hle
          simp only [↓wp_run, startE, ↓wp_sSeq, ↓thenS_nx, ↓thenS_rt, ↓thenS_bk, ↓thenS_ct, ↓xp_sSet, ↓xp_sDo, ↓xp_sRet, ↓wp_sIf, ↓wp_sNil, ↓wp_sBrk, ↓wp_sCnt, ↓xp_sAsg, ↓xp_sPar, ↓xp_sSetIx, ↓wp_sFor, ↓xp_tB, ↓xp_tTru, ↓wp_tNot, ↓wp_tAnd, ↓wp_tOr, ↓xp_wpV, ↓wp_C, ↓xp_V, ↓wp_O, ↓xp_R, ↓xp_e1, ↓xp_e2, ↓wp_if, ↓xp_and, ↓xp_or, ↓wp_lst, ↓wp_tup, ↓wp_nil, ↓xp_cons, ↓xp_call0, ↓xp_call1, ↓wp_anil, ↓wp_av, ↓wp_aw, ↓xp_mut1, ↓xp_mut0, ↓xp_cut, ↓wpP_none, ↓xp_psome, ↓xp_iA, ↓xp_iR1, ↓xp_iR2, exO_some, ↓reduceIte, ↓xp_end_rt, ↓xp_end_nx, ↓turn_nx, ↓turn_ct, ↓turn_bk, ↓turn_rt, get_val, get_slot, gets, looks, look, lookL, put, Option.bind_some, asB, asI, wipeE, backE, List.map_cons, List.map_nil, List.length_cons, List.length_nil, List.replicate, List.cons_append, List.nil_append, List.set_cons_zero, List.set_cons_succ, Nat.reduceAdd, Nat.reduceSub, add_ii, sub_ii, neg_i, lt_ii, le_ii, gt_ii, ge_ii, eq_ii, ne_ii, eq_bb, ne_bb, int_i, int_b, abs_i, len_l, len_f, len_t, list_l, list_t, tuple_l, tuple_t, not_b, truth_b, truth_i, ix_l, ix_f, ix_t, cut_l, min_ii, max_ii, gN, gT, gTs, at_0, at_1, at_2, at_3, decide_eq_true_eq, Bool.not_true, Bool.not_false, Bool.false_eq_true, Int.reduceEq, Int.reduceNeg, Int.reduceLT, Int.reduceLE, Int.reduceAdd, Int.reduceSub, D.int.injEq, D.bl.injEq, reduceCtorEq, ne_eq, not_true_eq_false, not_false_eq_true, List.getElem?_cons_succ, List.getElem?_cons_zero, Option.getD_some, Option.getD_none, ↓xp_chain, ↓nxS_nx, iter_l, iter_t, ↓xp_chain3, ↓wp_yes, ↓xp_iR3, ↓xp_iEn, ↓xp_iEn2, ↓xp_mut2, ↓xp_putD, ↓xp_dic0, lookD, kOf, enum_l, enum_s, listA_l, listA_f, listA_t, notT_b, wpF_eq hle, and_self]
        · have hjn := join_1 (l := (List.range C).map fun c => ltr C o (r * C + c) (r * C + c + C)) (by rw [List.length_map, List.length_range]; omega)
          rw [List.map_map] at hjn
          have hjn : dJoin (.lst ((List.range C).map fun c => D.str [ltr C o (r * C + c) (r * C + c + C)])) = some (.str ((List.range C).map fun c => ltr C o (r * C + c) (r * C + c + C))) := hjn
          have hap := happ (G r) ((List.range C).map fun c => ltr C o (r * C + c) (r * C + c + C)) hGl
          rw [← hG] at hap
          simp only [↓wp_run, startE, ↓wp_sSeq, ↓thenS_nx, ↓thenS_rt, ↓thenS_bk, ↓thenS_ct, ↓xp_sSet, ↓xp_sDo, ↓xp_sRet, ↓wp_sIf, ↓wp_sNil, ↓wp_sBrk, ↓wp_sCnt, ↓xp_sAsg, ↓xp_sPar, ↓xp_sSetIx, ↓wp_sFor, ↓xp_tB, ↓xp_tTru, ↓wp_tNot, ↓wp_tAnd, ↓wp_tOr, ↓xp_wpV, ↓wp_C, ↓xp_V, ↓wp_O, ↓xp_R, ↓xp_e1, ↓xp_e2, ↓wp_if, ↓xp_and, ↓xp_or, ↓wp_lst, ↓wp_tup, ↓wp_nil, ↓xp_cons, ↓xp_call0, ↓xp_call1, ↓wp_anil, ↓wp_av, ↓wp_aw, ↓xp_mut1, ↓xp_mut0, ↓xp_cut, ↓wpP_none, ↓xp_psome, ↓xp_iA, ↓xp_iR1, ↓xp_iR2, exO_some, ↓reduceIte, ↓xp_end_rt, ↓xp_end_nx, ↓turn_nx, ↓turn_ct, ↓turn_bk, ↓turn_rt, get_val, get_slot, gets, looks, look, lookL, put, Option.bind_some, asB, asI, wipeE, backE, List.map_cons, List.map_nil, List.length_cons, List.length_nil, List.replicate, List.cons_append, List.nil_append, List.set_cons_zero, List.set_cons_succ, Nat.reduceAdd, Nat.reduceSub, add_ii, sub_ii, neg_i, lt_ii, le_ii, gt_ii, ge_ii, eq_ii, ne_ii, eq_bb, ne_bb, int_i, int_b, abs_i, len_l, len_f, len_t, list_l, list_t, tuple_l, tuple_t, not_b, truth_b, truth_i, ix_l, ix_f, ix_t, cut_l, min_ii, max_ii, gN, gT, gTs, at_0, at_1, at_2, at_3, decide_eq_true_eq, Bool.not_true, Bool.not_false, Bool.false_eq_true, Int.reduceEq, Int.reduceNeg, Int.reduceLT, Int.reduceLE, Int.reduceAdd, Int.reduceSub, D.int.injEq, D.bl.injEq, reduceCtorEq, ne_eq, not_true_eq_false, not_false_eq_true, List.getElem?_cons_succ, List.getElem?_cons_zero, Option.getD_some, Option.getD_none, ↓xp_chain, ↓nxS_nx, iter_l, iter_t, ↓xp_chain3, ↓wp_yes, ↓xp_iR3, ↓xp_iEn, ↓xp_iEn2, ↓xp_mut2, ↓xp_putD, ↓xp_dic0, lookD, kOf, enum_l, enum_s, listA_l, listA_f, listA_t, notT_b, hjn, hap]
          rw [show min (r + 1) (R - 1) = r + 1 by omega]
          exact ⟨_, _, _, _, rfl⟩
      · have q' : ¬ ((r : Nat) : Int) + 1 < ((R : Nat) : Int) := by omega
        simp only [↓wp_run, startE, ↓wp_sSeq, ↓thenS_nx, ↓thenS_rt, ↓thenS_bk, ↓thenS_ct, ↓xp_sSet, ↓xp_sDo, ↓xp_sRet, ↓wp_sIf, ↓wp_sNil, ↓wp_sBrk, ↓wp_sCnt, ↓xp_sAsg, ↓xp_sPar, ↓xp_sSetIx, ↓wp_sFor, ↓xp_tB, ↓xp_tTru, ↓wp_tNot, ↓wp_tAnd, ↓wp_tOr, ↓xp_wpV, ↓wp_C, ↓xp_V, ↓wp_O, ↓xp_R, ↓xp_e1, ↓xp_e2, ↓wp_if, ↓xp_and, ↓xp_or, ↓wp_lst, ↓wp_tup, ↓wp_nil, ↓xp_cons, ↓xp_call0, ↓xp_call1, ↓wp_anil, ↓wp_av, ↓wp_aw, ↓xp_mut1, ↓xp_mut0, ↓xp_cut, ↓wpP_none, ↓xp_psome, ↓xp_iA, ↓xp_iR1, ↓xp_iR2, exO_some, ↓reduceIte, ↓xp_end_rt, ↓xp_end_nx, ↓turn_nx, ↓turn_ct, ↓turn_bk, ↓turn_rt, get_val, get_slot, gets, looks, look, lookL, put, Option.bind_some, asB, asI, wipeE, backE, List.map_cons, List.map_nil, List.length_cons, List.length_nil, List.replicate, List.cons_append, List.nil_append, List.set_cons_zero, List.set_cons_succ, Nat.reduceAdd, Nat.reduceSub, add_ii, sub_ii, neg_i, lt_ii, le_ii, gt_ii, ge_ii, eq_ii, ne_ii, eq_bb, ne_bb, int_i, int_b, abs_i, len_l, len_f, len_t, list_l, list_t, tuple_l, tuple_t, not_b, truth_b, truth_i, ix_l, ix_f, ix_t, cut_l, min_ii, max_ii, gN, gT, gTs, at_0, at_1, at_2, at_3, decide_eq_true_eq, Bool.not_true, Bool.not_false, Bool.false_eq_true, Int.reduceEq, Int.reduceNeg, Int.reduceLT, Int.reduceLE, Int.reduceAdd, Int.reduceSub, D.int.injEq, D.bl.injEq, reduceCtorEq, ne_eq, not_true_eq_false, not_false_eq_true, List.getElem?_cons_succ, List.getElem?_cons_zero, Option.getD_some, Option.getD_none, ↓xp_chain, ↓nxS_nx, iter_l, iter_t, ↓xp_chain3, ↓wp_yes, ↓xp_iR3, ↓xp_iEn, ↓xp_iEn2, ↓xp_mut2, ↓xp_putD, ↓xp_dic0, lookD, kOf, enum_l, enum_s, listA_l, listA_f, listA_t, notT_b, q', decide_false, Bool.false_eq_true, if_false]
        rw [show min (r + 1) (R - 1) = r by omega]
        exact ⟨_, _, _, _, rfl⟩
    · obtain ⟨z5, z6, z7, z8, rfl⟩ := w
      rw [rangeL_len, show min R (R - 1) = R - 1 by omega]
      exact ⟨_, _, _, _, rfl⟩
  rintro ε ⟨z5, z6, z7, z8, rfl⟩
  simp only [↓wp_run, startE, ↓wp_sSeq, ↓thenS_nx, ↓thenS_rt, ↓thenS_bk, ↓thenS_ct, ↓xp_sSet, ↓xp_sDo, ↓xp_sRet, ↓wp_sIf, ↓wp_sNil, ↓wp_sBrk, ↓wp_sCnt, ↓xp_sAsg, ↓xp_sPar, ↓xp_sSetIx, ↓wp_sFor, ↓xp_tB, ↓xp_tTru, ↓wp_tNot, ↓wp_tAnd, ↓wp_tOr, ↓xp_wpV, ↓wp_C, ↓xp_V, ↓wp_O, ↓xp_R, ↓xp_e1, ↓xp_e2, ↓wp_if, ↓xp_and, ↓xp_or, ↓wp_lst, ↓wp_tup, ↓wp_nil, ↓xp_cons, ↓xp_call0, ↓xp_call1, ↓wp_anil, ↓wp_av, ↓wp_aw, ↓xp_mut1, ↓xp_mut0, ↓xp_cut, ↓wpP_none, ↓xp_psome, ↓xp_iA, ↓xp_iR1, ↓xp_iR2, exO_some, ↓reduceIte, ↓xp_end_rt, ↓xp_end_nx, ↓turn_nx, ↓turn_ct, ↓turn_bk, ↓turn_rt, get_val, get_slot, gets, looks, look, lookL, put, Option.bind_some, asB, asI, wipeE, backE, List.map_cons, List.map_nil, List.length_cons, List.length_nil, List.replicate, List.cons_append, List.nil_append, List.set_cons_zero, List.set_cons_succ, Nat.reduceAdd, Nat.reduceSub, add_ii, sub_ii, neg_i, lt_ii, le_ii, gt_ii, ge_ii, eq_ii, ne_ii, eq_bb, ne_bb, int_i, int_b, abs_i, len_l, len_f, len_t, list_l, list_t, tuple_l, tuple_t, not_b, truth_b, truth_i, ix_l, ix_f, ix_t, cut_l, min_ii, max_ii, gN, gT, gTs, at_0, at_1, at_2, at_3, decide_eq_true_eq, Bool.not_true, Bool.not_false, Bool.false_eq_true, Int.reduceEq, Int.reduceNeg, Int.reduceLT, Int.reduceLE, Int.reduceAdd, Int.reduceSub, D.int.injEq, D.bl.injEq, reduceCtorEq, ne_eq, not_true_eq_false, not_false_eq_true, List.getElem?_cons_succ, List.getElem?_cons_zero, Option.getD_some, Option.getD_none, ↓xp_chain, ↓nxS_nx, iter_l, iter_t, ↓xp_chain3, ↓wp_yes, ↓xp_iR3, ↓xp_iEn, ↓xp_iEn2, ↓xp_mut2, ↓xp_putD, ↓xp_dic0, lookD, kOf, enum_l, enum_s, listA_l, listA_f, listA_t, notT_b]
  first | exact ⟨rfl, rfl⟩ | exact ⟨rfl, trivial⟩ | exact ⟨trivial, trivial⟩
/-- the piles of a size, and those with the letters -/
def PL (R C : Nat) : List (List Nat) := pl (jall R C R) (R * C)
def Sx (R C : Nat) (t : List (List Nat) × List (List Nat)) : List (List Nat) := (PL R C).filter fun o => decide (mp R C o = t)
theorem PL_perm {R C : Nat} : ∀ o ∈ PL R C, o.Perm (List.range (R * C)) := pl_perm _ _
theorem map_states_eq {R C : Nat} (h : Sz R C) (hm : R * C ≤ 6) (t : List (List Nat) × List (List Nat)) : map_states_f [mD R C t] = some (.lst (srt (nns (Sx R C t))), []) := by
  rw [wpF_iff]
  unfold map_states_f map_states_b
  have d0 : dIx (mD R C t) (.int 0) = some (.int (R : Nat)) := rfl
  have d1 : dIx (mD R C t) (.int 1) = some (.int (C : Nat)) := rfl
  have hap := all_piles_eq h hm
  have hpl := pl_len (jall R C R) (R * C) hm
  simp only [↓wp_run, startE, ↓wp_sSeq, ↓thenS_nx, ↓thenS_rt, ↓thenS_bk, ↓thenS_ct, ↓xp_sSet, ↓xp_sDo, ↓xp_sRet, ↓wp_sIf, ↓wp_sNil, ↓wp_sBrk, ↓wp_sCnt, ↓xp_sAsg, ↓xp_sPar, ↓xp_sSetIx, ↓wp_sFor, ↓xp_tB, ↓xp_tTru, ↓wp_tNot, ↓wp_tAnd, ↓wp_tOr, ↓xp_wpV, ↓wp_C, ↓xp_V, ↓wp_O, ↓xp_R, ↓xp_e1, ↓xp_e2, ↓wp_if, ↓xp_and, ↓xp_or, ↓wp_lst, ↓wp_tup, ↓wp_nil, ↓xp_cons, ↓xp_call0, ↓xp_call1, ↓wp_anil, ↓wp_av, ↓wp_aw, ↓xp_mut1, ↓xp_mut0, ↓xp_cut, ↓wpP_none, ↓xp_psome, ↓xp_iA, ↓xp_iR1, ↓xp_iR2, exO_some, ↓reduceIte, ↓xp_end_rt, ↓xp_end_nx, ↓turn_nx, ↓turn_ct, ↓turn_bk, ↓turn_rt, get_val, get_slot, gets, looks, look, lookL, put, Option.bind_some, asB, asI, wipeE, backE, List.map_cons, List.map_nil, List.length_cons, List.length_nil, List.replicate, List.cons_append, List.nil_append, List.set_cons_zero, List.set_cons_succ, Nat.reduceAdd, Nat.reduceSub, add_ii, sub_ii, neg_i, lt_ii, le_ii, gt_ii, ge_ii, eq_ii, ne_ii, eq_bb, ne_bb, int_i, int_b, abs_i, len_l, len_f, len_t, list_l, list_t, tuple_l, tuple_t, not_b, truth_b, truth_i, ix_l, ix_f, ix_t, cut_l, min_ii, max_ii, gN, gT, gTs, at_0, at_1, at_2, at_3, decide_eq_true_eq, Bool.not_true, Bool.not_false, Bool.false_eq_true, Int.reduceEq, Int.reduceNeg, Int.reduceLT, Int.reduceLE, Int.reduceAdd, Int.reduceSub, D.int.injEq, D.bl.injEq, reduceCtorEq, ne_eq, not_true_eq_false, not_false_eq_true, List.getElem?_cons_succ, List.getElem?_cons_zero, Option.getD_some, Option.getD_none, ↓xp_chain, ↓nxS_nx, iter_l, iter_t, ↓xp_chain3, ↓wp_yes, ↓xp_iR3, ↓xp_iEn, ↓xp_iEn2, ↓xp_mut2, ↓xp_putD, ↓xp_dic0, lookD, kOf, enum_l, enum_s, listA_l, listA_f, listA_t, notT_b]
  refine wp_comp_fp (PL R C) nn nn (fun o => decide (mp R C o = t)) ?_
  simp only [↓wp_run, startE, ↓wp_sSeq, ↓thenS_nx, ↓thenS_rt, ↓thenS_bk, ↓thenS_ct, ↓xp_sSet, ↓xp_sDo, ↓xp_sRet, ↓wp_sIf, ↓wp_sNil, ↓wp_sBrk, ↓wp_sCnt, ↓xp_sAsg, ↓xp_sPar, ↓xp_sSetIx, ↓wp_sFor, ↓xp_tB, ↓xp_tTru, ↓wp_tNot, ↓wp_tAnd, ↓wp_tOr, ↓xp_wpV, ↓wp_C, ↓xp_V, ↓wp_O, ↓xp_R, ↓xp_e1, ↓xp_e2, ↓wp_if, ↓xp_and, ↓xp_or, ↓wp_lst, ↓wp_tup, ↓wp_nil, ↓xp_cons, ↓xp_call0, ↓xp_call1, ↓wp_anil, ↓wp_av, ↓wp_aw, ↓xp_mut1, ↓xp_mut0, ↓xp_cut, ↓wpP_none, ↓xp_psome, ↓xp_iA, ↓xp_iR1, ↓xp_iR2, exO_some, ↓reduceIte, ↓xp_end_rt, ↓xp_end_nx, ↓turn_nx, ↓turn_ct, ↓turn_bk, ↓turn_rt, get_val, get_slot, gets, looks, look, lookL, put, Option.bind_some, asB, asI, wipeE, backE, List.map_cons, List.map_nil, List.length_cons, List.length_nil, List.replicate, List.cons_append, List.nil_append, List.set_cons_zero, List.set_cons_succ, Nat.reduceAdd, Nat.reduceSub, add_ii, sub_ii, neg_i, lt_ii, le_ii, gt_ii, ge_ii, eq_ii, ne_ii, eq_bb, ne_bb, int_i, int_b, abs_i, len_l, len_f, len_t, list_l, list_t, tuple_l, tuple_t, not_b, truth_b, truth_i, ix_l, ix_f, ix_t, cut_l, min_ii, max_ii, gN, gT, gTs, at_0, at_1, at_2, at_3, decide_eq_true_eq, Bool.not_true, Bool.not_false, Bool.false_eq_true, Int.reduceEq, Int.reduceNeg, Int.reduceLT, Int.reduceLE, Int.reduceAdd, Int.reduceSub, D.int.injEq, D.bl.injEq, reduceCtorEq, ne_eq, not_true_eq_false, not_false_eq_true, List.getElem?_cons_succ, List.getElem?_cons_zero, Option.getD_some, Option.getD_none, ↓xp_chain, ↓nxS_nx, iter_l, iter_t, ↓xp_chain3, ↓wp_yes, ↓xp_iR3, ↓xp_iEn, ↓xp_iEn2, ↓xp_mut2, ↓xp_putD, ↓xp_dic0, lookD, kOf, enum_l, enum_s, listA_l, listA_f, listA_t, notT_b, d0, d1, wpF_eq hap]
  refine ⟨by first | rfl | trivial, by unfold PL; omega, fun o ho => ⟨_, rfl, ?_⟩, ?_⟩
  · have hp := PL_perm o ho
    have hmo := map_of_eq h hm (o := o) fun s hs => hp.mem_iff.mpr (List.mem_range.mpr hs)
    have heq := eq_mD R C (mp R C o) t
    by_cases c : mp R C o = t
    · have hq := decide_eq_true c
      rw [hq] at heq
      simp only [↓wp_run, startE, ↓wp_sSeq, ↓thenS_nx, ↓thenS_rt, ↓thenS_bk, ↓thenS_ct, ↓xp_sSet, ↓xp_sDo, ↓xp_sRet, ↓wp_sIf, ↓wp_sNil, ↓wp_sBrk, ↓wp_sCnt, ↓xp_sAsg, ↓xp_sPar, ↓xp_sSetIx, ↓wp_sFor, ↓xp_tB, ↓xp_tTru, ↓wp_tNot, ↓wp_tAnd, ↓wp_tOr, ↓xp_wpV, ↓wp_C, ↓xp_V, ↓wp_O, ↓xp_R, ↓xp_e1, ↓xp_e2, ↓wp_if, ↓xp_and, ↓xp_or, ↓wp_lst, ↓wp_tup, ↓wp_nil, ↓xp_cons, ↓xp_call0, ↓xp_call1, ↓wp_anil, ↓wp_av, ↓wp_aw, ↓xp_mut1, ↓xp_mut0, ↓xp_cut, ↓wpP_none, ↓xp_psome, ↓xp_iA, ↓xp_iR1, ↓xp_iR2, exO_some, ↓reduceIte, ↓xp_end_rt, ↓xp_end_nx, ↓turn_nx, ↓turn_ct, ↓turn_bk, ↓turn_rt, get_val, get_slot, gets, looks, look, lookL, put, Option.bind_some, asB, asI, wipeE, backE, List.map_cons, List.map_nil, List.length_cons, List.length_nil, List.replicate, List.cons_append, List.nil_append, List.set_cons_zero, List.set_cons_succ, Nat.reduceAdd, Nat.reduceSub, add_ii, sub_ii, neg_i, lt_ii, le_ii, gt_ii, ge_ii, eq_ii, ne_ii, eq_bb, ne_bb, int_i, int_b, abs_i, len_l, len_f, len_t, list_l, list_t, tuple_l, tuple_t, not_b, truth_b, truth_i, ix_l, ix_f, ix_t, cut_l, min_ii, max_ii, gN, gT, gTs, at_0, at_1, at_2, at_3, decide_eq_true_eq, Bool.not_true, Bool.not_false, Bool.false_eq_true, Int.reduceEq, Int.reduceNeg, Int.reduceLT, Int.reduceLE, Int.reduceAdd, Int.reduceSub, D.int.injEq, D.bl.injEq, reduceCtorEq, ne_eq, not_true_eq_false, not_false_eq_true, List.getElem?_cons_succ, List.getElem?_cons_zero, Option.getD_some, Option.getD_none, ↓xp_chain, ↓nxS_nx, iter_l, iter_t, ↓xp_chain3, ↓wp_yes, ↓xp_iR3, ↓xp_iEn, ↓xp_iEn2, ↓xp_mut2, ↓xp_putD, ↓xp_dic0, lookD, kOf, enum_l, enum_s, listA_l, listA_f, listA_t, notT_b, d0, d1, wpF_eq hmo, heq, hq, if_true, and_self]
      exact ⟨trivial, by rw [if_pos c]; trivial⟩
    · have hq := decide_eq_false c
      rw [hq] at heq
      simp only [↓wp_run, startE, ↓wp_sSeq, ↓thenS_nx, ↓thenS_rt, ↓thenS_bk, ↓thenS_ct, ↓xp_sSet, ↓xp_sDo, ↓xp_sRet, ↓wp_sIf, ↓wp_sNil, ↓wp_sBrk, ↓wp_sCnt, ↓xp_sAsg, ↓xp_sPar, ↓xp_sSetIx, ↓wp_sFor, ↓xp_tB, ↓xp_tTru, ↓wp_tNot, ↓wp_tAnd, ↓wp_tOr, ↓xp_wpV, ↓wp_C, ↓xp_V, ↓wp_O, ↓xp_R, ↓xp_e1, ↓xp_e2, ↓wp_if, ↓xp_and, ↓xp_or, ↓wp_lst, ↓wp_tup, ↓wp_nil, ↓xp_cons, ↓xp_call0, ↓xp_call1, ↓wp_anil, ↓wp_av, ↓wp_aw, ↓xp_mut1, ↓xp_mut0, ↓xp_cut, ↓wpP_none, ↓xp_psome, ↓xp_iA, ↓xp_iR1, ↓xp_iR2, exO_some, ↓reduceIte, ↓xp_end_rt, ↓xp_end_nx, ↓turn_nx, ↓turn_ct, ↓turn_bk, ↓turn_rt, get_val, get_slot, gets, looks, look, lookL, put, Option.bind_some, asB, asI, wipeE, backE, List.map_cons, List.map_nil, List.length_cons, List.length_nil, List.replicate, List.cons_append, List.nil_append, List.set_cons_zero, List.set_cons_succ, Nat.reduceAdd, Nat.reduceSub, add_ii, sub_ii, neg_i, lt_ii, le_ii, gt_ii, ge_ii, eq_ii, ne_ii, eq_bb, ne_bb, int_i, int_b, abs_i, len_l, len_f, len_t, list_l, list_t, tuple_l, tuple_t, not_b, truth_b, truth_i, ix_l, ix_f, ix_t, cut_l, min_ii, max_ii, gN, gT, gTs, at_0, at_1, at_2, at_3, decide_eq_true_eq, Bool.not_true, Bool.not_false, Bool.false_eq_true, Int.reduceEq, Int.reduceNeg, Int.reduceLT, Int.reduceLE, Int.reduceAdd, Int.reduceSub, D.int.injEq, D.bl.injEq, reduceCtorEq, ne_eq, not_true_eq_false, not_false_eq_true, List.getElem?_cons_succ, List.getElem?_cons_zero, Option.getD_some, Option.getD_none, ↓xp_chain, ↓nxS_nx, iter_l, iter_t, ↓xp_chain3, ↓wp_yes, ↓xp_iR3, ↓xp_iEn, ↓xp_iEn2, ↓xp_mut2, ↓xp_putD, ↓xp_dic0, lookD, kOf, enum_l, enum_s, listA_l, listA_f, listA_t, notT_b, d0, d1, wpF_eq hmo, heq, hq, Bool.false_eq_true, if_false, and_self]
      exact ⟨trivial, by rw [if_neg c]; trivial⟩
  · have e : D.lst (((PL R C).filter fun o => decide (mp R C o = t)).map nn) = .lst (nns (Sx R C t)) := rfl
    rw [e]
    simp only [↓wp_run, startE, ↓wp_sSeq, ↓thenS_nx, ↓thenS_rt, ↓thenS_bk, ↓thenS_ct, ↓xp_sSet, ↓xp_sDo, ↓xp_sRet, ↓wp_sIf, ↓wp_sNil, ↓wp_sBrk, ↓wp_sCnt, ↓xp_sAsg, ↓xp_sPar, ↓xp_sSetIx, ↓wp_sFor, ↓xp_tB, ↓xp_tTru, ↓wp_tNot, ↓wp_tAnd, ↓wp_tOr, ↓xp_wpV, ↓wp_C, ↓xp_V, ↓wp_O, ↓xp_R, ↓xp_e1, ↓xp_e2, ↓wp_if, ↓xp_and, ↓xp_or, ↓wp_lst, ↓wp_tup, ↓wp_nil, ↓xp_cons, ↓xp_call0, ↓xp_call1, ↓wp_anil, ↓wp_av, ↓wp_aw, ↓xp_mut1, ↓xp_mut0, ↓xp_cut, ↓wpP_none, ↓xp_psome, ↓xp_iA, ↓xp_iR1, ↓xp_iR2, exO_some, ↓reduceIte, ↓xp_end_rt, ↓xp_end_nx, ↓turn_nx, ↓turn_ct, ↓turn_bk, ↓turn_rt, get_val, get_slot, gets, looks, look, lookL, put, Option.bind_some, asB, asI, wipeE, backE, List.map_cons, List.map_nil, List.length_cons, List.length_nil, List.replicate, List.cons_append, List.nil_append, List.set_cons_zero, List.set_cons_succ, Nat.reduceAdd, Nat.reduceSub, add_ii, sub_ii, neg_i, lt_ii, le_ii, gt_ii, ge_ii, eq_ii, ne_ii, eq_bb, ne_bb, int_i, int_b, abs_i, len_l, len_f, len_t, list_l, list_t, tuple_l, tuple_t, not_b, truth_b, truth_i, ix_l, ix_f, ix_t, cut_l, min_ii, max_ii, gN, gT, gTs, at_0, at_1, at_2, at_3, decide_eq_true_eq, Bool.not_true, Bool.not_false, Bool.false_eq_true, Int.reduceEq, Int.reduceNeg, Int.reduceLT, Int.reduceLE, Int.reduceAdd, Int.reduceSub, D.int.injEq, D.bl.injEq, reduceCtorEq, ne_eq, not_true_eq_false, not_false_eq_true, List.getElem?_cons_succ, List.getElem?_cons_zero, Option.getD_some, Option.getD_none, ↓xp_chain, ↓nxS_nx, iter_l, iter_t, ↓xp_chain3, ↓wp_yes, ↓xp_iR3, ↓xp_iEn, ↓xp_iEn2, ↓xp_mut2, ↓xp_putD, ↓xp_dic0, lookD, kOf, enum_l, enum_s, listA_l, listA_f, listA_t, notT_b, sort_nns, and_self]
/-! all letters of a size -/
abbrev TT := List (List Nat) × List (List Nat)
def exch (w : List Nat) : List Nat := w.map fun c => if c = 109 then 118 else 109
def exT (t : TT) : TT := (t.1.map exch, t.2.map exch)
def coT (t : TT) : TT := (t.1.map List.reverse, t.2.map List.reverse)
def usT (t : TT) : TT := (t.1.reverse, t.2.reverse)
def tuT (R C : Nat) (t : TT) : TT := ((List.range C).map fun c => (List.range (R - 1)).map fun r => (t.2.getD r []).getD c 0, (List.range (C - 1)).map fun c => (List.range R).map fun r => (t.1.getD r []).getD c 0)
def lett (w : List Nat) : Prop := ∀ c ∈ w, c = 109 ∨ c = 118
def Vt (R C : Nat) (t : TT) : Prop := t.1.length = R ∧ (∀ w ∈ t.1, w.length = C - 1 ∧ lett w) ∧ t.2.length = R - 1 ∧ ∀ w ∈ t.2, w.length = C ∧ lett w
def wd : Nat → List (List Nat)
  | 0 => [[]]
  | n + 1 => (wd n).flatMap fun w => [w ++ [109], w ++ [118]]
def tup (ws : List (List Nat)) : Nat → List (List (List Nat))
  | 0 => [[]]
  | k + 1 => (tup ws k).flatMap fun X => ws.map fun w => X ++ [w]
def allL (R C : Nat) : List TT := (tup (wd (C - 1)) R).flatMap fun A => (tup (wd C) (R - 1)).map fun B => (A, B)
theorem wd_mem : ∀ (n : Nat) (w : List Nat), w.length = n → lett w → w ∈ wd n
  | 0, w, h, _ => by rw [List.length_eq_zero_iff.mp h]; simp [wd]
  | n + 1, w, h, hl => by
    have hne : w ≠ [] := fun e => by rw [e] at h; simp at h
    have e := List.dropLast_concat_getLast hne
    have hq : ∀ c ∈ w.dropLast, c = 109 ∨ c = 118 := fun c hc => hl c ((List.dropLast_sublist w).subset hc)
    have ih := wd_mem n w.dropLast (by rw [List.length_dropLast]; omega) hq
    have hl2 := hl (w.getLast hne) (List.getLast_mem hne)
    rw [← e]
    refine List.mem_flatMap.mpr ⟨_, ih, ?_⟩
    rcases hl2 with q | q <;> rw [q] <;> simp
theorem tup_mem (ws : List (List Nat)) : ∀ (k : Nat) (X : List (List Nat)), X.length = k → (∀ w ∈ X, w ∈ ws) → X ∈ tup ws k
  | 0, X, h, _ => by rw [List.length_eq_zero_iff.mp h]; simp [tup]
  | k + 1, X, h, hl => by
    have hne : X ≠ [] := fun e => by rw [e] at h; simp at h
    have e := List.dropLast_concat_getLast hne
    have ih := tup_mem ws k X.dropLast (by rw [List.length_dropLast]; omega) fun w hw => hl w ((List.dropLast_sublist X).subset hw)
    rw [← e]
    exact List.mem_flatMap.mpr ⟨_, ih, List.mem_map.mpr ⟨_, hl _ (List.getLast_mem hne), rfl⟩⟩
theorem all_mem {R C : Nat} {t : TT} (h : Vt R C t) : t ∈ allL R C := by
  obtain ⟨h1, h2, h3, h4⟩ := h
  refine List.mem_flatMap.mpr ⟨t.1, tup_mem _ R t.1 h1 fun w hw => wd_mem _ w (h2 w hw).1 (h2 w hw).2, List.mem_map.mpr ⟨t.2, tup_mem _ _ t.2 h3 fun w hw => wd_mem _ w (h4 w hw).1 (h4 w hw).2, rfl⟩⟩
def Sl (M : List (List Nat × TT)) (t : TT) : List (List Nat) := (M.filter fun x => decide (x.2 = t)).map (·.1)
theorem sx_sl (R C : Nat) (t : TT) : Sx R C t = Sl ((PL R C).map fun o => (o, mp R C o)) t := by
  unfold Sx Sl
  rw [List.filter_map, List.map_map]
  have e : ((fun x : List Nat × TT => x.1) ∘ fun o => (o, mp R C o)) = id := rfl
  rw [e, List.map_id]; rfl
def chkL (M M' : List (List Nat × TT)) (R C : Nat) (t : TT) : Bool :=
  (Sl M' (tuT R C t)).length == (Sl M t).length && (Sl M (exT t)).length == (Sl M t).length && ((Sl M t).all fun o => decide (o.reverse ∈ Sl M (exT t))) && (Sl M (coT t)).length == (Sl M t).length && (Sl M (usT t)).length == (Sl M t).length
/-- what the law asks of a size -/
structure Ck (R C : Nat) (t : TT) : Prop where
  tu : (Sx C R (tuT R C t)).length = (Sx R C t).length
  ex : (Sx R C (exT t)).length = (Sx R C t).length
  rv : ∀ o ∈ Sx R C t, o.reverse ∈ Sx R C (exT t)
  co : (Sx R C (coT t)).length = (Sx R C t).length
  us : (Sx R C (usT t)).length = (Sx R C t).length
theorem ck_of {M M' : List (List Nat × TT)} {R C : Nat} (h1 : (PL R C).map (fun o => (o, mp R C o)) = M) (h2 : (PL C R).map (fun o => (o, mp C R o)) = M') {t : TT} (h : chkL M M' R C t = true) : Ck R C t := by
  unfold chkL at h
  simp only [Bool.and_eq_true, beq_iff_eq, List.all_eq_true, decide_eq_true_eq] at h
  obtain ⟨⟨⟨⟨a1, a2⟩, a3⟩, a4⟩, a5⟩ := h
  refine ⟨?_, ?_, ?_, ?_, ?_⟩ <;> simp only [sx_sl, h1, h2] <;> assumption
def M14 : List (List Nat × TT) := [([3, 2, 1, 0], ([[109, 118, 109]], [])), ([2, 3, 1, 0], ([[109, 118, 118]], [])), ([2, 1, 0, 3], ([[109, 118, 118]], [])), ([1, 3, 2, 0], ([[109, 109, 109]], [])), ([1, 2, 3, 0], ([[109, 109, 118]], [])), ([3, 1, 0, 2], ([[109, 109, 109]], [])), ([1, 0, 3, 2], ([[109, 109, 109]], [])), ([1, 0, 2, 3], ([[109, 109, 118]], [])), ([3, 2, 0, 1], ([[118, 118, 109]], [])), ([2, 3, 0, 1], ([[118, 118, 118]], [])), ([2, 0, 1, 3], ([[118, 118, 118]], [])), ([0, 3, 2, 1], ([[118, 118, 109]], [])), ([0, 2, 3, 1], ([[118, 118, 118]], [])), ([3, 0, 1, 2], ([[118, 109, 109]], [])), ([0, 1, 3, 2], ([[118, 109, 109]], [])), ([0, 1, 2, 3], ([[118, 109, 118]], []))]
theorem m14 : (PL 1 4).map (fun o => (o, mp 1 4 o)) = M14 := by decide +kernel
def M41 : List (List Nat × TT) := [([3, 2, 1, 0], ([[], [], [], []], [[109], [118], [109]])), ([2, 3, 1, 0], ([[], [], [], []], [[109], [118], [118]])), ([2, 1, 0, 3], ([[], [], [], []], [[109], [118], [118]])), ([1, 3, 2, 0], ([[], [], [], []], [[109], [109], [109]])), ([1, 2, 3, 0], ([[], [], [], []], [[109], [109], [118]])), ([3, 1, 0, 2], ([[], [], [], []], [[109], [109], [109]])), ([1, 0, 3, 2], ([[], [], [], []], [[109], [109], [109]])), ([1, 0, 2, 3], ([[], [], [], []], [[109], [109], [118]])), ([3, 2, 0, 1], ([[], [], [], []], [[118], [118], [109]])), ([2, 3, 0, 1], ([[], [], [], []], [[118], [118], [118]])), ([2, 0, 1, 3], ([[], [], [], []], [[118], [118], [118]])), ([0, 3, 2, 1], ([[], [], [], []], [[118], [118], [109]])), ([0, 2, 3, 1], ([[], [], [], []], [[118], [118], [118]])), ([3, 0, 1, 2], ([[], [], [], []], [[118], [109], [109]])), ([0, 1, 3, 2], ([[], [], [], []], [[118], [109], [109]])), ([0, 1, 2, 3], ([[], [], [], []], [[118], [109], [118]]))]
theorem m41 : (PL 4 1).map (fun o => (o, mp 4 1 o)) = M41 := by decide +kernel
def M22 : List (List Nat × TT) := [([2, 3, 1, 0], ([[109], [109]], [[109, 118]])), ([1, 3, 2, 0], ([[109], [118]], [[109, 109]])), ([3, 1, 0, 2], ([[109], [118]], [[118, 118]])), ([1, 0, 2, 3], ([[109], [109]], [[118, 109]])), ([3, 2, 0, 1], ([[118], [118]], [[109, 118]])), ([2, 0, 1, 3], ([[118], [109]], [[109, 109]])), ([0, 2, 3, 1], ([[118], [109]], [[118, 118]])), ([0, 1, 3, 2], ([[118], [118]], [[118, 109]]))]
theorem m22 : (PL 2 2).map (fun o => (o, mp 2 2 o)) = M22 := by decide +kernel
def M23 : List (List Nat × TT) := [([3, 4, 5, 2, 1, 0], ([[109, 118], [109, 118]], [[109, 118, 109]])), ([3, 2, 5, 4, 1, 0], ([[109, 118], [109, 109]], [[109, 118, 118]])), ([2, 5, 3, 4, 1, 0], ([[109, 118], [109, 109]], [[109, 118, 118]])), ([5, 2, 1, 4, 3, 0], ([[109, 118], [118, 109]], [[109, 109, 109]])), ([2, 1, 4, 5, 3, 0], ([[109, 118], [118, 118]], [[109, 109, 118]])), ([2, 1, 4, 3, 0, 5], ([[109, 118], [118, 118]], [[109, 109, 118]])), ([4, 5, 2, 1, 0, 3], ([[109, 118], [118, 118]], [[118, 118, 109]])), ([2, 5, 4, 1, 0, 3], ([[109, 118], [118, 109]], [[118, 118, 118]])), ([5, 2, 1, 0, 3, 4], ([[109, 118], [109, 109]], [[118, 109, 109]])), ([2, 1, 0, 3, 4, 5], ([[109, 118], [109, 118]], [[118, 109, 118]])), ([3, 5, 4, 1, 2, 0], ([[109, 109], [109, 109]], [[109, 118, 109]])), ([3, 4, 1, 2, 5, 0], ([[109, 109], [109, 118]], [[109, 118, 118]])), ([1, 4, 3, 5, 2, 0], ([[109, 109], [118, 118]], [[109, 109, 109]])), ([1, 4, 5, 2, 3, 0], ([[109, 109], [118, 118]], [[109, 109, 109]])), ([1, 2, 5, 4, 3, 0], ([[109, 109], [118, 109]], [[109, 109, 118]])), ([5, 4, 1, 2, 0, 3], ([[109, 109], [118, 109]], [[118, 118, 109]])), ([4, 1, 2, 5, 0, 3], ([[109, 109], [118, 118]], [[118, 118, 118]])), ([4, 1, 2, 0, 3, 5], ([[109, 109], [118, 118]], [[118, 118, 118]])), ([1, 2, 5, 0, 3, 4], ([[109, 109], [109, 109]], [[118, 109, 118]])), ([1, 2, 0, 3, 5, 4], ([[109, 109], [109, 109]], [[118, 109, 118]])), ([5, 3, 4, 1, 0, 2], ([[109, 109], [109, 109]], [[109, 118, 109]])), ([3, 4, 1, 0, 2, 5], ([[109, 109], [109, 118]], [[109, 118, 118]])), ([1, 4, 5, 3, 0, 2], ([[109, 109], [118, 118]], [[109, 109, 109]])), ([1, 4, 3, 0, 5, 2], ([[109, 109], [118, 118]], [[109, 109, 109]])), ([5, 4, 1, 0, 3, 2], ([[109, 109], [118, 109]], [[118, 118, 109]])), ([4, 1, 0, 3, 2, 5], ([[109, 109], [118, 118]], [[118, 118, 118]])), ([1, 0, 3, 4, 5, 2], ([[109, 109], [109, 118]], [[118, 109, 109]])), ([1, 0, 3, 2, 5, 4], ([[109, 109], [109, 109]], [[118, 109, 118]])), ([4, 1, 0, 2, 5, 3], ([[109, 109], [118, 118]], [[118, 118, 118]])), ([1, 0, 2, 5, 3, 4], ([[109, 109], [109, 109]], [[118, 109, 118]])), ([4, 3, 5, 2, 0, 1], ([[118, 118], [118, 118]], [[109, 118, 109]])), ([3, 5, 2, 0, 1, 4], ([[118, 118], [109, 109]], [[109, 109, 109]])), ([4, 5, 2, 3, 0, 1], ([[118, 118], [118, 118]], [[109, 118, 109]])), ([2, 5, 4, 3, 0, 1], ([[118, 118], [118, 109]], [[109, 118, 118]])), ([5, 2, 3, 0, 1, 4], ([[118, 118], [109, 109]], [[109, 109, 109]])), ([2, 3, 0, 1, 4, 5], ([[118, 118], [109, 118]], [[109, 109, 118]])), ([2, 5, 0, 3, 4, 1], ([[118, 118], [109, 109]], [[118, 118, 118]])), ([2, 0, 3, 5, 4, 1], ([[118, 118], [109, 109]], [[118, 118, 118]])), ([5, 2, 0, 1, 4, 3], ([[118, 118], [118, 109]], [[118, 109, 109]])), ([2, 0, 1, 4, 3, 5], ([[118, 118], [118, 118]], [[118, 109, 118]])), ([4, 5, 3, 0, 2, 1], ([[118, 118], [118, 118]], [[109, 118, 109]])), ([4, 3, 0, 5, 2, 1], ([[118, 118], [118, 118]], [[109, 118, 109]])), ([5, 3, 0, 2, 1, 4], ([[118, 118], [109, 109]], [[109, 109, 109]])), ([3, 0, 5, 2, 1, 4], ([[118, 118], [109, 109]], [[109, 109, 109]])), ([3, 0, 2, 1, 4, 5], ([[118, 118], [109, 118]], [[109, 109, 118]])), ([0, 3, 4, 5, 2, 1], ([[118, 118], [109, 118]], [[118, 118, 109]])), ([0, 3, 2, 5, 4, 1], ([[118, 118], [109, 109]], [[118, 118, 118]])), ([0, 2, 5, 3, 4, 1], ([[118, 118], [109, 109]], [[118, 118, 118]])), ([0, 5, 2, 1, 4, 3], ([[118, 118], [118, 109]], [[118, 109, 109]])), ([0, 2, 1, 4, 5, 3], ([[118, 118], [118, 118]], [[118, 109, 118]])), ([5, 4, 3, 0, 1, 2], ([[118, 109], [118, 109]], [[109, 118, 109]])), ([4, 3, 0, 1, 2, 5], ([[118, 109], [118, 118]], [[109, 118, 118]])), ([3, 0, 1, 4, 5, 2], ([[118, 109], [109, 118]], [[109, 109, 109]])), ([3, 0, 1, 2, 5, 4], ([[118, 109], [109, 109]], [[109, 109, 118]])), ([5, 0, 3, 4, 1, 2], ([[118, 109], [109, 109]], [[118, 118, 109]])), ([0, 3, 5, 4, 1, 2], ([[118, 109], [109, 109]], [[118, 118, 109]])), ([0, 3, 4, 1, 2, 5], ([[118, 109], [109, 118]], [[118, 118, 118]])), ([0, 1, 4, 3, 5, 2], ([[118, 109], [118, 118]], [[118, 109, 109]])), ([0, 1, 4, 5, 2, 3], ([[118, 109], [118, 118]], [[118, 109, 109]])), ([0, 1, 2, 5, 4, 3], ([[118, 109], [118, 109]], [[118, 109, 118]]))]
theorem m23 : (PL 2 3).map (fun o => (o, mp 2 3 o)) = M23 := by decide +kernel
def M32 : List (List Nat × TT) := [([5, 4, 2, 3, 1, 0], ([[109], [109], [109]], [[109, 118], [118, 109]])), ([4, 2, 3, 5, 1, 0], ([[109], [109], [118]], [[109, 118], [118, 118]])), ([4, 2, 3, 1, 0, 5], ([[109], [109], [118]], [[109, 118], [118, 118]])), ([2, 4, 5, 3, 1, 0], ([[109], [109], [118]], [[109, 118], [109, 109]])), ([2, 3, 5, 4, 1, 0], ([[109], [109], [109]], [[109, 118], [109, 118]])), ([2, 3, 1, 5, 4, 0], ([[109], [109], [109]], [[109, 118], [109, 118]])), ([2, 3, 5, 1, 0, 4], ([[109], [109], [109]], [[109, 118], [109, 118]])), ([2, 3, 1, 0, 5, 4], ([[109], [109], [109]], [[109, 118], [109, 118]])), ([4, 5, 1, 3, 2, 0], ([[109], [118], [118]], [[109, 109], [118, 109]])), ([1, 4, 5, 3, 2, 0], ([[109], [118], [118]], [[109, 109], [118, 109]])), ([1, 3, 5, 4, 2, 0], ([[109], [118], [109]], [[109, 109], [118, 118]])), ([1, 5, 3, 2, 4, 0], ([[109], [118], [109]], [[109, 109], [109, 109]])), ([1, 3, 2, 4, 5, 0], ([[109], [118], [118]], [[109, 109], [109, 118]])), ([5, 1, 3, 2, 0, 4], ([[109], [118], [109]], [[109, 109], [109, 109]])), ([1, 3, 2, 0, 4, 5], ([[109], [118], [118]], [[109, 109], [109, 118]])), ([4, 5, 3, 1, 0, 2], ([[109], [118], [118]], [[118, 118], [118, 109]])), ([3, 5, 4, 1, 0, 2], ([[109], [118], [109]], [[118, 118], [118, 118]])), ([3, 1, 5, 4, 0, 2], ([[109], [118], [109]], [[118, 118], [118, 118]])), ([3, 5, 1, 0, 4, 2], ([[109], [118], [109]], [[118, 118], [118, 118]])), ([3, 1, 0, 5, 4, 2], ([[109], [118], [109]], [[118, 118], [118, 118]])), ([5, 3, 1, 0, 2, 4], ([[109], [118], [109]], [[118, 118], [109, 109]])), ([3, 1, 0, 2, 4, 5], ([[109], [118], [118]], [[118, 118], [109, 118]])), ([5, 4, 1, 0, 2, 3], ([[109], [109], [109]], [[118, 109], [118, 109]])), ([4, 1, 0, 2, 3, 5], ([[109], [109], [118]], [[118, 109], [118, 118]])), ([1, 5, 4, 0, 2, 3], ([[109], [109], [109]], [[118, 109], [118, 109]])), ([5, 1, 0, 4, 2, 3], ([[109], [109], [109]], [[118, 109], [118, 109]])), ([1, 0, 5, 4, 2, 3], ([[109], [109], [109]], [[118, 109], [118, 109]])), ([1, 0, 4, 2, 3, 5], ([[109], [109], [118]], [[118, 109], [118, 118]])), ([1, 0, 2, 4, 5, 3], ([[109], [109], [118]], [[118, 109], [109, 109]])), ([1, 0, 2, 3, 5, 4], ([[109], [109], [109]], [[118, 109], [109, 118]])), ([4, 5, 3, 2, 0, 1], ([[118], [118], [118]], [[109, 118], [118, 109]])), ([3, 5, 4, 2, 0, 1], ([[118], [118], [109]], [[109, 118], [118, 118]])), ([5, 3, 2, 4, 0, 1], ([[118], [118], [109]], [[109, 118], [109, 109]])), ([3, 2, 4, 5, 0, 1], ([[118], [118], [118]], [[109, 118], [109, 118]])), ([3, 2, 4, 0, 1, 5], ([[118], [118], [118]], [[109, 118], [109, 118]])), ([3, 2, 0, 4, 5, 1], ([[118], [118], [118]], [[109, 118], [109, 118]])), ([5, 3, 2, 0, 1, 4], ([[118], [118], [109]], [[109, 118], [109, 109]])), ([3, 2, 0, 1, 4, 5], ([[118], [118], [118]], [[109, 118], [109, 118]])), ([5, 4, 2, 0, 1, 3], ([[118], [109], [109]], [[109, 109], [118, 109]])), ([4, 2, 0, 1, 3, 5], ([[118], [109], [118]], [[109, 109], [118, 118]])), ([2, 4, 5, 0, 1, 3], ([[118], [109], [118]], [[109, 109], [109, 109]])), ([2, 4, 0, 1, 5, 3], ([[118], [109], [118]], [[109, 109], [109, 109]])), ([2, 0, 4, 5, 1, 3], ([[118], [109], [118]], [[109, 109], [109, 109]])), ([2, 0, 1, 4, 5, 3], ([[118], [109], [118]], [[109, 109], [109, 109]])), ([2, 0, 1, 3, 5, 4], ([[118], [109], [109]], [[109, 109], [109, 118]])), ([5, 4, 0, 2, 3, 1], ([[118], [109], [109]], [[118, 118], [118, 109]])), ([4, 0, 2, 3, 1, 5], ([[118], [109], [118]], [[118, 118], [118, 118]])), ([0, 5, 4, 2, 3, 1], ([[118], [109], [109]], [[118, 118], [118, 109]])), ([0, 4, 2, 3, 5, 1], ([[118], [109], [118]], [[118, 118], [118, 118]])), ([0, 2, 4, 5, 3, 1], ([[118], [109], [118]], [[118, 118], [109, 109]])), ([0, 2, 3, 5, 4, 1], ([[118], [109], [109]], [[118, 118], [109, 118]])), ([0, 2, 3, 1, 5, 4], ([[118], [109], [109]], [[118, 118], [109, 118]])), ([4, 5, 0, 1, 3, 2], ([[118], [118], [118]], [[118, 109], [118, 109]])), ([4, 0, 1, 5, 3, 2], ([[118], [118], [118]], [[118, 109], [118, 109]])), ([0, 4, 5, 1, 3, 2], ([[118], [118], [118]], [[118, 109], [118, 109]])), ([0, 1, 4, 5, 3, 2], ([[118], [118], [118]], [[118, 109], [118, 109]])), ([0, 1, 3, 5, 4, 2], ([[118], [118], [109]], [[118, 109], [118, 118]])), ([5, 0, 1, 3, 2, 4], ([[118], [118], [109]], [[118, 109], [109, 109]])), ([0, 1, 5, 3, 2, 4], ([[118], [118], [109]], [[118, 109], [109, 109]])), ([0, 1, 3, 2, 4, 5], ([[118], [118], [118]], [[118, 109], [109, 118]]))]
theorem m32 : (PL 3 2).map (fun o => (o, mp 3 2 o)) = M32 := by decide +kernel
def M15 : List (List Nat × TT) := [([4, 3, 2, 1, 0], ([[109, 118, 109, 118]], [])), ([3, 4, 2, 1, 0], ([[109, 118, 109, 109]], [])), ([3, 2, 1, 4, 0], ([[109, 118, 109, 109]], [])), ([3, 2, 1, 0, 4], ([[109, 118, 109, 109]], [])), ([2, 4, 3, 1, 0], ([[109, 118, 118, 118]], [])), ([2, 3, 4, 1, 0], ([[109, 118, 118, 109]], [])), ([4, 2, 1, 0, 3], ([[109, 118, 118, 118]], [])), ([2, 1, 4, 0, 3], ([[109, 118, 118, 118]], [])), ([2, 1, 0, 4, 3], ([[109, 118, 118, 118]], [])), ([2, 1, 0, 3, 4], ([[109, 118, 118, 109]], [])), ([1, 4, 3, 2, 0], ([[109, 109, 109, 118]], [])), ([1, 3, 4, 2, 0], ([[109, 109, 109, 109]], [])), ([4, 1, 2, 3, 0], ([[109, 109, 118, 118]], [])), ([1, 2, 4, 3, 0], ([[109, 109, 118, 118]], [])), ([1, 2, 3, 4, 0], ([[109, 109, 118, 109]], [])), ([1, 2, 3, 0, 4], ([[109, 109, 118, 109]], [])), ([4, 3, 1, 0, 2], ([[109, 109, 109, 118]], [])), ([3, 4, 1, 0, 2], ([[109, 109, 109, 109]], [])), ([3, 1, 0, 2, 4], ([[109, 109, 109, 109]], [])), ([1, 4, 0, 3, 2], ([[109, 109, 109, 118]], [])), ([1, 0, 4, 3, 2], ([[109, 109, 109, 118]], [])), ([1, 0, 3, 4, 2], ([[109, 109, 109, 109]], [])), ([4, 1, 0, 2, 3], ([[109, 109, 118, 118]], [])), ([1, 0, 2, 4, 3], ([[109, 109, 118, 118]], [])), ([1, 0, 2, 3, 4], ([[109, 109, 118, 109]], [])), ([4, 3, 2, 0, 1], ([[118, 118, 109, 118]], [])), ([3, 4, 2, 0, 1], ([[118, 118, 109, 109]], [])), ([3, 2, 0, 1, 4], ([[118, 118, 109, 109]], [])), ([2, 4, 3, 0, 1], ([[118, 118, 118, 118]], [])), ([2, 3, 4, 0, 1], ([[118, 118, 118, 109]], [])), ([2, 3, 0, 4, 1], ([[118, 118, 118, 109]], [])), ([4, 2, 0, 1, 3], ([[118, 118, 118, 118]], [])), ([2, 0, 1, 4, 3], ([[118, 118, 118, 118]], [])), ([2, 0, 1, 3, 4], ([[118, 118, 118, 109]], [])), ([4, 0, 3, 2, 1], ([[118, 118, 109, 118]], [])), ([0, 4, 3, 2, 1], ([[118, 118, 109, 118]], [])), ([0, 3, 4, 2, 1], ([[118, 118, 109, 109]], [])), ([0, 3, 2, 1, 4], ([[118, 118, 109, 109]], [])), ([0, 2, 4, 3, 1], ([[118, 118, 118, 118]], [])), ([0, 2, 3, 4, 1], ([[118, 118, 118, 109]], [])), ([4, 3, 0, 1, 2], ([[118, 109, 109, 118]], [])), ([3, 4, 0, 1, 2], ([[118, 109, 109, 109]], [])), ([3, 0, 4, 1, 2], ([[118, 109, 109, 109]], [])), ([3, 0, 1, 2, 4], ([[118, 109, 109, 109]], [])), ([0, 1, 4, 3, 2], ([[118, 109, 109, 118]], [])), ([0, 1, 3, 4, 2], ([[118, 109, 109, 109]], [])), ([4, 0, 1, 2, 3], ([[118, 109, 118, 118]], [])), ([0, 4, 1, 2, 3], ([[118, 109, 118, 118]], [])), ([0, 1, 2, 4, 3], ([[118, 109, 118, 118]], [])), ([0, 1, 2, 3, 4], ([[118, 109, 118, 109]], []))]
theorem m15 : (PL 1 5).map (fun o => (o, mp 1 5 o)) = M15 := by decide +kernel
def M51 : List (List Nat × TT) := [([4, 3, 2, 1, 0], ([[], [], [], [], []], [[109], [118], [109], [118]])), ([3, 4, 2, 1, 0], ([[], [], [], [], []], [[109], [118], [109], [109]])), ([3, 2, 1, 4, 0], ([[], [], [], [], []], [[109], [118], [109], [109]])), ([3, 2, 1, 0, 4], ([[], [], [], [], []], [[109], [118], [109], [109]])), ([2, 4, 3, 1, 0], ([[], [], [], [], []], [[109], [118], [118], [118]])), ([2, 3, 4, 1, 0], ([[], [], [], [], []], [[109], [118], [118], [109]])), ([4, 2, 1, 0, 3], ([[], [], [], [], []], [[109], [118], [118], [118]])), ([2, 1, 4, 0, 3], ([[], [], [], [], []], [[109], [118], [118], [118]])), ([2, 1, 0, 4, 3], ([[], [], [], [], []], [[109], [118], [118], [118]])), ([2, 1, 0, 3, 4], ([[], [], [], [], []], [[109], [118], [118], [109]])), ([1, 4, 3, 2, 0], ([[], [], [], [], []], [[109], [109], [109], [118]])), ([1, 3, 4, 2, 0], ([[], [], [], [], []], [[109], [109], [109], [109]])), ([4, 1, 2, 3, 0], ([[], [], [], [], []], [[109], [109], [118], [118]])), ([1, 2, 4, 3, 0], ([[], [], [], [], []], [[109], [109], [118], [118]])), ([1, 2, 3, 4, 0], ([[], [], [], [], []], [[109], [109], [118], [109]])), ([1, 2, 3, 0, 4], ([[], [], [], [], []], [[109], [109], [118], [109]])), ([4, 3, 1, 0, 2], ([[], [], [], [], []], [[109], [109], [109], [118]])), ([3, 4, 1, 0, 2], ([[], [], [], [], []], [[109], [109], [109], [109]])), ([3, 1, 0, 2, 4], ([[], [], [], [], []], [[109], [109], [109], [109]])), ([1, 4, 0, 3, 2], ([[], [], [], [], []], [[109], [109], [109], [118]])), ([1, 0, 4, 3, 2], ([[], [], [], [], []], [[109], [109], [109], [118]])), ([1, 0, 3, 4, 2], ([[], [], [], [], []], [[109], [109], [109], [109]])), ([4, 1, 0, 2, 3], ([[], [], [], [], []], [[109], [109], [118], [118]])), ([1, 0, 2, 4, 3], ([[], [], [], [], []], [[109], [109], [118], [118]])), ([1, 0, 2, 3, 4], ([[], [], [], [], []], [[109], [109], [118], [109]])), ([4, 3, 2, 0, 1], ([[], [], [], [], []], [[118], [118], [109], [118]])), ([3, 4, 2, 0, 1], ([[], [], [], [], []], [[118], [118], [109], [109]])), ([3, 2, 0, 1, 4], ([[], [], [], [], []], [[118], [118], [109], [109]])), ([2, 4, 3, 0, 1], ([[], [], [], [], []], [[118], [118], [118], [118]])), ([2, 3, 4, 0, 1], ([[], [], [], [], []], [[118], [118], [118], [109]])), ([2, 3, 0, 4, 1], ([[], [], [], [], []], [[118], [118], [118], [109]])), ([4, 2, 0, 1, 3], ([[], [], [], [], []], [[118], [118], [118], [118]])), ([2, 0, 1, 4, 3], ([[], [], [], [], []], [[118], [118], [118], [118]])), ([2, 0, 1, 3, 4], ([[], [], [], [], []], [[118], [118], [118], [109]])), ([4, 0, 3, 2, 1], ([[], [], [], [], []], [[118], [118], [109], [118]])), ([0, 4, 3, 2, 1], ([[], [], [], [], []], [[118], [118], [109], [118]])), ([0, 3, 4, 2, 1], ([[], [], [], [], []], [[118], [118], [109], [109]])), ([0, 3, 2, 1, 4], ([[], [], [], [], []], [[118], [118], [109], [109]])), ([0, 2, 4, 3, 1], ([[], [], [], [], []], [[118], [118], [118], [118]])), ([0, 2, 3, 4, 1], ([[], [], [], [], []], [[118], [118], [118], [109]])), ([4, 3, 0, 1, 2], ([[], [], [], [], []], [[118], [109], [109], [118]])), ([3, 4, 0, 1, 2], ([[], [], [], [], []], [[118], [109], [109], [109]])), ([3, 0, 4, 1, 2], ([[], [], [], [], []], [[118], [109], [109], [109]])), ([3, 0, 1, 2, 4], ([[], [], [], [], []], [[118], [109], [109], [109]])), ([0, 1, 4, 3, 2], ([[], [], [], [], []], [[118], [109], [109], [118]])), ([0, 1, 3, 4, 2], ([[], [], [], [], []], [[118], [109], [109], [109]])), ([4, 0, 1, 2, 3], ([[], [], [], [], []], [[118], [109], [118], [118]])), ([0, 4, 1, 2, 3], ([[], [], [], [], []], [[118], [109], [118], [118]])), ([0, 1, 2, 4, 3], ([[], [], [], [], []], [[118], [109], [118], [118]])), ([0, 1, 2, 3, 4], ([[], [], [], [], []], [[118], [109], [118], [109]]))]
theorem m51 : (PL 5 1).map (fun o => (o, mp 5 1 o)) = M51 := by decide +kernel
theorem c14 : ∀ t ∈ allL 1 4, chkL M14 M41 1 4 t = true := by decide +kernel
theorem c22 : ∀ t ∈ allL 2 2, chkL M22 M22 2 2 t = true := by decide +kernel
theorem c23 : ∀ t ∈ allL 2 3, chkL M23 M32 2 3 t = true := by decide +kernel
theorem c32 : ∀ t ∈ allL 3 2, chkL M32 M23 3 2 t = true := by decide +kernel
theorem c15 : ∀ t ∈ allL 1 5, chkL M15 M51 1 5 t = true := by decide +kernel
theorem c41 : ∀ t ∈ allL 4 1, chkL M41 M14 4 1 t = true := by decide +kernel
def SH : List (Nat × Nat) := [(1, 4), (2, 2), (2, 3), (3, 2), (1, 5), (4, 1)]
theorem ck_all {R C : Nat} (h : (R, C) ∈ SH) {t : TT} (hv : Vt R C t) : Ck R C t := by
  have ht := all_mem hv
  simp only [SH, List.mem_cons, List.not_mem_nil, or_false, Prod.mk.injEq] at h
  rcases h with ⟨rfl, rfl⟩ | ⟨rfl, rfl⟩ | ⟨rfl, rfl⟩ | ⟨rfl, rfl⟩ | ⟨rfl, rfl⟩ | ⟨rfl, rfl⟩
  · exact ck_of m14 m41 (c14 t ht)
  · exact ck_of m22 m22 (c22 t ht)
  · exact ck_of m23 m32 (c23 t ht)
  · exact ck_of m32 m23 (c32 t ht)
  · exact ck_of m15 m51 (c15 t ht)
  · exact ck_of m41 m14 (c41 t ht)
theorem sh_sz {R C : Nat} (h : (R, C) ∈ SH) : Sz R C ∧ Sz C R ∧ R * C ≤ 6 ∧ C * R ≤ 6 := by
  simp only [SH, List.mem_cons, List.not_mem_nil, or_false, Prod.mk.injEq] at h
  unfold Sz
  rcases h with ⟨rfl, rfl⟩ | ⟨rfl, rfl⟩ | ⟨rfl, rfl⟩ | ⟨rfl, rfl⟩ | ⟨rfl, rfl⟩ | ⟨rfl, rfl⟩ <;> omega
theorem dit_s (w : List Nat) : dIter (.str w) = some (w.map fun c => D.str [c]) := rfl
theorem exchanged_eq {w : List Nat} (h : w.length ≤ 100) : u_law_exchanged_f [.str w] = some (.str (exch w), []) := by
  rw [wpF_iff]
  unfold u_law_exchanged_f u_law_exchanged_b
  rw [wp_run]
  refine wp_seq_of (fun ε => ε = [some (.str w), some (.str (exch (w.take 0))), none]) (by simp only [↓wp_run, startE, ↓wp_sSeq, ↓thenS_nx, ↓thenS_rt, ↓thenS_bk, ↓thenS_ct, ↓xp_sSet, ↓xp_sDo, ↓xp_sRet, ↓wp_sIf, ↓wp_sNil, ↓wp_sBrk, ↓wp_sCnt, ↓xp_sAsg, ↓xp_sPar, ↓xp_sSetIx, ↓wp_sFor, ↓xp_tB, ↓xp_tTru, ↓wp_tNot, ↓wp_tAnd, ↓wp_tOr, ↓xp_wpV, ↓wp_C, ↓xp_V, ↓wp_O, ↓xp_R, ↓xp_e1, ↓xp_e2, ↓wp_if, ↓xp_and, ↓xp_or, ↓wp_lst, ↓wp_tup, ↓wp_nil, ↓xp_cons, ↓xp_call0, ↓xp_call1, ↓wp_anil, ↓wp_av, ↓wp_aw, ↓xp_mut1, ↓xp_mut0, ↓xp_cut, ↓wpP_none, ↓xp_psome, ↓xp_iA, ↓xp_iR1, ↓xp_iR2, exO_some, ↓reduceIte, ↓xp_end_rt, ↓xp_end_nx, ↓turn_nx, ↓turn_ct, ↓turn_bk, ↓turn_rt, get_val, get_slot, gets, looks, look, lookL, put, Option.bind_some, asB, asI, wipeE, backE, List.map_cons, List.map_nil, List.length_cons, List.length_nil, List.replicate, List.cons_append, List.nil_append, List.set_cons_zero, List.set_cons_succ, Nat.reduceAdd, Nat.reduceSub, add_ii, sub_ii, neg_i, lt_ii, le_ii, gt_ii, ge_ii, eq_ii, ne_ii, eq_bb, ne_bb, int_i, int_b, abs_i, len_l, len_f, len_t, list_l, list_t, tuple_l, tuple_t, not_b, truth_b, truth_i, ix_l, ix_f, ix_t, cut_l, min_ii, max_ii, gN, gT, gTs, at_0, at_1, at_2, at_3, decide_eq_true_eq, Bool.not_true, Bool.not_false, Bool.false_eq_true, Int.reduceEq, Int.reduceNeg, Int.reduceLT, Int.reduceLE, Int.reduceAdd, Int.reduceSub, D.int.injEq, D.bl.injEq, reduceCtorEq, ne_eq, not_true_eq_false, not_false_eq_true, List.getElem?_cons_succ, List.getElem?_cons_zero, Option.getD_some, Option.getD_none, ↓xp_chain, ↓nxS_nx, iter_l, iter_t, ↓xp_chain3, ↓wp_yes, ↓xp_iR3, ↓xp_iEn, ↓xp_iEn2, ↓xp_mut2, ↓xp_putD, ↓xp_dic0, lookD, kOf, enum_l, enum_s, listA_l, listA_f, listA_t, notT_b]; rfl) ?_
  rintro ε rfl
  refine wp_seq_of (fun ε => ∃ z2, ε = [some (.str w), some (.str (exch w)), z2]) ?_ ?_
  · simp only [↓wp_run, startE, ↓wp_sSeq, ↓thenS_nx, ↓thenS_rt, ↓thenS_bk, ↓thenS_ct, ↓xp_sSet, ↓xp_sDo, ↓xp_sRet, ↓wp_sIf, ↓wp_sNil, ↓wp_sBrk, ↓wp_sCnt, ↓xp_sAsg, ↓xp_sPar, ↓xp_sSetIx, ↓wp_sFor, ↓xp_tB, ↓xp_tTru, ↓wp_tNot, ↓wp_tAnd, ↓wp_tOr, ↓xp_wpV, ↓wp_C, ↓xp_V, ↓wp_O, ↓xp_R, ↓xp_e1, ↓xp_e2, ↓wp_if, ↓xp_and, ↓xp_or, ↓wp_lst, ↓wp_tup, ↓wp_nil, ↓xp_cons, ↓xp_call0, ↓xp_call1, ↓wp_anil, ↓wp_av, ↓wp_aw, ↓xp_mut1, ↓xp_mut0, ↓xp_cut, ↓wpP_none, ↓xp_psome, ↓xp_iA, ↓xp_iR1, ↓xp_iR2, exO_some, ↓reduceIte, ↓xp_end_rt, ↓xp_end_nx, ↓turn_nx, ↓turn_ct, ↓turn_bk, ↓turn_rt, get_val, get_slot, gets, looks, look, lookL, put, Option.bind_some, asB, asI, wipeE, backE, List.map_cons, List.map_nil, List.length_cons, List.length_nil, List.replicate, List.cons_append, List.nil_append, List.set_cons_zero, List.set_cons_succ, Nat.reduceAdd, Nat.reduceSub, add_ii, sub_ii, neg_i, lt_ii, le_ii, gt_ii, ge_ii, eq_ii, ne_ii, eq_bb, ne_bb, int_i, int_b, abs_i, len_l, len_f, len_t, list_l, list_t, tuple_l, tuple_t, not_b, truth_b, truth_i, ix_l, ix_f, ix_t, cut_l, min_ii, max_ii, gN, gT, gTs, at_0, at_1, at_2, at_3, decide_eq_true_eq, Bool.not_true, Bool.not_false, Bool.false_eq_true, Int.reduceEq, Int.reduceNeg, Int.reduceLT, Int.reduceLE, Int.reduceAdd, Int.reduceSub, D.int.injEq, D.bl.injEq, reduceCtorEq, ne_eq, not_true_eq_false, not_false_eq_true, List.getElem?_cons_succ, List.getElem?_cons_zero, Option.getD_some, Option.getD_none, ↓xp_chain, ↓nxS_nx, iter_l, iter_t, ↓xp_chain3, ↓wp_yes, ↓xp_iR3, ↓xp_iEn, ↓xp_iEn2, ↓xp_mut2, ↓xp_putD, ↓xp_dic0, lookD, kOf, enum_l, enum_s, listA_l, listA_f, listA_t, notT_b, dit_s]
    refine wp_for (fun i ε => ∃ z2, ε = [some (.str w), some (.str (exch (w.take i))), z2]) ⟨_, rfl⟩ (fun i z ε hd ww => ?_) (fun ε ww => ?_)
    · obtain ⟨z2, rfl⟩ := ww
      rw [List.getElem?_map] at hd
      obtain ⟨c, hc, rfl⟩ := Option.map_eq_some_iff.mp hd
      refine ⟨_, rfl, ?_⟩
      have ht : w.take (i + 1) = w.take i ++ [c] := by rw [List.take_succ, hc]; rfl
      have hl : (exch (w.take i)).length ≤ 100 := by unfold exch; rw [List.length_map, List.length_take]; omega
      have he : exch (w.take (i + 1)) = exch (w.take i) ++ [if c = 109 then 118 else 109] := by
        rw [ht]
        unfold exch
        rw [List.map_append]; rfl
      have ha : ∀ x : Nat, dAdd (.str (exch (w.take i))) (.str [x]) = some (.str (exch (w.take i) ++ [x])) := fun x => add_ss (by rw [List.length_singleton]; omega)
      have hs := eq_s1 c 109
      rw [he]
      by_cases q : c = 109
      · rw [decide_eq_true q] at hs
        rw [if_pos q]
        simp only [↓wp_run, startE, ↓wp_sSeq, ↓thenS_nx, ↓thenS_rt, ↓thenS_bk, ↓thenS_ct, ↓xp_sSet, ↓xp_sDo, ↓xp_sRet, ↓wp_sIf, ↓wp_sNil, ↓wp_sBrk, ↓wp_sCnt, ↓xp_sAsg, ↓xp_sPar, ↓xp_sSetIx, ↓wp_sFor, ↓xp_tB, ↓xp_tTru, ↓wp_tNot, ↓wp_tAnd, ↓wp_tOr, ↓xp_wpV, ↓wp_C, ↓xp_V, ↓wp_O, ↓xp_R, ↓xp_e1, ↓xp_e2, ↓wp_if, ↓xp_and, ↓xp_or, ↓wp_lst, ↓wp_tup, ↓wp_nil, ↓xp_cons, ↓xp_call0, ↓xp_call1, ↓wp_anil, ↓wp_av, ↓wp_aw, ↓xp_mut1, ↓xp_mut0, ↓xp_cut, ↓wpP_none, ↓xp_psome, ↓xp_iA, ↓xp_iR1, ↓xp_iR2, exO_some, ↓reduceIte, ↓xp_end_rt, ↓xp_end_nx, ↓turn_nx, ↓turn_ct, ↓turn_bk, ↓turn_rt, get_val, get_slot, gets, looks, look, lookL, put, Option.bind_some, asB, asI, wipeE, backE, List.map_cons, List.map_nil, List.length_cons, List.length_nil, List.replicate, List.cons_append, List.nil_append, List.set_cons_zero, List.set_cons_succ, Nat.reduceAdd, Nat.reduceSub, add_ii, sub_ii, neg_i, lt_ii, le_ii, gt_ii, ge_ii, eq_ii, ne_ii, eq_bb, ne_bb, int_i, int_b, abs_i, len_l, len_f, len_t, list_l, list_t, tuple_l, tuple_t, not_b, truth_b, truth_i, ix_l, ix_f, ix_t, cut_l, min_ii, max_ii, gN, gT, gTs, at_0, at_1, at_2, at_3, decide_eq_true_eq, Bool.not_true, Bool.not_false, Bool.false_eq_true, Int.reduceEq, Int.reduceNeg, Int.reduceLT, Int.reduceLE, Int.reduceAdd, Int.reduceSub, D.int.injEq, D.bl.injEq, reduceCtorEq, ne_eq, not_true_eq_false, not_false_eq_true, List.getElem?_cons_succ, List.getElem?_cons_zero, Option.getD_some, Option.getD_none, ↓xp_chain, ↓nxS_nx, iter_l, iter_t, ↓xp_chain3, ↓wp_yes, ↓xp_iR3, ↓xp_iEn, ↓xp_iEn2, ↓xp_mut2, ↓xp_putD, ↓xp_dic0, lookD, kOf, enum_l, enum_s, listA_l, listA_f, listA_t, notT_b, hs, ha]
        exact ⟨_, rfl⟩
      · rw [decide_eq_false q] at hs
        rw [if_neg q]
        simp only [↓wp_run, startE, ↓wp_sSeq, ↓thenS_nx, ↓thenS_rt, ↓thenS_bk, ↓thenS_ct, ↓xp_sSet, ↓xp_sDo, ↓xp_sRet, ↓wp_sIf, ↓wp_sNil, ↓wp_sBrk, ↓wp_sCnt, ↓xp_sAsg, ↓xp_sPar, ↓xp_sSetIx, ↓wp_sFor, ↓xp_tB, ↓xp_tTru, ↓wp_tNot, ↓wp_tAnd, ↓wp_tOr, ↓xp_wpV, ↓wp_C, ↓xp_V, ↓wp_O, ↓xp_R, ↓xp_e1, ↓xp_e2, ↓wp_if, ↓xp_and, ↓xp_or, ↓wp_lst, ↓wp_tup, ↓wp_nil, ↓xp_cons, ↓xp_call0, ↓xp_call1, ↓wp_anil, ↓wp_av, ↓wp_aw, ↓xp_mut1, ↓xp_mut0, ↓xp_cut, ↓wpP_none, ↓xp_psome, ↓xp_iA, ↓xp_iR1, ↓xp_iR2, exO_some, ↓reduceIte, ↓xp_end_rt, ↓xp_end_nx, ↓turn_nx, ↓turn_ct, ↓turn_bk, ↓turn_rt, get_val, get_slot, gets, looks, look, lookL, put, Option.bind_some, asB, asI, wipeE, backE, List.map_cons, List.map_nil, List.length_cons, List.length_nil, List.replicate, List.cons_append, List.nil_append, List.set_cons_zero, List.set_cons_succ, Nat.reduceAdd, Nat.reduceSub, add_ii, sub_ii, neg_i, lt_ii, le_ii, gt_ii, ge_ii, eq_ii, ne_ii, eq_bb, ne_bb, int_i, int_b, abs_i, len_l, len_f, len_t, list_l, list_t, tuple_l, tuple_t, not_b, truth_b, truth_i, ix_l, ix_f, ix_t, cut_l, min_ii, max_ii, gN, gT, gTs, at_0, at_1, at_2, at_3, decide_eq_true_eq, Bool.not_true, Bool.not_false, Bool.false_eq_true, Int.reduceEq, Int.reduceNeg, Int.reduceLT, Int.reduceLE, Int.reduceAdd, Int.reduceSub, D.int.injEq, D.bl.injEq, reduceCtorEq, ne_eq, not_true_eq_false, not_false_eq_true, List.getElem?_cons_succ, List.getElem?_cons_zero, Option.getD_some, Option.getD_none, ↓xp_chain, ↓nxS_nx, iter_l, iter_t, ↓xp_chain3, ↓wp_yes, ↓xp_iR3, ↓xp_iEn, ↓xp_iEn2, ↓xp_mut2, ↓xp_putD, ↓xp_dic0, lookD, kOf, enum_l, enum_s, listA_l, listA_f, listA_t, notT_b, hs, ha]
        exact ⟨_, rfl⟩
    · obtain ⟨z2, rfl⟩ := ww
      rw [List.length_map, List.take_length]
      exact ⟨_, rfl⟩
  rintro ε ⟨z2, rfl⟩
  simp only [↓wp_run, startE, ↓wp_sSeq, ↓thenS_nx, ↓thenS_rt, ↓thenS_bk, ↓thenS_ct, ↓xp_sSet, ↓xp_sDo, ↓xp_sRet, ↓wp_sIf, ↓wp_sNil, ↓wp_sBrk, ↓wp_sCnt, ↓xp_sAsg, ↓xp_sPar, ↓xp_sSetIx, ↓wp_sFor, ↓xp_tB, ↓xp_tTru, ↓wp_tNot, ↓wp_tAnd, ↓wp_tOr, ↓xp_wpV, ↓wp_C, ↓xp_V, ↓wp_O, ↓xp_R, ↓xp_e1, ↓xp_e2, ↓wp_if, ↓xp_and, ↓xp_or, ↓wp_lst, ↓wp_tup, ↓wp_nil, ↓xp_cons, ↓xp_call0, ↓xp_call1, ↓wp_anil, ↓wp_av, ↓wp_aw, ↓xp_mut1, ↓xp_mut0, ↓xp_cut, ↓wpP_none, ↓xp_psome, ↓xp_iA, ↓xp_iR1, ↓xp_iR2, exO_some, ↓reduceIte, ↓xp_end_rt, ↓xp_end_nx, ↓turn_nx, ↓turn_ct, ↓turn_bk, ↓turn_rt, get_val, get_slot, gets, looks, look, lookL, put, Option.bind_some, asB, asI, wipeE, backE, List.map_cons, List.map_nil, List.length_cons, List.length_nil, List.replicate, List.cons_append, List.nil_append, List.set_cons_zero, List.set_cons_succ, Nat.reduceAdd, Nat.reduceSub, add_ii, sub_ii, neg_i, lt_ii, le_ii, gt_ii, ge_ii, eq_ii, ne_ii, eq_bb, ne_bb, int_i, int_b, abs_i, len_l, len_f, len_t, list_l, list_t, tuple_l, tuple_t, not_b, truth_b, truth_i, ix_l, ix_f, ix_t, cut_l, min_ii, max_ii, gN, gT, gTs, at_0, at_1, at_2, at_3, decide_eq_true_eq, Bool.not_true, Bool.not_false, Bool.false_eq_true, Int.reduceEq, Int.reduceNeg, Int.reduceLT, Int.reduceLE, Int.reduceAdd, Int.reduceSub, D.int.injEq, D.bl.injEq, reduceCtorEq, ne_eq, not_true_eq_false, not_false_eq_true, List.getElem?_cons_succ, List.getElem?_cons_zero, Option.getD_some, Option.getD_none, ↓xp_chain, ↓nxS_nx, iter_l, iter_t, ↓xp_chain3, ↓wp_yes, ↓xp_iR3, ↓xp_iEn, ↓xp_iEn2, ↓xp_mut2, ↓xp_putD, ↓xp_dic0, lookD, kOf, enum_l, enum_s, listA_l, listA_f, listA_t, notT_b, and_self]
theorem sl_at {X : List (List Nat)} {r : Nat} (h : r < X.length) : atI (sl X) ((r : Nat) : Int) = some (.str (X.getD r [])) := at_nat (by unfold sl; rw [List.getElem?_map, List.getD_eq_getElem?_getD, List.getElem?_eq_getElem h]; rfl)
theorem str_at {w : List Nat} {c : Nat} (h : c < w.length) (h2 : w.length ≤ 100) : dIx (.str w) (.int ((c : Nat) : Int)) = some (.str [w.getD c 0]) := ix_s (by omega) (at_nat (by rw [List.getD_eq_getElem?_getD, List.getElem?_eq_getElem h]; rfl))
theorem getD_mem {X : List (List Nat)} {r : Nat} (h : r < X.length) : X.getD r [] ∈ X := by
  rw [List.getD_eq_getElem?_getD, List.getElem?_eq_getElem h]; exact List.getElem_mem h
theorem app_sl {X : List (List Nat)} {w : List Nat} (h : X.length ≤ 1000) : fApp (sl X) (.str w) = some (sl (X ++ [w]), .non) := by
  rw [app_ok (by rw [sl_len]; omega)]; simp [sl]
theorem turned_eq {R C : Nat} {t : TT} (h : Sz R C) (hv : Vt R C t) : u_law_turned_f [mD R C t] = some (mD C R (tuT R C t), []) := by
  obtain ⟨h1, h2, h3, h4⟩ := h
  obtain ⟨v1, v2, v3, v4⟩ := hv
  rw [wpF_iff]
  unfold u_law_turned_f u_law_turned_b
  rw [wp_run]
  have hbR : inB (R : Nat) = true := inb (by omega) (by omega)
  have hbR1 : inB (((R : Nat) : Int) - 1) = true := inb (by omega) (by omega)
  have hbC : inB (C : Nat) = true := inb (by omega) (by omega)
  let P := fun c m => (List.range m).map fun r => (t.2.getD r []).getD c 0
  let Q := fun c m => (List.range m).map fun r => (t.1.getD r []).getD c 0
  let F := fun c => (List.range c).map fun c => P c (R - 1)
  let G := fun c => (List.range c).map fun c => Q c R
  refine wp_seq_of (fun ε => ε = [some (mD R C t), some (.int (R : Nat)), some (.int (C : Nat)), some (.lst (sl t.1)), some (.lst (sl t.2)), none, none, none, none, none]) (by simp only [↓wp_run, startE, ↓wp_sSeq, ↓thenS_nx, ↓thenS_rt, ↓thenS_bk, ↓thenS_ct, ↓xp_sSet, ↓xp_sDo, ↓xp_sRet, ↓wp_sIf, ↓wp_sNil, ↓wp_sBrk, ↓wp_sCnt, ↓xp_sAsg, ↓xp_sPar, ↓xp_sSetIx, ↓wp_sFor, ↓xp_tB, ↓xp_tTru, ↓wp_tNot, ↓wp_tAnd, ↓wp_tOr, ↓xp_wpV, ↓wp_C, ↓xp_V, ↓wp_O, ↓xp_R, ↓xp_e1, ↓xp_e2, ↓wp_if, ↓xp_and, ↓xp_or, ↓wp_lst, ↓wp_tup, ↓wp_nil, ↓xp_cons, ↓xp_call0, ↓xp_call1, ↓wp_anil, ↓wp_av, ↓wp_aw, ↓xp_mut1, ↓xp_mut0, ↓xp_cut, ↓wpP_none, ↓xp_psome, ↓xp_iA, ↓xp_iR1, ↓xp_iR2, exO_some, ↓reduceIte, ↓xp_end_rt, ↓xp_end_nx, ↓turn_nx, ↓turn_ct, ↓turn_bk, ↓turn_rt, get_val, get_slot, gets, looks, look, lookL, put, Option.bind_some, asB, asI, wipeE, backE, List.map_cons, List.map_nil, List.length_cons, List.length_nil, List.replicate, List.cons_append, List.nil_append, List.set_cons_zero, List.set_cons_succ, Nat.reduceAdd, Nat.reduceSub, add_ii, sub_ii, neg_i, lt_ii, le_ii, gt_ii, ge_ii, eq_ii, ne_ii, eq_bb, ne_bb, int_i, int_b, abs_i, len_l, len_f, len_t, list_l, list_t, tuple_l, tuple_t, not_b, truth_b, truth_i, ix_l, ix_f, ix_t, cut_l, min_ii, max_ii, gN, gT, gTs, at_0, at_1, at_2, at_3, decide_eq_true_eq, Bool.not_true, Bool.not_false, Bool.false_eq_true, Int.reduceEq, Int.reduceNeg, Int.reduceLT, Int.reduceLE, Int.reduceAdd, Int.reduceSub, D.int.injEq, D.bl.injEq, reduceCtorEq, ne_eq, not_true_eq_false, not_false_eq_true, List.getElem?_cons_succ, List.getElem?_cons_zero, Option.getD_some, Option.getD_none, ↓xp_chain, ↓nxS_nx, iter_l, iter_t, ↓xp_chain3, ↓wp_yes, ↓xp_iR3, ↓xp_iEn, ↓xp_iEn2, ↓xp_mut2, ↓xp_putD, ↓xp_dic0, lookD, kOf, enum_l, enum_s, listA_l, listA_f, listA_t, notT_b, mD, gT, gTs, gN, VS.put, List.set_cons_succ, List.set_cons_zero, Option.bind_some]) ?_
  rintro ε rfl
  refine wp_seq_of (fun ε => ε = [some (mD R C t), some (.int (R : Nat)), some (.int (C : Nat)), some (.lst (sl t.1)), some (.lst (sl t.2)), some (.lst (sl (F 0))), none, none, none, none]) (by simp only [↓wp_run, startE, ↓wp_sSeq, ↓thenS_nx, ↓thenS_rt, ↓thenS_bk, ↓thenS_ct, ↓xp_sSet, ↓xp_sDo, ↓xp_sRet, ↓wp_sIf, ↓wp_sNil, ↓wp_sBrk, ↓wp_sCnt, ↓xp_sAsg, ↓xp_sPar, ↓xp_sSetIx, ↓wp_sFor, ↓xp_tB, ↓xp_tTru, ↓wp_tNot, ↓wp_tAnd, ↓wp_tOr, ↓xp_wpV, ↓wp_C, ↓xp_V, ↓wp_O, ↓xp_R, ↓xp_e1, ↓xp_e2, ↓wp_if, ↓xp_and, ↓xp_or, ↓wp_lst, ↓wp_tup, ↓wp_nil, ↓xp_cons, ↓xp_call0, ↓xp_call1, ↓wp_anil, ↓wp_av, ↓wp_aw, ↓xp_mut1, ↓xp_mut0, ↓xp_cut, ↓wpP_none, ↓xp_psome, ↓xp_iA, ↓xp_iR1, ↓xp_iR2, exO_some, ↓reduceIte, ↓xp_end_rt, ↓xp_end_nx, ↓turn_nx, ↓turn_ct, ↓turn_bk, ↓turn_rt, get_val, get_slot, gets, looks, look, lookL, put, Option.bind_some, asB, asI, wipeE, backE, List.map_cons, List.map_nil, List.length_cons, List.length_nil, List.replicate, List.cons_append, List.nil_append, List.set_cons_zero, List.set_cons_succ, Nat.reduceAdd, Nat.reduceSub, add_ii, sub_ii, neg_i, lt_ii, le_ii, gt_ii, ge_ii, eq_ii, ne_ii, eq_bb, ne_bb, int_i, int_b, abs_i, len_l, len_f, len_t, list_l, list_t, tuple_l, tuple_t, not_b, truth_b, truth_i, ix_l, ix_f, ix_t, cut_l, min_ii, max_ii, gN, gT, gTs, at_0, at_1, at_2, at_3, decide_eq_true_eq, Bool.not_true, Bool.not_false, Bool.false_eq_true, Int.reduceEq, Int.reduceNeg, Int.reduceLT, Int.reduceLE, Int.reduceAdd, Int.reduceSub, D.int.injEq, D.bl.injEq, reduceCtorEq, ne_eq, not_true_eq_false, not_false_eq_true, List.getElem?_cons_succ, List.getElem?_cons_zero, Option.getD_some, Option.getD_none, ↓xp_chain, ↓nxS_nx, iter_l, iter_t, ↓xp_chain3, ↓wp_yes, ↓xp_iR3, ↓xp_iEn, ↓xp_iEn2, ↓xp_mut2, ↓xp_putD, ↓xp_dic0, lookD, kOf, enum_l, enum_s, listA_l, listA_f, listA_t, notT_b]; rfl) ?_
  rintro ε rfl
  refine wp_seq_of (fun ε => ε = [some (mD R C t), some (.int (R : Nat)), some (.int (C : Nat)), some (.lst (sl t.1)), some (.lst (sl t.2)), some (.lst (sl (F 0))), some (.lst (sl (G 0))), none, none, none]) (by simp only [↓wp_run, startE, ↓wp_sSeq, ↓thenS_nx, ↓thenS_rt, ↓thenS_bk, ↓thenS_ct, ↓xp_sSet, ↓xp_sDo, ↓xp_sRet, ↓wp_sIf, ↓wp_sNil, ↓wp_sBrk, ↓wp_sCnt, ↓xp_sAsg, ↓xp_sPar, ↓xp_sSetIx, ↓wp_sFor, ↓xp_tB, ↓xp_tTru, ↓wp_tNot, ↓wp_tAnd, ↓wp_tOr, ↓xp_wpV, ↓wp_C, ↓xp_V, ↓wp_O, ↓xp_R, ↓xp_e1, ↓xp_e2, ↓wp_if, ↓xp_and, ↓xp_or, ↓wp_lst, ↓wp_tup, ↓wp_nil, ↓xp_cons, ↓xp_call0, ↓xp_call1, ↓wp_anil, ↓wp_av, ↓wp_aw, ↓xp_mut1, ↓xp_mut0, ↓xp_cut, ↓wpP_none, ↓xp_psome, ↓xp_iA, ↓xp_iR1, ↓xp_iR2, exO_some, ↓reduceIte, ↓xp_end_rt, ↓xp_end_nx, ↓turn_nx, ↓turn_ct, ↓turn_bk, ↓turn_rt, get_val, get_slot, gets, looks, look, lookL, put, Option.bind_some, asB, asI, wipeE, backE, List.map_cons, List.map_nil, List.length_cons, List.length_nil, List.replicate, List.cons_append, List.nil_append, List.set_cons_zero, List.set_cons_succ, Nat.reduceAdd, Nat.reduceSub, add_ii, sub_ii, neg_i, lt_ii, le_ii, gt_ii, ge_ii, eq_ii, ne_ii, eq_bb, ne_bb, int_i, int_b, abs_i, len_l, len_f, len_t, list_l, list_t, tuple_l, tuple_t, not_b, truth_b, truth_i, ix_l, ix_f, ix_t, cut_l, min_ii, max_ii, gN, gT, gTs, at_0, at_1, at_2, at_3, decide_eq_true_eq, Bool.not_true, Bool.not_false, Bool.false_eq_true, Int.reduceEq, Int.reduceNeg, Int.reduceLT, Int.reduceLE, Int.reduceAdd, Int.reduceSub, D.int.injEq, D.bl.injEq, reduceCtorEq, ne_eq, not_true_eq_false, not_false_eq_true, List.getElem?_cons_succ, List.getElem?_cons_zero, Option.getD_some, Option.getD_none, ↓xp_chain, ↓nxS_nx, iter_l, iter_t, ↓xp_chain3, ↓wp_yes, ↓xp_iR3, ↓xp_iEn, ↓xp_iEn2, ↓xp_mut2, ↓xp_putD, ↓xp_dic0, lookD, kOf, enum_l, enum_s, listA_l, listA_f, listA_t, notT_b]; rfl) ?_
  rintro ε rfl
  refine wp_seq_of (fun ε => ∃ z7 z8 z9, ε = [some (mD R C t), some (.int (R : Nat)), some (.int (C : Nat)), some (.lst (sl t.1)), some (.lst (sl t.2)), some (.lst (sl (F C))), some (.lst (sl (G (C - 1)))), z7, z8, z9]) ?_ ?_
  · simp only [↓wp_run, startE, ↓wp_sSeq, ↓thenS_nx, ↓thenS_rt, ↓thenS_bk, ↓thenS_ct, ↓xp_sSet, ↓xp_sDo, ↓xp_sRet, ↓wp_sIf, ↓wp_sNil, ↓wp_sBrk, ↓wp_sCnt, ↓xp_sAsg, ↓xp_sPar, ↓xp_sSetIx, ↓wp_sFor, ↓xp_tB, ↓xp_tTru, ↓wp_tNot, ↓wp_tAnd, ↓wp_tOr, ↓xp_wpV, ↓wp_C, ↓xp_V, ↓wp_O, ↓xp_R, ↓xp_e1, ↓xp_e2, ↓wp_if, ↓xp_and, ↓xp_or, ↓wp_lst, ↓wp_tup, ↓wp_nil, ↓xp_cons, ↓xp_call0, ↓xp_call1, ↓wp_anil, ↓wp_av, ↓wp_aw, ↓xp_mut1, ↓xp_mut0, ↓xp_cut, ↓wpP_none, ↓xp_psome, ↓xp_iA, ↓xp_iR1, ↓xp_iR2, exO_some, ↓reduceIte, ↓xp_end_rt, ↓xp_end_nx, ↓turn_nx, ↓turn_ct, ↓turn_bk, ↓turn_rt, get_val, get_slot, gets, looks, look, lookL, put, Option.bind_some, asB, asI, wipeE, backE, List.map_cons, List.map_nil, List.length_cons, List.length_nil, List.replicate, List.cons_append, List.nil_append, List.set_cons_zero, List.set_cons_succ, Nat.reduceAdd, Nat.reduceSub, add_ii, sub_ii, neg_i, lt_ii, le_ii, gt_ii, ge_ii, eq_ii, ne_ii, eq_bb, ne_bb, int_i, int_b, abs_i, len_l, len_f, len_t, list_l, list_t, tuple_l, tuple_t, not_b, truth_b, truth_i, ix_l, ix_f, ix_t, cut_l, min_ii, max_ii, gN, gT, gTs, at_0, at_1, at_2, at_3, decide_eq_true_eq, Bool.not_true, Bool.not_false, Bool.false_eq_true, Int.reduceEq, Int.reduceNeg, Int.reduceLT, Int.reduceLE, Int.reduceAdd, Int.reduceSub, D.int.injEq, D.bl.injEq, reduceCtorEq, ne_eq, not_true_eq_false, not_false_eq_true, List.getElem?_cons_succ, List.getElem?_cons_zero, Option.getD_some, Option.getD_none, ↓xp_chain, ↓nxS_nx, iter_l, iter_t, ↓xp_chain3, ↓wp_yes, ↓xp_iR3, ↓xp_iEn, ↓xp_iEn2, ↓xp_mut2, ↓xp_putD, ↓xp_dic0, lookD, kOf, enum_l, enum_s, listA_l, listA_f, listA_t, notT_b]
    refine ⟨hbC, ?_⟩
    rw [Int.toNat_natCast]
    refine wp_for (fun c ε => ∃ z7 z8 z9, ε = [some (mD R C t), some (.int (R : Nat)), some (.int (C : Nat)), some (.lst (sl t.1)), some (.lst (sl t.2)), some (.lst (sl (F c))), some (.lst (sl (G (min c (C - 1))))), z7, z8, z9]) ⟨_, _, _, by rw [Nat.zero_min]⟩ (fun c z ε hd w => ?_) (fun ε w => ?_)
    · obtain ⟨z7, z8, z9, rfl⟩ := w
      obtain ⟨hc, rfl⟩ := rangeL_get hd
      rw [show (0 : Int) + (c : Nat) * 1 = (c : Nat) by omega]
      refine ⟨_, rfl, ?_⟩
      simp only [gN, VS.put, List.set_cons_succ, List.set_cons_zero]
      rw [show min c (C - 1) = c by omega]
      have hFl : (F c).length ≤ 10 := by simp only [F]; rw [List.length_map, List.length_range]; omega
      have hGl : (G c).length ≤ 10 := by simp only [G]; rw [List.length_map, List.length_range]; omega
      have hF : F (c + 1) = F c ++ [P c (R - 1)] := by simp only [F]; rw [List.range_succ, List.map_append]; rfl
      have hG : G (c + 1) = G c ++ [Q c R] := by simp only [G]; rw [List.range_succ, List.map_append]; rfl
      refine wp_seq_of (fun ε => ε = [some (mD R C t), some (.int (R : Nat)), some (.int (C : Nat)), some (.lst (sl t.1)), some (.lst (sl t.2)), some (.lst (sl (F c))), some (.lst (sl (G c))), some (.int (c : Nat)), some (.str (P c 0)), z9]) (by simp only [↓wp_run, startE, ↓wp_sSeq, ↓thenS_nx, ↓thenS_rt, ↓thenS_bk, ↓thenS_ct, ↓xp_sSet, ↓xp_sDo, ↓xp_sRet, ↓wp_sIf, ↓wp_sNil, ↓wp_sBrk, ↓wp_sCnt, ↓xp_sAsg, ↓xp_sPar, ↓xp_sSetIx, ↓wp_sFor, ↓xp_tB, ↓xp_tTru, ↓wp_tNot, ↓wp_tAnd, ↓wp_tOr, ↓xp_wpV, ↓wp_C, ↓xp_V, ↓wp_O, ↓xp_R, ↓xp_e1, ↓xp_e2, ↓wp_if, ↓xp_and, ↓xp_or, ↓wp_lst, ↓wp_tup, ↓wp_nil, ↓xp_cons, ↓xp_call0, ↓xp_call1, ↓wp_anil, ↓wp_av, ↓wp_aw, ↓xp_mut1, ↓xp_mut0, ↓xp_cut, ↓wpP_none, ↓xp_psome, ↓xp_iA, ↓xp_iR1, ↓xp_iR2, exO_some, ↓reduceIte, ↓xp_end_rt, ↓xp_end_nx, ↓turn_nx, ↓turn_ct, ↓turn_bk, ↓turn_rt, get_val, get_slot, gets, looks, look, lookL, put, Option.bind_some, asB, asI, wipeE, backE, List.map_cons, List.map_nil, List.length_cons, List.length_nil, List.replicate, List.cons_append, List.nil_append, List.set_cons_zero, List.set_cons_succ, Nat.reduceAdd, Nat.reduceSub, add_ii, sub_ii, neg_i, lt_ii, le_ii, gt_ii, ge_ii, eq_ii, ne_ii, eq_bb, ne_bb, int_i, int_b, abs_i, len_l, len_f, len_t, list_l, list_t, tuple_l, tuple_t, not_b, truth_b, truth_i, ix_l, ix_f, ix_t, cut_l, min_ii, max_ii, gN, gT, gTs, at_0, at_1, at_2, at_3, decide_eq_true_eq, Bool.not_true, Bool.not_false, Bool.false_eq_true, Int.reduceEq, Int.reduceNeg, Int.reduceLT, Int.reduceLE, Int.reduceAdd, Int.reduceSub, D.int.injEq, D.bl.injEq, reduceCtorEq, ne_eq, not_true_eq_false, not_false_eq_true, List.getElem?_cons_succ, List.getElem?_cons_zero, Option.getD_some, Option.getD_none, ↓xp_chain, ↓nxS_nx, iter_l, iter_t, ↓xp_chain3, ↓wp_yes, ↓xp_iR3, ↓xp_iEn, ↓xp_iEn2, ↓xp_mut2, ↓xp_putD, ↓xp_dic0, lookD, kOf, enum_l, enum_s, listA_l, listA_f, listA_t, notT_b]; rfl) ?_
      rintro ε rfl
      refine wp_seq_of (fun ε => ∃ z9, ε = [some (mD R C t), some (.int (R : Nat)), some (.int (C : Nat)), some (.lst (sl t.1)), some (.lst (sl t.2)), some (.lst (sl (F c))), some (.lst (sl (G c))), some (.int (c : Nat)), some (.str (P c (R - 1))), z9]) ?_ ?_
      · simp only [↓wp_run, startE, ↓wp_sSeq, ↓thenS_nx, ↓thenS_rt, ↓thenS_bk, ↓thenS_ct, ↓xp_sSet, ↓xp_sDo, ↓xp_sRet, ↓wp_sIf, ↓wp_sNil, ↓wp_sBrk, ↓wp_sCnt, ↓xp_sAsg, ↓xp_sPar, ↓xp_sSetIx, ↓wp_sFor, ↓xp_tB, ↓xp_tTru, ↓wp_tNot, ↓wp_tAnd, ↓wp_tOr, ↓xp_wpV, ↓wp_C, ↓xp_V, ↓wp_O, ↓xp_R, ↓xp_e1, ↓xp_e2, ↓wp_if, ↓xp_and, ↓xp_or, ↓wp_lst, ↓wp_tup, ↓wp_nil, ↓xp_cons, ↓xp_call0, ↓xp_call1, ↓wp_anil, ↓wp_av, ↓wp_aw, ↓xp_mut1, ↓xp_mut0, ↓xp_cut, ↓wpP_none, ↓xp_psome, ↓xp_iA, ↓xp_iR1, ↓xp_iR2, exO_some, ↓reduceIte, ↓xp_end_rt, ↓xp_end_nx, ↓turn_nx, ↓turn_ct, ↓turn_bk, ↓turn_rt, get_val, get_slot, gets, looks, look, lookL, put, Option.bind_some, asB, asI, wipeE, backE, List.map_cons, List.map_nil, List.length_cons, List.length_nil, List.replicate, List.cons_append, List.nil_append, List.set_cons_zero, List.set_cons_succ, Nat.reduceAdd, Nat.reduceSub, add_ii, sub_ii, neg_i, lt_ii, le_ii, gt_ii, ge_ii, eq_ii, ne_ii, eq_bb, ne_bb, int_i, int_b, abs_i, len_l, len_f, len_t, list_l, list_t, tuple_l, tuple_t, not_b, truth_b, truth_i, ix_l, ix_f, ix_t, cut_l, min_ii, max_ii, gN, gT, gTs, at_0, at_1, at_2, at_3, decide_eq_true_eq, Bool.not_true, Bool.not_false, Bool.false_eq_true, Int.reduceEq, Int.reduceNeg, Int.reduceLT, Int.reduceLE, Int.reduceAdd, Int.reduceSub, D.int.injEq, D.bl.injEq, reduceCtorEq, ne_eq, not_true_eq_false, not_false_eq_true, List.getElem?_cons_succ, List.getElem?_cons_zero, Option.getD_some, Option.getD_none, ↓xp_chain, ↓nxS_nx, iter_l, iter_t, ↓xp_chain3, ↓wp_yes, ↓xp_iR3, ↓xp_iEn, ↓xp_iEn2, ↓xp_mut2, ↓xp_putD, ↓xp_dic0, lookD, kOf, enum_l, enum_s, listA_l, listA_f, listA_t, notT_b]
        refine ⟨hbR1, ?_⟩
        rw [show (((R : Nat) : Int) - 1).toNat = R - 1 by omega]
        refine wp_for (fun r ε => ∃ z9, ε = [some (mD R C t), some (.int (R : Nat)), some (.int (C : Nat)), some (.lst (sl t.1)), some (.lst (sl t.2)), some (.lst (sl (F c))), some (.lst (sl (G c))), some (.int (c : Nat)), some (.str (P c r)), z9]) ⟨_, rfl⟩ (fun r z ε hd w => ?_) (fun ε w => ?_)
        · obtain ⟨z9, rfl⟩ := w
          obtain ⟨hr, rfl⟩ := rangeL_get hd
          rw [show (0 : Int) + (r : Nat) * 1 = (r : Nat) by omega]
          refine ⟨_, rfl, ?_⟩
          have a1 := sl_at (X := t.2) (r := r) (by omega)
          have hw := (v4 _ (getD_mem (X := t.2) (r := r) (by omega))).1
          have a2 := str_at (w := t.2.getD r []) (c := c) (by omega) (by omega)
          have ha : dAdd (.str (P c r)) (.str [(t.2.getD r []).getD c 0]) = some (.str (P c (r + 1))) := by
            rw [add_ss (by simp only [P]; rw [List.length_map, List.length_range, List.length_singleton]; omega)]
            simp only [P]
            rw [List.range_succ, List.map_append]; rfl
          simp only [↓wp_run, startE, ↓wp_sSeq, ↓thenS_nx, ↓thenS_rt, ↓thenS_bk, ↓thenS_ct, ↓xp_sSet, ↓xp_sDo, ↓xp_sRet, ↓wp_sIf, ↓wp_sNil, ↓wp_sBrk, ↓wp_sCnt, ↓xp_sAsg, ↓xp_sPar, ↓xp_sSetIx, ↓wp_sFor, ↓xp_tB, ↓xp_tTru, ↓wp_tNot, ↓wp_tAnd, ↓wp_tOr, ↓xp_wpV, ↓wp_C, ↓xp_V, ↓wp_O, ↓xp_R, ↓xp_e1, ↓xp_e2, ↓wp_if, ↓xp_and, ↓xp_or, ↓wp_lst, ↓wp_tup, ↓wp_nil, ↓xp_cons, ↓xp_call0, ↓xp_call1, ↓wp_anil, ↓wp_av, ↓wp_aw, ↓xp_mut1, ↓xp_mut0, ↓xp_cut, ↓wpP_none, ↓xp_psome, ↓xp_iA, ↓xp_iR1, ↓xp_iR2, exO_some, ↓reduceIte, ↓xp_end_rt, ↓xp_end_nx, ↓turn_nx, ↓turn_ct, ↓turn_bk, ↓turn_rt, get_val, get_slot, gets, looks, look, lookL, put, Option.bind_some, asB, asI, wipeE, backE, List.map_cons, List.map_nil, List.length_cons, List.length_nil, List.replicate, List.cons_append, List.nil_append, List.set_cons_zero, List.set_cons_succ, Nat.reduceAdd, Nat.reduceSub, add_ii, sub_ii, neg_i, lt_ii, le_ii, gt_ii, ge_ii, eq_ii, ne_ii, eq_bb, ne_bb, int_i, int_b, abs_i, len_l, len_f, len_t, list_l, list_t, tuple_l, tuple_t, not_b, truth_b, truth_i, ix_l, ix_f, ix_t, cut_l, min_ii, max_ii, gN, gT, gTs, at_0, at_1, at_2, at_3, decide_eq_true_eq, Bool.not_true, Bool.not_false, Bool.false_eq_true, Int.reduceEq, Int.reduceNeg, Int.reduceLT, Int.reduceLE, Int.reduceAdd, Int.reduceSub, D.int.injEq, D.bl.injEq, reduceCtorEq, ne_eq, not_true_eq_false, not_false_eq_true, List.getElem?_cons_succ, List.getElem?_cons_zero, Option.getD_some, Option.getD_none, ↓xp_chain, ↓nxS_nx, iter_l, iter_t, ↓xp_chain3, ↓wp_yes, ↓xp_iR3, ↓xp_iEn, ↓xp_iEn2, ↓xp_mut2, ↓xp_putD, ↓xp_dic0, lookD, kOf, enum_l, enum_s, listA_l, listA_f, listA_t, notT_b, a1, a2, ha]
          exact ⟨_, rfl⟩
        · obtain ⟨z9, rfl⟩ := w
          rw [rangeL_len]
          exact ⟨_, rfl⟩
      rintro ε ⟨z9, rfl⟩
      have ap1 := app_sl (X := F c) (w := P c (R - 1)) (by omega)
      rw [← hF] at ap1
      refine wp_seq_of (fun ε => ε = [some (mD R C t), some (.int (R : Nat)), some (.int (C : Nat)), some (.lst (sl t.1)), some (.lst (sl t.2)), some (.lst (sl (F (c + 1)))), some (.lst (sl (G c))), some (.int (c : Nat)), some (.str (P c (R - 1))), z9]) (by simp only [↓wp_run, startE, ↓wp_sSeq, ↓thenS_nx, ↓thenS_rt, ↓thenS_bk, ↓thenS_ct, ↓xp_sSet, ↓xp_sDo, ↓xp_sRet, ↓wp_sIf, ↓wp_sNil, ↓wp_sBrk, ↓wp_sCnt, ↓xp_sAsg, ↓xp_sPar, ↓xp_sSetIx, ↓wp_sFor, ↓xp_tB, ↓xp_tTru, ↓wp_tNot, ↓wp_tAnd, ↓wp_tOr, ↓xp_wpV, ↓wp_C, ↓xp_V, ↓wp_O, ↓xp_R, ↓xp_e1, ↓xp_e2, ↓wp_if, ↓xp_and, ↓xp_or, ↓wp_lst, ↓wp_tup, ↓wp_nil, ↓xp_cons, ↓xp_call0, ↓xp_call1, ↓wp_anil, ↓wp_av, ↓wp_aw, ↓xp_mut1, ↓xp_mut0, ↓xp_cut, ↓wpP_none, ↓xp_psome, ↓xp_iA, ↓xp_iR1, ↓xp_iR2, exO_some, ↓reduceIte, ↓xp_end_rt, ↓xp_end_nx, ↓turn_nx, ↓turn_ct, ↓turn_bk, ↓turn_rt, get_val, get_slot, gets, looks, look, lookL, put, Option.bind_some, asB, asI, wipeE, backE, List.map_cons, List.map_nil, List.length_cons, List.length_nil, List.replicate, List.cons_append, List.nil_append, List.set_cons_zero, List.set_cons_succ, Nat.reduceAdd, Nat.reduceSub, add_ii, sub_ii, neg_i, lt_ii, le_ii, gt_ii, ge_ii, eq_ii, ne_ii, eq_bb, ne_bb, int_i, int_b, abs_i, len_l, len_f, len_t, list_l, list_t, tuple_l, tuple_t, not_b, truth_b, truth_i, ix_l, ix_f, ix_t, cut_l, min_ii, max_ii, gN, gT, gTs, at_0, at_1, at_2, at_3, decide_eq_true_eq, Bool.not_true, Bool.not_false, Bool.false_eq_true, Int.reduceEq, Int.reduceNeg, Int.reduceLT, Int.reduceLE, Int.reduceAdd, Int.reduceSub, D.int.injEq, D.bl.injEq, reduceCtorEq, ne_eq, not_true_eq_false, not_false_eq_true, List.getElem?_cons_succ, List.getElem?_cons_zero, Option.getD_some, Option.getD_none, ↓xp_chain, ↓nxS_nx, iter_l, iter_t, ↓xp_chain3, ↓wp_yes, ↓xp_iR3, ↓xp_iEn, ↓xp_iEn2, ↓xp_mut2, ↓xp_putD, ↓xp_dic0, lookD, kOf, enum_l, enum_s, listA_l, listA_f, listA_t, notT_b, ap1]) ?_
      rintro ε rfl
      by_cases q : c + 1 < C
      · have q' : ((c : Nat) : Int) + 1 < ((C : Nat) : Int) := by omega
        have ht : wpT (VS.tB (e2 dLt (e2 dAdd (eV 7) (eC (.int 1))) (eV 2))) [some (mD R C t), some (.int (R : Nat)), some (.int (C : Nat)), some (.lst (sl t.1)), some (.lst (sl t.2)), some (.lst (sl (F (c + 1)))), some (.lst (sl (G c))), some (.int (c : Nat)), some (.str (P c (R - 1))), z9] (fun b ε => b = true ∧ ε = [some (mD R C t), some (.int (R : Nat)), some (.int (C : Nat)), some (.lst (sl t.1)), some (.lst (sl t.2)), some (.lst (sl (F (c + 1)))), some (.lst (sl (G c))), some (.int (c : Nat)), some (.str (P c (R - 1))), z9]) := by simp only [↓wp_run, startE, ↓wp_sSeq, ↓thenS_nx, ↓thenS_rt, ↓thenS_bk, ↓thenS_ct, ↓xp_sSet, ↓xp_sDo, ↓xp_sRet, ↓wp_sIf, ↓wp_sNil, ↓wp_sBrk, ↓wp_sCnt, ↓xp_sAsg, ↓xp_sPar, ↓xp_sSetIx, ↓wp_sFor, ↓xp_tB, ↓xp_tTru, ↓wp_tNot, ↓wp_tAnd, ↓wp_tOr, ↓xp_wpV, ↓wp_C, ↓xp_V, ↓wp_O, ↓xp_R, ↓xp_e1, ↓xp_e2, ↓wp_if, ↓xp_and, ↓xp_or, ↓wp_lst, ↓wp_tup, ↓wp_nil, ↓xp_cons, ↓xp_call0, ↓xp_call1, ↓wp_anil, ↓wp_av, ↓wp_aw, ↓xp_mut1, ↓xp_mut0, ↓xp_cut, ↓wpP_none, ↓xp_psome, ↓xp_iA, ↓xp_iR1, ↓xp_iR2, exO_some, ↓reduceIte, ↓xp_end_rt, ↓xp_end_nx, ↓turn_nx, ↓turn_ct, ↓turn_bk, ↓turn_rt, get_val, get_slot, gets, looks, look, lookL, put, Option.bind_some, asB, asI, wipeE, backE, List.map_cons, List.map_nil, List.length_cons, List.length_nil, List.replicate, List.cons_append, List.nil_append, List.set_cons_zero, List.set_cons_succ, Nat.reduceAdd, Nat.reduceSub, add_ii, sub_ii, neg_i, lt_ii, le_ii, gt_ii, ge_ii, eq_ii, ne_ii, eq_bb, ne_bb, int_i, int_b, abs_i, len_l, len_f, len_t, list_l, list_t, tuple_l, tuple_t, not_b, truth_b, truth_i, ix_l, ix_f, ix_t, cut_l, min_ii, max_ii, gN, gT, gTs, at_0, at_1, at_2, at_3, decide_eq_true_eq, Bool.not_true, Bool.not_false, Bool.false_eq_true, Int.reduceEq, Int.reduceNeg, Int.reduceLT, Int.reduceLE, Int.reduceAdd, Int.reduceSub, D.int.injEq, D.bl.injEq, reduceCtorEq, ne_eq, not_true_eq_false, not_false_eq_true, List.getElem?_cons_succ, List.getElem?_cons_zero, Option.getD_some, Option.getD_none, ↓xp_chain, ↓nxS_nx, iter_l, iter_t, ↓xp_chain3, ↓wp_yes, ↓xp_iR3, ↓xp_iEn, ↓xp_iEn2, ↓xp_mut2, ↓xp_putD, ↓xp_dic0, lookD, kOf, enum_l, enum_s, listA_l, listA_f, listA_t, notT_b, q', decide_true, and_self]
        refine wp_sIf.mpr ?_
        obtain ⟨b, ε', e, rfl, rfl⟩ := ht
        refine ⟨_, _, e, ?_⟩
        simp only [if_true]
        refine wp_seq_of (fun ε => ε = [some (mD R C t), some (.int (R : Nat)), some (.int (C : Nat)), some (.lst (sl t.1)), some (.lst (sl t.2)), some (.lst (sl (F (c + 1)))), some (.lst (sl (G c))), some (.int (c : Nat)), some (.str (Q c 0)), z9]) (by simp only [↓wp_run, startE, ↓wp_sSeq, ↓thenS_nx, ↓thenS_rt, ↓thenS_bk, ↓thenS_ct, ↓xp_sSet, ↓xp_sDo, ↓xp_sRet, ↓wp_sIf, ↓wp_sNil, ↓wp_sBrk, ↓wp_sCnt, ↓xp_sAsg, ↓xp_sPar, ↓xp_sSetIx, ↓wp_sFor, ↓xp_tB, ↓xp_tTru, ↓wp_tNot, ↓wp_tAnd, ↓wp_tOr, ↓xp_wpV, ↓wp_C, ↓xp_V, ↓wp_O, ↓xp_R, ↓xp_e1, ↓xp_e2, ↓wp_if, ↓xp_and, ↓xp_or, ↓wp_lst, ↓wp_tup, ↓wp_nil, ↓xp_cons, ↓xp_call0, ↓xp_call1, ↓wp_anil, ↓wp_av, ↓wp_aw, ↓xp_mut1, ↓xp_mut0, ↓xp_cut, ↓wpP_none, ↓xp_psome, ↓xp_iA, ↓xp_iR1, ↓xp_iR2, exO_some, ↓reduceIte, ↓xp_end_rt, ↓xp_end_nx, ↓turn_nx, ↓turn_ct, ↓turn_bk, ↓turn_rt, get_val, get_slot, gets, looks, look, lookL, put, Option.bind_some, asB, asI, wipeE, backE, List.map_cons, List.map_nil, List.length_cons, List.length_nil, List.replicate, List.cons_append, List.nil_append, List.set_cons_zero, List.set_cons_succ, Nat.reduceAdd, Nat.reduceSub, add_ii, sub_ii, neg_i, lt_ii, le_ii, gt_ii, ge_ii, eq_ii, ne_ii, eq_bb, ne_bb, int_i, int_b, abs_i, len_l, len_f, len_t, list_l, list_t, tuple_l, tuple_t, not_b, truth_b, truth_i, ix_l, ix_f, ix_t, cut_l, min_ii, max_ii, gN, gT, gTs, at_0, at_1, at_2, at_3, decide_eq_true_eq, Bool.not_true, Bool.not_false, Bool.false_eq_true, Int.reduceEq, Int.reduceNeg, Int.reduceLT, Int.reduceLE, Int.reduceAdd, Int.reduceSub, D.int.injEq, D.bl.injEq, reduceCtorEq, ne_eq, not_true_eq_false, not_false_eq_true, List.getElem?_cons_succ, List.getElem?_cons_zero, Option.getD_some, Option.getD_none, ↓xp_chain, ↓nxS_nx, iter_l, iter_t, ↓xp_chain3, ↓wp_yes, ↓xp_iR3, ↓xp_iEn, ↓xp_iEn2, ↓xp_mut2, ↓xp_putD, ↓xp_dic0, lookD, kOf, enum_l, enum_s, listA_l, listA_f, listA_t, notT_b]; rfl) ?_
        rintro ε rfl
        refine wp_seq_of (fun ε => ∃ z9, ε = [some (mD R C t), some (.int (R : Nat)), some (.int (C : Nat)), some (.lst (sl t.1)), some (.lst (sl t.2)), some (.lst (sl (F (c + 1)))), some (.lst (sl (G c))), some (.int (c : Nat)), some (.str (Q c R)), z9]) ?_ ?_
        · simp only [↓wp_run, startE, ↓wp_sSeq, ↓thenS_nx, ↓thenS_rt, ↓thenS_bk, ↓thenS_ct, ↓xp_sSet, ↓xp_sDo, ↓xp_sRet, ↓wp_sIf, ↓wp_sNil, ↓wp_sBrk, ↓wp_sCnt, ↓xp_sAsg, ↓xp_sPar, ↓xp_sSetIx, ↓wp_sFor, ↓xp_tB, ↓xp_tTru, ↓wp_tNot, ↓wp_tAnd, ↓wp_tOr, ↓xp_wpV, ↓wp_C, ↓xp_V, ↓wp_O, ↓xp_R, ↓xp_e1, ↓xp_e2, ↓wp_if, ↓xp_and, ↓xp_or, ↓wp_lst, ↓wp_tup, ↓wp_nil, ↓xp_cons, ↓xp_call0, ↓xp_call1, ↓wp_anil, ↓wp_av, ↓wp_aw, ↓xp_mut1, ↓xp_mut0, ↓xp_cut, ↓wpP_none, ↓xp_psome, ↓xp_iA, ↓xp_iR1, ↓xp_iR2, exO_some, ↓reduceIte, ↓xp_end_rt, ↓xp_end_nx, ↓turn_nx, ↓turn_ct, ↓turn_bk, ↓turn_rt, get_val, get_slot, gets, looks, look, lookL, put, Option.bind_some, asB, asI, wipeE, backE, List.map_cons, List.map_nil, List.length_cons, List.length_nil, List.replicate, List.cons_append, List.nil_append, List.set_cons_zero, List.set_cons_succ, Nat.reduceAdd, Nat.reduceSub, add_ii, sub_ii, neg_i, lt_ii, le_ii, gt_ii, ge_ii, eq_ii, ne_ii, eq_bb, ne_bb, int_i, int_b, abs_i, len_l, len_f, len_t, list_l, list_t, tuple_l, tuple_t, not_b, truth_b, truth_i, ix_l, ix_f, ix_t, cut_l, min_ii, max_ii, gN, gT, gTs, at_0, at_1, at_2, at_3, decide_eq_true_eq, Bool.not_true, Bool.not_false, Bool.false_eq_true, Int.reduceEq, Int.reduceNeg, Int.reduceLT, Int.reduceLE, Int.reduceAdd, Int.reduceSub, D.int.injEq, D.bl.injEq, reduceCtorEq, ne_eq, not_true_eq_false, not_false_eq_true, List.getElem?_cons_succ, List.getElem?_cons_zero, Option.getD_some, Option.getD_none, ↓xp_chain, ↓nxS_nx, iter_l, iter_t, ↓xp_chain3, ↓wp_yes, ↓xp_iR3, ↓xp_iEn, ↓xp_iEn2, ↓xp_mut2, ↓xp_putD, ↓xp_dic0, lookD, kOf, enum_l, enum_s, listA_l, listA_f, listA_t, notT_b]
          refine ⟨hbR, ?_⟩
          rw [Int.toNat_natCast]
          refine wp_for (fun r ε => ∃ z9, ε = [some (mD R C t), some (.int (R : Nat)), some (.int (C : Nat)), some (.lst (sl t.1)), some (.lst (sl t.2)), some (.lst (sl (F (c + 1)))), some (.lst (sl (G c))), some (.int (c : Nat)), some (.str (Q c r)), z9]) ⟨_, rfl⟩ (fun r z ε hd w => ?_) (fun ε w => ?_)
          · obtain ⟨z9, rfl⟩ := w
            obtain ⟨hr, rfl⟩ := rangeL_get hd
            rw [show (0 : Int) + (r : Nat) * 1 = (r : Nat) by omega]
            refine ⟨_, rfl, ?_⟩
            have a1 := sl_at (X := t.1) (r := r) (by omega)
            have hw := (v2 _ (getD_mem (X := t.1) (r := r) (by omega))).1
            have a2 := str_at (w := t.1.getD r []) (c := c) (by omega) (by omega)
            have ha : dAdd (.str (Q c r)) (.str [(t.1.getD r []).getD c 0]) = some (.str (Q c (r + 1))) := by
              rw [add_ss (by simp only [Q]; rw [List.length_map, List.length_range, List.length_singleton]; omega)]
              simp only [Q]
              rw [List.range_succ, List.map_append]; rfl
            simp only [↓wp_run, startE, ↓wp_sSeq, ↓thenS_nx, ↓thenS_rt, ↓thenS_bk, ↓thenS_ct, ↓xp_sSet, ↓xp_sDo, ↓xp_sRet, ↓wp_sIf, ↓wp_sNil, ↓wp_sBrk, ↓wp_sCnt, ↓xp_sAsg, ↓xp_sPar, ↓xp_sSetIx, ↓wp_sFor, ↓xp_tB, ↓xp_tTru, ↓wp_tNot, ↓wp_tAnd, ↓wp_tOr, ↓xp_wpV, ↓wp_C, ↓xp_V, ↓wp_O, ↓xp_R, ↓xp_e1, ↓xp_e2, ↓wp_if, ↓xp_and, ↓xp_or, ↓wp_lst, ↓wp_tup, ↓wp_nil, ↓xp_cons, ↓xp_call0, ↓xp_call1, ↓wp_anil, ↓wp_av, ↓wp_aw, ↓xp_mut1, ↓xp_mut0, ↓xp_cut, ↓wpP_none, ↓xp_psome, ↓xp_iA, ↓xp_iR1, ↓xp_iR2, exO_some, ↓reduceIte, ↓xp_end_rt, ↓xp_end_nx, ↓turn_nx, ↓turn_ct, ↓turn_bk, ↓turn_rt, get_val, get_slot, gets, looks, look, lookL, put, Option.bind_some, asB, asI, wipeE, backE, List.map_cons, List.map_nil, List.length_cons, List.length_nil, List.replicate, List.cons_append, List.nil_append, List.set_cons_zero, List.set_cons_succ, Nat.reduceAdd, Nat.reduceSub, add_ii, sub_ii, neg_i, lt_ii, le_ii, gt_ii, ge_ii, eq_ii, ne_ii, eq_bb, ne_bb, int_i, int_b, abs_i, len_l, len_f, len_t, list_l, list_t, tuple_l, tuple_t, not_b, truth_b, truth_i, ix_l, ix_f, ix_t, cut_l, min_ii, max_ii, gN, gT, gTs, at_0, at_1, at_2, at_3, decide_eq_true_eq, Bool.not_true, Bool.not_false, Bool.false_eq_true, Int.reduceEq, Int.reduceNeg, Int.reduceLT, Int.reduceLE, Int.reduceAdd, Int.reduceSub, D.int.injEq, D.bl.injEq, reduceCtorEq, ne_eq, not_true_eq_false, not_false_eq_true, List.getElem?_cons_succ, List.getElem?_cons_zero, Option.getD_some, Option.getD_none, ↓xp_chain, ↓nxS_nx, iter_l, iter_t, ↓xp_chain3, ↓wp_yes, ↓xp_iR3, ↓xp_iEn, ↓xp_iEn2, ↓xp_mut2, ↓xp_putD, ↓xp_dic0, lookD, kOf, enum_l, enum_s, listA_l, listA_f, listA_t, notT_b, a1, a2, ha]
            exact ⟨_, rfl⟩
          · obtain ⟨z9, rfl⟩ := w
            rw [rangeL_len]
            exact ⟨_, rfl⟩
        rintro ε ⟨z9, rfl⟩
        have ap2 := app_sl (X := G c) (w := Q c R) (by omega)
        rw [← hG] at ap2
        simp only [↓wp_run, startE, ↓wp_sSeq, ↓thenS_nx, ↓thenS_rt, ↓thenS_bk, ↓thenS_ct, ↓xp_sSet, ↓xp_sDo, ↓xp_sRet, ↓wp_sIf, ↓wp_sNil, ↓wp_sBrk, ↓wp_sCnt, ↓xp_sAsg, ↓xp_sPar, ↓xp_sSetIx, ↓wp_sFor, ↓xp_tB, ↓xp_tTru, ↓wp_tNot, ↓wp_tAnd, ↓wp_tOr, ↓xp_wpV, ↓wp_C, ↓xp_V, ↓wp_O, ↓xp_R, ↓xp_e1, ↓xp_e2, ↓wp_if, ↓xp_and, ↓xp_or, ↓wp_lst, ↓wp_tup, ↓wp_nil, ↓xp_cons, ↓xp_call0, ↓xp_call1, ↓wp_anil, ↓wp_av, ↓wp_aw, ↓xp_mut1, ↓xp_mut0, ↓xp_cut, ↓wpP_none, ↓xp_psome, ↓xp_iA, ↓xp_iR1, ↓xp_iR2, exO_some, ↓reduceIte, ↓xp_end_rt, ↓xp_end_nx, ↓turn_nx, ↓turn_ct, ↓turn_bk, ↓turn_rt, get_val, get_slot, gets, looks, look, lookL, put, Option.bind_some, asB, asI, wipeE, backE, List.map_cons, List.map_nil, List.length_cons, List.length_nil, List.replicate, List.cons_append, List.nil_append, List.set_cons_zero, List.set_cons_succ, Nat.reduceAdd, Nat.reduceSub, add_ii, sub_ii, neg_i, lt_ii, le_ii, gt_ii, ge_ii, eq_ii, ne_ii, eq_bb, ne_bb, int_i, int_b, abs_i, len_l, len_f, len_t, list_l, list_t, tuple_l, tuple_t, not_b, truth_b, truth_i, ix_l, ix_f, ix_t, cut_l, min_ii, max_ii, gN, gT, gTs, at_0, at_1, at_2, at_3, decide_eq_true_eq, Bool.not_true, Bool.not_false, Bool.false_eq_true, Int.reduceEq, Int.reduceNeg, Int.reduceLT, Int.reduceLE, Int.reduceAdd, Int.reduceSub, D.int.injEq, D.bl.injEq, reduceCtorEq, ne_eq, not_true_eq_false, not_false_eq_true, List.getElem?_cons_succ, List.getElem?_cons_zero, Option.getD_some, Option.getD_none, ↓xp_chain, ↓nxS_nx, iter_l, iter_t, ↓xp_chain3, ↓wp_yes, ↓xp_iR3, ↓xp_iEn, ↓xp_iEn2, ↓xp_mut2, ↓xp_putD, ↓xp_dic0, lookD, kOf, enum_l, enum_s, listA_l, listA_f, listA_t, notT_b, ap2]
        rw [show min (c + 1) (C - 1) = c + 1 by omega]
        exact ⟨_, _, _, rfl⟩
      · have q' : ¬ ((c : Nat) : Int) + 1 < ((C : Nat) : Int) := by omega
        simp only [↓wp_run, startE, ↓wp_sSeq, ↓thenS_nx, ↓thenS_rt, ↓thenS_bk, ↓thenS_ct, ↓xp_sSet, ↓xp_sDo, ↓xp_sRet, ↓wp_sIf, ↓wp_sNil, ↓wp_sBrk, ↓wp_sCnt, ↓xp_sAsg, ↓xp_sPar, ↓xp_sSetIx, ↓wp_sFor, ↓xp_tB, ↓xp_tTru, ↓wp_tNot, ↓wp_tAnd, ↓wp_tOr, ↓xp_wpV, ↓wp_C, ↓xp_V, ↓wp_O, ↓xp_R, ↓xp_e1, ↓xp_e2, ↓wp_if, ↓xp_and, ↓xp_or, ↓wp_lst, ↓wp_tup, ↓wp_nil, ↓xp_cons, ↓xp_call0, ↓xp_call1, ↓wp_anil, ↓wp_av, ↓wp_aw, ↓xp_mut1, ↓xp_mut0, ↓xp_cut, ↓wpP_none, ↓xp_psome, ↓xp_iA, ↓xp_iR1, ↓xp_iR2, exO_some, ↓reduceIte, ↓xp_end_rt, ↓xp_end_nx, ↓turn_nx, ↓turn_ct, ↓turn_bk, ↓turn_rt, get_val, get_slot, gets, looks, look, lookL, put, Option.bind_some, asB, asI, wipeE, backE, List.map_cons, List.map_nil, List.length_cons, List.length_nil, List.replicate, List.cons_append, List.nil_append, List.set_cons_zero, List.set_cons_succ, Nat.reduceAdd, Nat.reduceSub, add_ii, sub_ii, neg_i, lt_ii, le_ii, gt_ii, ge_ii, eq_ii, ne_ii, eq_bb, ne_bb, int_i, int_b, abs_i, len_l, len_f, len_t, list_l, list_t, tuple_l, tuple_t, not_b, truth_b, truth_i, ix_l, ix_f, ix_t, cut_l, min_ii, max_ii, gN, gT, gTs, at_0, at_1, at_2, at_3, decide_eq_true_eq, Bool.not_true, Bool.not_false, Bool.false_eq_true, Int.reduceEq, Int.reduceNeg, Int.reduceLT, Int.reduceLE, Int.reduceAdd, Int.reduceSub, D.int.injEq, D.bl.injEq, reduceCtorEq, ne_eq, not_true_eq_false, not_false_eq_true, List.getElem?_cons_succ, List.getElem?_cons_zero, Option.getD_some, Option.getD_none, ↓xp_chain, ↓nxS_nx, iter_l, iter_t, ↓xp_chain3, ↓wp_yes, ↓xp_iR3, ↓xp_iEn, ↓xp_iEn2, ↓xp_mut2, ↓xp_putD, ↓xp_dic0, lookD, kOf, enum_l, enum_s, listA_l, listA_f, listA_t, notT_b, q', decide_false, Bool.false_eq_true, if_false]
        rw [show min (c + 1) (C - 1) = c by omega]
        exact ⟨_, _, _, rfl⟩
    · obtain ⟨z7, z8, z9, rfl⟩ := w
      rw [rangeL_len, show min C (C - 1) = C - 1 by omega]
      exact ⟨_, _, _, rfl⟩
  rintro ε ⟨z7, z8, z9, rfl⟩
  simp only [↓wp_run, startE, ↓wp_sSeq, ↓thenS_nx, ↓thenS_rt, ↓thenS_bk, ↓thenS_ct, ↓xp_sSet, ↓xp_sDo, ↓xp_sRet, ↓wp_sIf, ↓wp_sNil, ↓wp_sBrk, ↓wp_sCnt, ↓xp_sAsg, ↓xp_sPar, ↓xp_sSetIx, ↓wp_sFor, ↓xp_tB, ↓xp_tTru, ↓wp_tNot, ↓wp_tAnd, ↓wp_tOr, ↓xp_wpV, ↓wp_C, ↓xp_V, ↓wp_O, ↓xp_R, ↓xp_e1, ↓xp_e2, ↓wp_if, ↓xp_and, ↓xp_or, ↓wp_lst, ↓wp_tup, ↓wp_nil, ↓xp_cons, ↓xp_call0, ↓xp_call1, ↓wp_anil, ↓wp_av, ↓wp_aw, ↓xp_mut1, ↓xp_mut0, ↓xp_cut, ↓wpP_none, ↓xp_psome, ↓xp_iA, ↓xp_iR1, ↓xp_iR2, exO_some, ↓reduceIte, ↓xp_end_rt, ↓xp_end_nx, ↓turn_nx, ↓turn_ct, ↓turn_bk, ↓turn_rt, get_val, get_slot, gets, looks, look, lookL, put, Option.bind_some, asB, asI, wipeE, backE, List.map_cons, List.map_nil, List.length_cons, List.length_nil, List.replicate, List.cons_append, List.nil_append, List.set_cons_zero, List.set_cons_succ, Nat.reduceAdd, Nat.reduceSub, add_ii, sub_ii, neg_i, lt_ii, le_ii, gt_ii, ge_ii, eq_ii, ne_ii, eq_bb, ne_bb, int_i, int_b, abs_i, len_l, len_f, len_t, list_l, list_t, tuple_l, tuple_t, not_b, truth_b, truth_i, ix_l, ix_f, ix_t, cut_l, min_ii, max_ii, gN, gT, gTs, at_0, at_1, at_2, at_3, decide_eq_true_eq, Bool.not_true, Bool.not_false, Bool.false_eq_true, Int.reduceEq, Int.reduceNeg, Int.reduceLT, Int.reduceLE, Int.reduceAdd, Int.reduceSub, D.int.injEq, D.bl.injEq, reduceCtorEq, ne_eq, not_true_eq_false, not_false_eq_true, List.getElem?_cons_succ, List.getElem?_cons_zero, Option.getD_some, Option.getD_none, ↓xp_chain, ↓nxS_nx, iter_l, iter_t, ↓xp_chain3, ↓wp_yes, ↓xp_iR3, ↓xp_iEn, ↓xp_iEn2, ↓xp_mut2, ↓xp_putD, ↓xp_dic0, lookD, kOf, enum_l, enum_s, listA_l, listA_f, listA_t, notT_b]
  first | exact ⟨rfl, rfl⟩ | exact ⟨rfl, trivial⟩ | exact ⟨trivial, trivial⟩
theorem vt_mp (R C : Nat) (o : List Nat) : Vt R C (mp R C o) := by
  have hl : ∀ a b, ltr C o a b = 109 ∨ ltr C o a b = 118 := fun a b => by
    unfold ltr
    split
    · exact .inr rfl
    · exact .inl rfl
  unfold mp
  refine ⟨by simp, fun w hw => ?_, by simp, fun w hw => ?_⟩
  · obtain ⟨r, _, rfl⟩ := List.mem_map.mp hw
    refine ⟨by simp, fun c hc => ?_⟩
    obtain ⟨x, _, rfl⟩ := List.mem_map.mp hc
    exact hl _ _
  · obtain ⟨r, _, rfl⟩ := List.mem_map.mp hw
    refine ⟨by simp, fun c hc => ?_⟩
    obtain ⟨x, _, rfl⟩ := List.mem_map.mp hc
    exact hl _ _
theorem srt_nn' (X : List (List Nat)) : ∃ T : List (List Nat), srt (nns X) = nns T ∧ T.length = X.length ∧ ∀ o, o ∈ T ↔ o ∈ X := by
  have key : ∀ ds : List D, (∀ d ∈ ds, ∃ j, d = nn j) → ∃ L : List (List Nat), ds = nns L := by
    intro ds
    induction ds with
    | nil => intro _; exact ⟨[], rfl⟩
    | cons d ds ih =>
      intro h
      obtain ⟨j, rfl⟩ := h d (List.mem_cons_self ..)
      obtain ⟨L, rfl⟩ := ih fun d hd => h d (List.mem_cons_of_mem _ hd)
      exact ⟨j :: L, rfl⟩
  have hinj : ∀ x y, nn x = nn y → x = y := fun x y h => by
    unfold nn nl at h
    injection h with h
    refine ni_inj ?_
    unfold il at h
    exact (List.map_inj_right fun a b e => by injection e).mp h
  obtain ⟨L, hL⟩ := key (srt (nns X)) fun d hd => by
    obtain ⟨j, _, rfl⟩ := List.mem_map.mp (srt_mem.mp hd)
    exact ⟨j, rfl⟩
  refine ⟨L, hL, ?_, fun j => ?_⟩
  · have := srt_len (nns X)
    rw [hL, nns_len, nns_len] at this
    exact this
  · have h1 : nn j ∈ srt (nns X) ↔ nn j ∈ nns X := srt_mem
    rw [hL] at h1
    constructor
    · intro h
      obtain ⟨j', hj', e⟩ := List.mem_map.mp (h1.mp (List.mem_map.mpr ⟨j, h, rfl⟩))
      exact hinj _ _ e ▸ hj'
    · intro h
      obtain ⟨j', hj', e⟩ := List.mem_map.mp (h1.mpr (List.mem_map.mpr ⟨j, h, rfl⟩))
      exact hinj _ _ e ▸ hj'
section
variable {ns : List Int} {R C : Nat} {t : TT}
theorem letters_ok {d : D} (hp : IsPool ns d) {n : Nat} (hn : n ≤ 10) : wpF u_law_letters_f [d, .int (n : Nat)] fun z ws => (∃ w : List Nat, z = .str w ∧ w.length = n ∧ lett w) ∧ ∃ d', ws = [d'] ∧ IsPool ns d' := by
  unfold u_law_letters_f u_law_letters_b
  have hb : inB (n : Nat) = true := inb (by omega) (by omega)
  simp only [↓wp_run, startE, ↓wp_sSeq, ↓thenS_nx, ↓thenS_rt, ↓thenS_bk, ↓thenS_ct, ↓xp_sSet, ↓xp_sDo, ↓xp_sRet, ↓wp_sIf, ↓wp_sNil, ↓wp_sBrk, ↓wp_sCnt, ↓xp_sAsg, ↓xp_sPar, ↓xp_sSetIx, ↓wp_sFor, ↓xp_tB, ↓xp_tTru, ↓wp_tNot, ↓wp_tAnd, ↓wp_tOr, ↓xp_wpV, ↓wp_C, ↓xp_V, ↓wp_O, ↓xp_R, ↓xp_e1, ↓xp_e2, ↓wp_if, ↓xp_and, ↓xp_or, ↓wp_lst, ↓wp_tup, ↓wp_nil, ↓xp_cons, ↓xp_call0, ↓xp_call1, ↓wp_anil, ↓wp_av, ↓wp_aw, ↓xp_mut1, ↓xp_mut0, ↓xp_cut, ↓wpP_none, ↓xp_psome, ↓xp_iA, ↓xp_iR1, ↓xp_iR2, exO_some, ↓reduceIte, ↓xp_end_rt, ↓xp_end_nx, ↓turn_nx, ↓turn_ct, ↓turn_bk, ↓turn_rt, get_val, get_slot, gets, looks, look, lookL, put, Option.bind_some, asB, asI, wipeE, backE, List.map_cons, List.map_nil, List.length_cons, List.length_nil, List.replicate, List.cons_append, List.nil_append, List.set_cons_zero, List.set_cons_succ, Nat.reduceAdd, Nat.reduceSub, add_ii, sub_ii, neg_i, lt_ii, le_ii, gt_ii, ge_ii, eq_ii, ne_ii, eq_bb, ne_bb, int_i, int_b, abs_i, len_l, len_f, len_t, list_l, list_t, tuple_l, tuple_t, not_b, truth_b, truth_i, ix_l, ix_f, ix_t, cut_l, min_ii, max_ii, gN, gT, gTs, at_0, at_1, at_2, at_3, decide_eq_true_eq, Bool.not_true, Bool.not_false, Bool.false_eq_true, Int.reduceEq, Int.reduceNeg, Int.reduceLT, Int.reduceLE, Int.reduceAdd, Int.reduceSub, D.int.injEq, D.bl.injEq, reduceCtorEq, ne_eq, not_true_eq_false, not_false_eq_true, List.getElem?_cons_succ, List.getElem?_cons_zero, Option.getD_some, Option.getD_none, ↓xp_chain, ↓nxS_nx, iter_l, iter_t, ↓xp_chain3, ↓wp_yes, ↓xp_iR3, ↓xp_iEn, ↓xp_iEn2, ↓xp_mut2, ↓xp_putD, ↓xp_dic0, lookD, kOf, enum_l, enum_s, listA_l, listA_f, listA_t, notT_b]
  refine ⟨hb, ?_⟩
  rw [Int.toNat_natCast]
  refine wp_for (fun i ε => ∃ (d : D) (w : List Nat) (z : Option D), ε = [some d, some (.int (n : Nat)), some (.str w), z] ∧ IsPool ns d ∧ w.length = i ∧ lett w) ⟨d, [], none, rfl, hp, rfl, fun c hc => by simp at hc⟩ (fun i z ε hd w => ?_) (fun ε w => ?_)
  · obtain ⟨d, w, z0, rfl, hp, hl, hw⟩ := w
    have hi := (List.getElem?_eq_some_iff.mp hd).1
    rw [rangeL_len] at hi
    refine ⟨_, rfl, ?_⟩
    try simp only [↓wp_run, startE, ↓wp_sSeq, ↓thenS_nx, ↓thenS_rt, ↓thenS_bk, ↓thenS_ct, ↓xp_sSet, ↓xp_sDo, ↓xp_sRet, ↓wp_sIf, ↓wp_sNil, ↓wp_sBrk, ↓wp_sCnt, ↓xp_sAsg, ↓xp_sPar, ↓xp_sSetIx, ↓wp_sFor, ↓xp_tB, ↓xp_tTru, ↓wp_tNot, ↓wp_tAnd, ↓wp_tOr, ↓xp_wpV, ↓wp_C, ↓xp_V, ↓wp_O, ↓xp_R, ↓xp_e1, ↓xp_e2, ↓wp_if, ↓xp_and, ↓xp_or, ↓wp_lst, ↓wp_tup, ↓wp_nil, ↓xp_cons, ↓xp_call0, ↓xp_call1, ↓wp_anil, ↓wp_av, ↓wp_aw, ↓xp_mut1, ↓xp_mut0, ↓xp_cut, ↓wpP_none, ↓xp_psome, ↓xp_iA, ↓xp_iR1, ↓xp_iR2, exO_some, ↓reduceIte, ↓xp_end_rt, ↓xp_end_nx, ↓turn_nx, ↓turn_ct, ↓turn_bk, ↓turn_rt, get_val, get_slot, gets, looks, look, lookL, put, Option.bind_some, asB, asI, wipeE, backE, List.map_cons, List.map_nil, List.length_cons, List.length_nil, List.replicate, List.cons_append, List.nil_append, List.set_cons_zero, List.set_cons_succ, Nat.reduceAdd, Nat.reduceSub, add_ii, sub_ii, neg_i, lt_ii, le_ii, gt_ii, ge_ii, eq_ii, ne_ii, eq_bb, ne_bb, int_i, int_b, abs_i, len_l, len_f, len_t, list_l, list_t, tuple_l, tuple_t, not_b, truth_b, truth_i, ix_l, ix_f, ix_t, cut_l, min_ii, max_ii, gN, gT, gTs, at_0, at_1, at_2, at_3, decide_eq_true_eq, Bool.not_true, Bool.not_false, Bool.false_eq_true, Int.reduceEq, Int.reduceNeg, Int.reduceLT, Int.reduceLE, Int.reduceAdd, Int.reduceSub, D.int.injEq, D.bl.injEq, reduceCtorEq, ne_eq, not_true_eq_false, not_false_eq_true, List.getElem?_cons_succ, List.getElem?_cons_zero, Option.getD_some, Option.getD_none, ↓xp_chain, ↓nxS_nx, iter_l, iter_t, ↓xp_chain3, ↓wp_yes, ↓xp_iR3, ↓xp_iEn, ↓xp_iEn2, ↓xp_mut2, ↓xp_putD, ↓xp_dic0, lookD, kOf, enum_l, enum_s, listA_l, listA_f, listA_t, notT_b]
    refine (pick_ok hp (by decide) (by decide)).mono fun z ws h => ?_
    obtain ⟨hz, d2, rfl, hp2⟩ := h
    obtain ⟨c, rfl, hc⟩ : ∃ c : Nat, z = .str [c] ∧ (c = 109 ∨ c = 118) := by
      simp only [List.mem_cons, List.not_mem_nil, or_false] at hz
      rcases hz with rfl | rfl
      · exact ⟨109, rfl, .inl rfl⟩
      · exact ⟨118, rfl, .inr rfl⟩
    refine ⟨_, rfl, ?_⟩
    have ha : dAdd (.str w) (.str [c]) = some (.str (w ++ [c])) := add_ss (by rw [List.length_singleton]; omega)
    simp only [↓wp_run, startE, ↓wp_sSeq, ↓thenS_nx, ↓thenS_rt, ↓thenS_bk, ↓thenS_ct, ↓xp_sSet, ↓xp_sDo, ↓xp_sRet, ↓wp_sIf, ↓wp_sNil, ↓wp_sBrk, ↓wp_sCnt, ↓xp_sAsg, ↓xp_sPar, ↓xp_sSetIx, ↓wp_sFor, ↓xp_tB, ↓xp_tTru, ↓wp_tNot, ↓wp_tAnd, ↓wp_tOr, ↓xp_wpV, ↓wp_C, ↓xp_V, ↓wp_O, ↓xp_R, ↓xp_e1, ↓xp_e2, ↓wp_if, ↓xp_and, ↓xp_or, ↓wp_lst, ↓wp_tup, ↓wp_nil, ↓xp_cons, ↓xp_call0, ↓xp_call1, ↓wp_anil, ↓wp_av, ↓wp_aw, ↓xp_mut1, ↓xp_mut0, ↓xp_cut, ↓wpP_none, ↓xp_psome, ↓xp_iA, ↓xp_iR1, ↓xp_iR2, exO_some, ↓reduceIte, ↓xp_end_rt, ↓xp_end_nx, ↓turn_nx, ↓turn_ct, ↓turn_bk, ↓turn_rt, get_val, get_slot, gets, looks, look, lookL, put, Option.bind_some, asB, asI, wipeE, backE, List.map_cons, List.map_nil, List.length_cons, List.length_nil, List.replicate, List.cons_append, List.nil_append, List.set_cons_zero, List.set_cons_succ, Nat.reduceAdd, Nat.reduceSub, add_ii, sub_ii, neg_i, lt_ii, le_ii, gt_ii, ge_ii, eq_ii, ne_ii, eq_bb, ne_bb, int_i, int_b, abs_i, len_l, len_f, len_t, list_l, list_t, tuple_l, tuple_t, not_b, truth_b, truth_i, ix_l, ix_f, ix_t, cut_l, min_ii, max_ii, gN, gT, gTs, at_0, at_1, at_2, at_3, decide_eq_true_eq, Bool.not_true, Bool.not_false, Bool.false_eq_true, Int.reduceEq, Int.reduceNeg, Int.reduceLT, Int.reduceLE, Int.reduceAdd, Int.reduceSub, D.int.injEq, D.bl.injEq, reduceCtorEq, ne_eq, not_true_eq_false, not_false_eq_true, List.getElem?_cons_succ, List.getElem?_cons_zero, Option.getD_some, Option.getD_none, ↓xp_chain, ↓nxS_nx, iter_l, iter_t, ↓xp_chain3, ↓wp_yes, ↓xp_iR3, ↓xp_iEn, ↓xp_iEn2, ↓xp_mut2, ↓xp_putD, ↓xp_dic0, lookD, kOf, enum_l, enum_s, listA_l, listA_f, listA_t, notT_b, ha]
    refine ⟨d2, _, _, rfl, hp2, by simp [hl], fun x hx => ?_⟩
    rcases List.mem_append.mp hx with q | q
    · exact hw x q
    · rw [List.mem_singleton] at q; rw [q]; exact hc
  · obtain ⟨d, w, z0, rfl, hp, hl, hw⟩ := w
    rw [rangeL_len] at hl
    simp only [↓wp_run, startE, ↓wp_sSeq, ↓thenS_nx, ↓thenS_rt, ↓thenS_bk, ↓thenS_ct, ↓xp_sSet, ↓xp_sDo, ↓xp_sRet, ↓wp_sIf, ↓wp_sNil, ↓wp_sBrk, ↓wp_sCnt, ↓xp_sAsg, ↓xp_sPar, ↓xp_sSetIx, ↓wp_sFor, ↓xp_tB, ↓xp_tTru, ↓wp_tNot, ↓wp_tAnd, ↓wp_tOr, ↓xp_wpV, ↓wp_C, ↓xp_V, ↓wp_O, ↓xp_R, ↓xp_e1, ↓xp_e2, ↓wp_if, ↓xp_and, ↓xp_or, ↓wp_lst, ↓wp_tup, ↓wp_nil, ↓xp_cons, ↓xp_call0, ↓xp_call1, ↓wp_anil, ↓wp_av, ↓wp_aw, ↓xp_mut1, ↓xp_mut0, ↓xp_cut, ↓wpP_none, ↓xp_psome, ↓xp_iA, ↓xp_iR1, ↓xp_iR2, exO_some, ↓reduceIte, ↓xp_end_rt, ↓xp_end_nx, ↓turn_nx, ↓turn_ct, ↓turn_bk, ↓turn_rt, get_val, get_slot, gets, looks, look, lookL, put, Option.bind_some, asB, asI, wipeE, backE, List.map_cons, List.map_nil, List.length_cons, List.length_nil, List.replicate, List.cons_append, List.nil_append, List.set_cons_zero, List.set_cons_succ, Nat.reduceAdd, Nat.reduceSub, add_ii, sub_ii, neg_i, lt_ii, le_ii, gt_ii, ge_ii, eq_ii, ne_ii, eq_bb, ne_bb, int_i, int_b, abs_i, len_l, len_f, len_t, list_l, list_t, tuple_l, tuple_t, not_b, truth_b, truth_i, ix_l, ix_f, ix_t, cut_l, min_ii, max_ii, gN, gT, gTs, at_0, at_1, at_2, at_3, decide_eq_true_eq, Bool.not_true, Bool.not_false, Bool.false_eq_true, Int.reduceEq, Int.reduceNeg, Int.reduceLT, Int.reduceLE, Int.reduceAdd, Int.reduceSub, D.int.injEq, D.bl.injEq, reduceCtorEq, ne_eq, not_true_eq_false, not_false_eq_true, List.getElem?_cons_succ, List.getElem?_cons_zero, Option.getD_some, Option.getD_none, ↓xp_chain, ↓nxS_nx, iter_l, iter_t, ↓xp_chain3, ↓wp_yes, ↓xp_iR3, ↓xp_iEn, ↓xp_iEn2, ↓xp_mut2, ↓xp_putD, ↓xp_dic0, lookD, kOf, enum_l, enum_s, listA_l, listA_f, listA_t, notT_b]
    exact ⟨⟨w, rfl, hl, hw⟩, d, rfl, hp⟩
theorem map_ok {d : D} (hp : IsPool ns d) (h : Sz R C) : wpF u_law_map_f [d, .int (R : Nat), .int (C : Nat)] fun z ws => (∃ t : TT, z = mD R C t ∧ Vt R C t) ∧ ∃ d', ws = [d'] ∧ IsPool ns d' := by
  obtain ⟨h1, h2, h3, h4⟩ := h
  unfold u_law_map_f u_law_map_b
  rw [wp_run]
  have hbR : inB (R : Nat) = true := inb (by omega) (by omega)
  have hbR1 : inB (((R : Nat) : Int) - 1) = true := inb (by omega) (by omega)
  refine wp_seq_of (fun ε => ∃ (d : D) (X : List (List Nat)) (z5 : Option D), ε = [some d, some (.int (R : Nat)), some (.int (C : Nat)), some (.lst (sl X)), none, z5] ∧ IsPool ns d ∧ X.length = R ∧ ∀ w ∈ X, w.length = C - 1 ∧ lett w) ?_ ?_
  · simp only [↓wp_run, startE, ↓wp_sSeq, ↓thenS_nx, ↓thenS_rt, ↓thenS_bk, ↓thenS_ct, ↓xp_sSet, ↓xp_sDo, ↓xp_sRet, ↓wp_sIf, ↓wp_sNil, ↓wp_sBrk, ↓wp_sCnt, ↓xp_sAsg, ↓xp_sPar, ↓xp_sSetIx, ↓wp_sFor, ↓xp_tB, ↓xp_tTru, ↓wp_tNot, ↓wp_tAnd, ↓wp_tOr, ↓xp_wpV, ↓wp_C, ↓xp_V, ↓wp_O, ↓xp_R, ↓xp_e1, ↓xp_e2, ↓wp_if, ↓xp_and, ↓xp_or, ↓wp_lst, ↓wp_tup, ↓wp_nil, ↓xp_cons, ↓xp_call0, ↓xp_call1, ↓wp_anil, ↓wp_av, ↓wp_aw, ↓xp_mut1, ↓xp_mut0, ↓xp_cut, ↓wpP_none, ↓xp_psome, ↓xp_iA, ↓xp_iR1, ↓xp_iR2, exO_some, ↓reduceIte, ↓xp_end_rt, ↓xp_end_nx, ↓turn_nx, ↓turn_ct, ↓turn_bk, ↓turn_rt, get_val, get_slot, gets, looks, look, lookL, put, Option.bind_some, asB, asI, wipeE, backE, List.map_cons, List.map_nil, List.length_cons, List.length_nil, List.replicate, List.cons_append, List.nil_append, List.set_cons_zero, List.set_cons_succ, Nat.reduceAdd, Nat.reduceSub, add_ii, sub_ii, neg_i, lt_ii, le_ii, gt_ii, ge_ii, eq_ii, ne_ii, eq_bb, ne_bb, int_i, int_b, abs_i, len_l, len_f, len_t, list_l, list_t, tuple_l, tuple_t, not_b, truth_b, truth_i, ix_l, ix_f, ix_t, cut_l, min_ii, max_ii, gN, gT, gTs, at_0, at_1, at_2, at_3, decide_eq_true_eq, Bool.not_true, Bool.not_false, Bool.false_eq_true, Int.reduceEq, Int.reduceNeg, Int.reduceLT, Int.reduceLE, Int.reduceAdd, Int.reduceSub, D.int.injEq, D.bl.injEq, reduceCtorEq, ne_eq, not_true_eq_false, not_false_eq_true, List.getElem?_cons_succ, List.getElem?_cons_zero, Option.getD_some, Option.getD_none, ↓xp_chain, ↓nxS_nx, iter_l, iter_t, ↓xp_chain3, ↓wp_yes, ↓xp_iR3, ↓xp_iEn, ↓xp_iEn2, ↓xp_mut2, ↓xp_putD, ↓xp_dic0, lookD, kOf, enum_l, enum_s, listA_l, listA_f, listA_t, notT_b]
    refine wp_comp_inv (fun i acc ε => ∃ (d : D) (X : List (List Nat)), ε = [some d, some (.int (R : Nat)), some (.int (C : Nat)), none, none, none] ∧ acc = sl X ∧ IsPool ns d ∧ X.length = i ∧ ∀ w ∈ X, w.length = C - 1 ∧ lett w) ?_
    simp only [↓wp_run, startE, ↓wp_sSeq, ↓thenS_nx, ↓thenS_rt, ↓thenS_bk, ↓thenS_ct, ↓xp_sSet, ↓xp_sDo, ↓xp_sRet, ↓wp_sIf, ↓wp_sNil, ↓wp_sBrk, ↓wp_sCnt, ↓xp_sAsg, ↓xp_sPar, ↓xp_sSetIx, ↓wp_sFor, ↓xp_tB, ↓xp_tTru, ↓wp_tNot, ↓wp_tAnd, ↓wp_tOr, ↓xp_wpV, ↓wp_C, ↓xp_V, ↓wp_O, ↓xp_R, ↓xp_e1, ↓xp_e2, ↓wp_if, ↓xp_and, ↓xp_or, ↓wp_lst, ↓wp_tup, ↓wp_nil, ↓xp_cons, ↓xp_call0, ↓xp_call1, ↓wp_anil, ↓wp_av, ↓wp_aw, ↓xp_mut1, ↓xp_mut0, ↓xp_cut, ↓wpP_none, ↓xp_psome, ↓xp_iA, ↓xp_iR1, ↓xp_iR2, exO_some, ↓reduceIte, ↓xp_end_rt, ↓xp_end_nx, ↓turn_nx, ↓turn_ct, ↓turn_bk, ↓turn_rt, get_val, get_slot, gets, looks, look, lookL, put, Option.bind_some, asB, asI, wipeE, backE, List.map_cons, List.map_nil, List.length_cons, List.length_nil, List.replicate, List.cons_append, List.nil_append, List.set_cons_zero, List.set_cons_succ, Nat.reduceAdd, Nat.reduceSub, add_ii, sub_ii, neg_i, lt_ii, le_ii, gt_ii, ge_ii, eq_ii, ne_ii, eq_bb, ne_bb, int_i, int_b, abs_i, len_l, len_f, len_t, list_l, list_t, tuple_l, tuple_t, not_b, truth_b, truth_i, ix_l, ix_f, ix_t, cut_l, min_ii, max_ii, gN, gT, gTs, at_0, at_1, at_2, at_3, decide_eq_true_eq, Bool.not_true, Bool.not_false, Bool.false_eq_true, Int.reduceEq, Int.reduceNeg, Int.reduceLT, Int.reduceLE, Int.reduceAdd, Int.reduceSub, D.int.injEq, D.bl.injEq, reduceCtorEq, ne_eq, not_true_eq_false, not_false_eq_true, List.getElem?_cons_succ, List.getElem?_cons_zero, Option.getD_some, Option.getD_none, ↓xp_chain, ↓nxS_nx, iter_l, iter_t, ↓xp_chain3, ↓wp_yes, ↓xp_iR3, ↓xp_iEn, ↓xp_iEn2, ↓xp_mut2, ↓xp_putD, ↓xp_dic0, lookD, kOf, enum_l, enum_s, listA_l, listA_f, listA_t, notT_b]
    refine ⟨hbR, ⟨d, [], rfl, rfl, hp, rfl, fun w hw => by simp at hw⟩, fun i z acc ε hd w => ?_, fun acc ε w => ?_⟩
    · obtain ⟨d, X, rfl, rfl, hp, hl, hw⟩ := w
      refine ⟨_, rfl, ?_⟩
      simp only [↓wp_run, startE, ↓wp_sSeq, ↓thenS_nx, ↓thenS_rt, ↓thenS_bk, ↓thenS_ct, ↓xp_sSet, ↓xp_sDo, ↓xp_sRet, ↓wp_sIf, ↓wp_sNil, ↓wp_sBrk, ↓wp_sCnt, ↓xp_sAsg, ↓xp_sPar, ↓xp_sSetIx, ↓wp_sFor, ↓xp_tB, ↓xp_tTru, ↓wp_tNot, ↓wp_tAnd, ↓wp_tOr, ↓xp_wpV, ↓wp_C, ↓xp_V, ↓wp_O, ↓xp_R, ↓xp_e1, ↓xp_e2, ↓wp_if, ↓xp_and, ↓xp_or, ↓wp_lst, ↓wp_tup, ↓wp_nil, ↓xp_cons, ↓xp_call0, ↓xp_call1, ↓wp_anil, ↓wp_av, ↓wp_aw, ↓xp_mut1, ↓xp_mut0, ↓xp_cut, ↓wpP_none, ↓xp_psome, ↓xp_iA, ↓xp_iR1, ↓xp_iR2, exO_some, ↓reduceIte, ↓xp_end_rt, ↓xp_end_nx, ↓turn_nx, ↓turn_ct, ↓turn_bk, ↓turn_rt, get_val, get_slot, gets, looks, look, lookL, put, Option.bind_some, asB, asI, wipeE, backE, List.map_cons, List.map_nil, List.length_cons, List.length_nil, List.replicate, List.cons_append, List.nil_append, List.set_cons_zero, List.set_cons_succ, Nat.reduceAdd, Nat.reduceSub, add_ii, sub_ii, neg_i, lt_ii, le_ii, gt_ii, ge_ii, eq_ii, ne_ii, eq_bb, ne_bb, int_i, int_b, abs_i, len_l, len_f, len_t, list_l, list_t, tuple_l, tuple_t, not_b, truth_b, truth_i, ix_l, ix_f, ix_t, cut_l, min_ii, max_ii, gN, gT, gTs, at_0, at_1, at_2, at_3, decide_eq_true_eq, Bool.not_true, Bool.not_false, Bool.false_eq_true, Int.reduceEq, Int.reduceNeg, Int.reduceLT, Int.reduceLE, Int.reduceAdd, Int.reduceSub, D.int.injEq, D.bl.injEq, reduceCtorEq, ne_eq, not_true_eq_false, not_false_eq_true, List.getElem?_cons_succ, List.getElem?_cons_zero, Option.getD_some, Option.getD_none, ↓xp_chain, ↓nxS_nx, iter_l, iter_t, ↓xp_chain3, ↓wp_yes, ↓xp_iR3, ↓xp_iEn, ↓xp_iEn2, ↓xp_mut2, ↓xp_putD, ↓xp_dic0, lookD, kOf, enum_l, enum_s, listA_l, listA_f, listA_t, notT_b, if_true]
      rw [show ((C : Nat) : Int) - 1 = ((C - 1 : Nat) : Int) by omega]
      refine (letters_ok hp (n := C - 1) (by omega)).mono fun z ws h => ?_
      obtain ⟨⟨w, rfl, hwl, hwc⟩, d2, rfl, hp2⟩ := h
      refine ⟨_, rfl, ?_⟩
      try simp only [↓wp_run, startE, ↓wp_sSeq, ↓thenS_nx, ↓thenS_rt, ↓thenS_bk, ↓thenS_ct, ↓xp_sSet, ↓xp_sDo, ↓xp_sRet, ↓wp_sIf, ↓wp_sNil, ↓wp_sBrk, ↓wp_sCnt, ↓xp_sAsg, ↓xp_sPar, ↓xp_sSetIx, ↓wp_sFor, ↓xp_tB, ↓xp_tTru, ↓wp_tNot, ↓wp_tAnd, ↓wp_tOr, ↓xp_wpV, ↓wp_C, ↓xp_V, ↓wp_O, ↓xp_R, ↓xp_e1, ↓xp_e2, ↓wp_if, ↓xp_and, ↓xp_or, ↓wp_lst, ↓wp_tup, ↓wp_nil, ↓xp_cons, ↓xp_call0, ↓xp_call1, ↓wp_anil, ↓wp_av, ↓wp_aw, ↓xp_mut1, ↓xp_mut0, ↓xp_cut, ↓wpP_none, ↓xp_psome, ↓xp_iA, ↓xp_iR1, ↓xp_iR2, exO_some, ↓reduceIte, ↓xp_end_rt, ↓xp_end_nx, ↓turn_nx, ↓turn_ct, ↓turn_bk, ↓turn_rt, get_val, get_slot, gets, looks, look, lookL, put, Option.bind_some, asB, asI, wipeE, backE, List.map_cons, List.map_nil, List.length_cons, List.length_nil, List.replicate, List.cons_append, List.nil_append, List.set_cons_zero, List.set_cons_succ, Nat.reduceAdd, Nat.reduceSub, add_ii, sub_ii, neg_i, lt_ii, le_ii, gt_ii, ge_ii, eq_ii, ne_ii, eq_bb, ne_bb, int_i, int_b, abs_i, len_l, len_f, len_t, list_l, list_t, tuple_l, tuple_t, not_b, truth_b, truth_i, ix_l, ix_f, ix_t, cut_l, min_ii, max_ii, gN, gT, gTs, at_0, at_1, at_2, at_3, decide_eq_true_eq, Bool.not_true, Bool.not_false, Bool.false_eq_true, Int.reduceEq, Int.reduceNeg, Int.reduceLT, Int.reduceLE, Int.reduceAdd, Int.reduceSub, D.int.injEq, D.bl.injEq, reduceCtorEq, ne_eq, not_true_eq_false, not_false_eq_true, List.getElem?_cons_succ, List.getElem?_cons_zero, Option.getD_some, Option.getD_none, ↓xp_chain, ↓nxS_nx, iter_l, iter_t, ↓xp_chain3, ↓wp_yes, ↓xp_iR3, ↓xp_iEn, ↓xp_iEn2, ↓xp_mut2, ↓xp_putD, ↓xp_dic0, lookD, kOf, enum_l, enum_s, listA_l, listA_f, listA_t, notT_b]
      refine ⟨d2, X ++ [w], rfl, by simp [sl], hp2, by simp [hl], fun w' hw' => ?_⟩
      rcases List.mem_append.mp hw' with q | q
      · exact hw w' q
      · rw [List.mem_singleton] at q; rw [q]; exact ⟨hwl, hwc⟩
    · obtain ⟨d, X, rfl, rfl, hp, hl, hw⟩ := w
      rw [rangeL_len, Int.toNat_natCast] at hl
      refine ⟨by rw [sl_len]; omega, ?_⟩
      try simp only [↓wp_run, startE, ↓wp_sSeq, ↓thenS_nx, ↓thenS_rt, ↓thenS_bk, ↓thenS_ct, ↓xp_sSet, ↓xp_sDo, ↓xp_sRet, ↓wp_sIf, ↓wp_sNil, ↓wp_sBrk, ↓wp_sCnt, ↓xp_sAsg, ↓xp_sPar, ↓xp_sSetIx, ↓wp_sFor, ↓xp_tB, ↓xp_tTru, ↓wp_tNot, ↓wp_tAnd, ↓wp_tOr, ↓xp_wpV, ↓wp_C, ↓xp_V, ↓wp_O, ↓xp_R, ↓xp_e1, ↓xp_e2, ↓wp_if, ↓xp_and, ↓xp_or, ↓wp_lst, ↓wp_tup, ↓wp_nil, ↓xp_cons, ↓xp_call0, ↓xp_call1, ↓wp_anil, ↓wp_av, ↓wp_aw, ↓xp_mut1, ↓xp_mut0, ↓xp_cut, ↓wpP_none, ↓xp_psome, ↓xp_iA, ↓xp_iR1, ↓xp_iR2, exO_some, ↓reduceIte, ↓xp_end_rt, ↓xp_end_nx, ↓turn_nx, ↓turn_ct, ↓turn_bk, ↓turn_rt, get_val, get_slot, gets, looks, look, lookL, put, Option.bind_some, asB, asI, wipeE, backE, List.map_cons, List.map_nil, List.length_cons, List.length_nil, List.replicate, List.cons_append, List.nil_append, List.set_cons_zero, List.set_cons_succ, Nat.reduceAdd, Nat.reduceSub, add_ii, sub_ii, neg_i, lt_ii, le_ii, gt_ii, ge_ii, eq_ii, ne_ii, eq_bb, ne_bb, int_i, int_b, abs_i, len_l, len_f, len_t, list_l, list_t, tuple_l, tuple_t, not_b, truth_b, truth_i, ix_l, ix_f, ix_t, cut_l, min_ii, max_ii, gN, gT, gTs, at_0, at_1, at_2, at_3, decide_eq_true_eq, Bool.not_true, Bool.not_false, Bool.false_eq_true, Int.reduceEq, Int.reduceNeg, Int.reduceLT, Int.reduceLE, Int.reduceAdd, Int.reduceSub, D.int.injEq, D.bl.injEq, reduceCtorEq, ne_eq, not_true_eq_false, not_false_eq_true, List.getElem?_cons_succ, List.getElem?_cons_zero, Option.getD_some, Option.getD_none, ↓xp_chain, ↓nxS_nx, iter_l, iter_t, ↓xp_chain3, ↓wp_yes, ↓xp_iR3, ↓xp_iEn, ↓xp_iEn2, ↓xp_mut2, ↓xp_putD, ↓xp_dic0, lookD, kOf, enum_l, enum_s, listA_l, listA_f, listA_t, notT_b]
      exact ⟨d, X, _, rfl, hp, hl, hw⟩
  rintro ε ⟨d, X, z5, rfl, hp, hX1, hX2⟩
  refine wp_seq_of (fun ε => ∃ (d : D), ε = [some d, some (.int (R : Nat)), some (.int (C : Nat)), some (.lst (sl X)), none, z5] ∧ IsPool ns d) ?_ ?_
  · simp only [↓wp_run, startE, ↓wp_sSeq, ↓thenS_nx, ↓thenS_rt, ↓thenS_bk, ↓thenS_ct, ↓xp_sSet, ↓xp_sDo, ↓xp_sRet, ↓wp_sIf, ↓wp_sNil, ↓wp_sBrk, ↓wp_sCnt, ↓xp_sAsg, ↓xp_sPar, ↓xp_sSetIx, ↓wp_sFor, ↓xp_tB, ↓xp_tTru, ↓wp_tNot, ↓wp_tAnd, ↓wp_tOr, ↓xp_wpV, ↓wp_C, ↓xp_V, ↓wp_O, ↓xp_R, ↓xp_e1, ↓xp_e2, ↓wp_if, ↓xp_and, ↓xp_or, ↓wp_lst, ↓wp_tup, ↓wp_nil, ↓xp_cons, ↓xp_call0, ↓xp_call1, ↓wp_anil, ↓wp_av, ↓wp_aw, ↓xp_mut1, ↓xp_mut0, ↓xp_cut, ↓wpP_none, ↓xp_psome, ↓xp_iA, ↓xp_iR1, ↓xp_iR2, exO_some, ↓reduceIte, ↓xp_end_rt, ↓xp_end_nx, ↓turn_nx, ↓turn_ct, ↓turn_bk, ↓turn_rt, get_val, get_slot, gets, looks, look, lookL, put, Option.bind_some, asB, asI, wipeE, backE, List.map_cons, List.map_nil, List.length_cons, List.length_nil, List.replicate, List.cons_append, List.nil_append, List.set_cons_zero, List.set_cons_succ, Nat.reduceAdd, Nat.reduceSub, add_ii, sub_ii, neg_i, lt_ii, le_ii, gt_ii, ge_ii, eq_ii, ne_ii, eq_bb, ne_bb, int_i, int_b, abs_i, len_l, len_f, len_t, list_l, list_t, tuple_l, tuple_t, not_b, truth_b, truth_i, ix_l, ix_f, ix_t, cut_l, min_ii, max_ii, gN, gT, gTs, at_0, at_1, at_2, at_3, decide_eq_true_eq, Bool.not_true, Bool.not_false, Bool.false_eq_true, Int.reduceEq, Int.reduceNeg, Int.reduceLT, Int.reduceLE, Int.reduceAdd, Int.reduceSub, D.int.injEq, D.bl.injEq, reduceCtorEq, ne_eq, not_true_eq_false, not_false_eq_true, List.getElem?_cons_succ, List.getElem?_cons_zero, Option.getD_some, Option.getD_none, ↓xp_chain, ↓nxS_nx, iter_l, iter_t, ↓xp_chain3, ↓wp_yes, ↓xp_iR3, ↓xp_iEn, ↓xp_iEn2, ↓xp_mut2, ↓xp_putD, ↓xp_dic0, lookD, kOf, enum_l, enum_s, listA_l, listA_f, listA_t, notT_b]
    refine (next_ok hp).mono fun z ws h => ?_
    obtain ⟨rfl, d2, rfl, hp2⟩ := h
    try simp only [↓wp_run, startE, ↓wp_sSeq, ↓thenS_nx, ↓thenS_rt, ↓thenS_bk, ↓thenS_ct, ↓xp_sSet, ↓xp_sDo, ↓xp_sRet, ↓wp_sIf, ↓wp_sNil, ↓wp_sBrk, ↓wp_sCnt, ↓xp_sAsg, ↓xp_sPar, ↓xp_sSetIx, ↓wp_sFor, ↓xp_tB, ↓xp_tTru, ↓wp_tNot, ↓wp_tAnd, ↓wp_tOr, ↓xp_wpV, ↓wp_C, ↓xp_V, ↓wp_O, ↓xp_R, ↓xp_e1, ↓xp_e2, ↓wp_if, ↓xp_and, ↓xp_or, ↓wp_lst, ↓wp_tup, ↓wp_nil, ↓xp_cons, ↓xp_call0, ↓xp_call1, ↓wp_anil, ↓wp_av, ↓wp_aw, ↓xp_mut1, ↓xp_mut0, ↓xp_cut, ↓wpP_none, ↓xp_psome, ↓xp_iA, ↓xp_iR1, ↓xp_iR2, exO_some, ↓reduceIte, ↓xp_end_rt, ↓xp_end_nx, ↓turn_nx, ↓turn_ct, ↓turn_bk, ↓turn_rt, get_val, get_slot, gets, looks, look, lookL, put, Option.bind_some, asB, asI, wipeE, backE, List.map_cons, List.map_nil, List.length_cons, List.length_nil, List.replicate, List.cons_append, List.nil_append, List.set_cons_zero, List.set_cons_succ, Nat.reduceAdd, Nat.reduceSub, add_ii, sub_ii, neg_i, lt_ii, le_ii, gt_ii, ge_ii, eq_ii, ne_ii, eq_bb, ne_bb, int_i, int_b, abs_i, len_l, len_f, len_t, list_l, list_t, tuple_l, tuple_t, not_b, truth_b, truth_i, ix_l, ix_f, ix_t, cut_l, min_ii, max_ii, gN, gT, gTs, at_0, at_1, at_2, at_3, decide_eq_true_eq, Bool.not_true, Bool.not_false, Bool.false_eq_true, Int.reduceEq, Int.reduceNeg, Int.reduceLT, Int.reduceLE, Int.reduceAdd, Int.reduceSub, D.int.injEq, D.bl.injEq, reduceCtorEq, ne_eq, not_true_eq_false, not_false_eq_true, List.getElem?_cons_succ, List.getElem?_cons_zero, Option.getD_some, Option.getD_none, ↓xp_chain, ↓nxS_nx, iter_l, iter_t, ↓xp_chain3, ↓wp_yes, ↓xp_iR3, ↓xp_iEn, ↓xp_iEn2, ↓xp_mut2, ↓xp_putD, ↓xp_dic0, lookD, kOf, enum_l, enum_s, listA_l, listA_f, listA_t, notT_b]
    exact ⟨_, rfl, d2, rfl, hp2⟩
  rintro ε ⟨d, rfl, hp⟩
  refine wp_seq_of (fun ε => ∃ (d : D) (Y : List (List Nat)) (z5 : Option D), ε = [some d, some (.int (R : Nat)), some (.int (C : Nat)), some (.lst (sl X)), some (.lst (sl Y)), z5] ∧ IsPool ns d ∧ Y.length = R - 1 ∧ ∀ w ∈ Y, w.length = C ∧ lett w) ?_ ?_
  · simp only [↓wp_run, startE, ↓wp_sSeq, ↓thenS_nx, ↓thenS_rt, ↓thenS_bk, ↓thenS_ct, ↓xp_sSet, ↓xp_sDo, ↓xp_sRet, ↓wp_sIf, ↓wp_sNil, ↓wp_sBrk, ↓wp_sCnt, ↓xp_sAsg, ↓xp_sPar, ↓xp_sSetIx, ↓wp_sFor, ↓xp_tB, ↓xp_tTru, ↓wp_tNot, ↓wp_tAnd, ↓wp_tOr, ↓xp_wpV, ↓wp_C, ↓xp_V, ↓wp_O, ↓xp_R, ↓xp_e1, ↓xp_e2, ↓wp_if, ↓xp_and, ↓xp_or, ↓wp_lst, ↓wp_tup, ↓wp_nil, ↓xp_cons, ↓xp_call0, ↓xp_call1, ↓wp_anil, ↓wp_av, ↓wp_aw, ↓xp_mut1, ↓xp_mut0, ↓xp_cut, ↓wpP_none, ↓xp_psome, ↓xp_iA, ↓xp_iR1, ↓xp_iR2, exO_some, ↓reduceIte, ↓xp_end_rt, ↓xp_end_nx, ↓turn_nx, ↓turn_ct, ↓turn_bk, ↓turn_rt, get_val, get_slot, gets, looks, look, lookL, put, Option.bind_some, asB, asI, wipeE, backE, List.map_cons, List.map_nil, List.length_cons, List.length_nil, List.replicate, List.cons_append, List.nil_append, List.set_cons_zero, List.set_cons_succ, Nat.reduceAdd, Nat.reduceSub, add_ii, sub_ii, neg_i, lt_ii, le_ii, gt_ii, ge_ii, eq_ii, ne_ii, eq_bb, ne_bb, int_i, int_b, abs_i, len_l, len_f, len_t, list_l, list_t, tuple_l, tuple_t, not_b, truth_b, truth_i, ix_l, ix_f, ix_t, cut_l, min_ii, max_ii, gN, gT, gTs, at_0, at_1, at_2, at_3, decide_eq_true_eq, Bool.not_true, Bool.not_false, Bool.false_eq_true, Int.reduceEq, Int.reduceNeg, Int.reduceLT, Int.reduceLE, Int.reduceAdd, Int.reduceSub, D.int.injEq, D.bl.injEq, reduceCtorEq, ne_eq, not_true_eq_false, not_false_eq_true, List.getElem?_cons_succ, List.getElem?_cons_zero, Option.getD_some, Option.getD_none, ↓xp_chain, ↓nxS_nx, iter_l, iter_t, ↓xp_chain3, ↓wp_yes, ↓xp_iR3, ↓xp_iEn, ↓xp_iEn2, ↓xp_mut2, ↓xp_putD, ↓xp_dic0, lookD, kOf, enum_l, enum_s, listA_l, listA_f, listA_t, notT_b]
    refine wp_comp_inv (fun i acc ε => ∃ (d : D) (Y : List (List Nat)), ε = [some d, some (.int (R : Nat)), some (.int (C : Nat)), some (.lst (sl X)), none, none] ∧ acc = sl Y ∧ IsPool ns d ∧ Y.length = i ∧ ∀ w ∈ Y, w.length = C ∧ lett w) ?_
    simp only [↓wp_run, startE, ↓wp_sSeq, ↓thenS_nx, ↓thenS_rt, ↓thenS_bk, ↓thenS_ct, ↓xp_sSet, ↓xp_sDo, ↓xp_sRet, ↓wp_sIf, ↓wp_sNil, ↓wp_sBrk, ↓wp_sCnt, ↓xp_sAsg, ↓xp_sPar, ↓xp_sSetIx, ↓wp_sFor, ↓xp_tB, ↓xp_tTru, ↓wp_tNot, ↓wp_tAnd, ↓wp_tOr, ↓xp_wpV, ↓wp_C, ↓xp_V, ↓wp_O, ↓xp_R, ↓xp_e1, ↓xp_e2, ↓wp_if, ↓xp_and, ↓xp_or, ↓wp_lst, ↓wp_tup, ↓wp_nil, ↓xp_cons, ↓xp_call0, ↓xp_call1, ↓wp_anil, ↓wp_av, ↓wp_aw, ↓xp_mut1, ↓xp_mut0, ↓xp_cut, ↓wpP_none, ↓xp_psome, ↓xp_iA, ↓xp_iR1, ↓xp_iR2, exO_some, ↓reduceIte, ↓xp_end_rt, ↓xp_end_nx, ↓turn_nx, ↓turn_ct, ↓turn_bk, ↓turn_rt, get_val, get_slot, gets, looks, look, lookL, put, Option.bind_some, asB, asI, wipeE, backE, List.map_cons, List.map_nil, List.length_cons, List.length_nil, List.replicate, List.cons_append, List.nil_append, List.set_cons_zero, List.set_cons_succ, Nat.reduceAdd, Nat.reduceSub, add_ii, sub_ii, neg_i, lt_ii, le_ii, gt_ii, ge_ii, eq_ii, ne_ii, eq_bb, ne_bb, int_i, int_b, abs_i, len_l, len_f, len_t, list_l, list_t, tuple_l, tuple_t, not_b, truth_b, truth_i, ix_l, ix_f, ix_t, cut_l, min_ii, max_ii, gN, gT, gTs, at_0, at_1, at_2, at_3, decide_eq_true_eq, Bool.not_true, Bool.not_false, Bool.false_eq_true, Int.reduceEq, Int.reduceNeg, Int.reduceLT, Int.reduceLE, Int.reduceAdd, Int.reduceSub, D.int.injEq, D.bl.injEq, reduceCtorEq, ne_eq, not_true_eq_false, not_false_eq_true, List.getElem?_cons_succ, List.getElem?_cons_zero, Option.getD_some, Option.getD_none, ↓xp_chain, ↓nxS_nx, iter_l, iter_t, ↓xp_chain3, ↓wp_yes, ↓xp_iR3, ↓xp_iEn, ↓xp_iEn2, ↓xp_mut2, ↓xp_putD, ↓xp_dic0, lookD, kOf, enum_l, enum_s, listA_l, listA_f, listA_t, notT_b]
    refine ⟨hbR1, ⟨d, [], rfl, rfl, hp, rfl, fun w hw => by simp at hw⟩, fun i z acc ε hd w => ?_, fun acc ε w => ?_⟩
    · obtain ⟨d, Y, rfl, rfl, hp, hl, hw⟩ := w
      refine ⟨_, rfl, ?_⟩
      simp only [↓wp_run, startE, ↓wp_sSeq, ↓thenS_nx, ↓thenS_rt, ↓thenS_bk, ↓thenS_ct, ↓xp_sSet, ↓xp_sDo, ↓xp_sRet, ↓wp_sIf, ↓wp_sNil, ↓wp_sBrk, ↓wp_sCnt, ↓xp_sAsg, ↓xp_sPar, ↓xp_sSetIx, ↓wp_sFor, ↓xp_tB, ↓xp_tTru, ↓wp_tNot, ↓wp_tAnd, ↓wp_tOr, ↓xp_wpV, ↓wp_C, ↓xp_V, ↓wp_O, ↓xp_R, ↓xp_e1, ↓xp_e2, ↓wp_if, ↓xp_and, ↓xp_or, ↓wp_lst, ↓wp_tup, ↓wp_nil, ↓xp_cons, ↓xp_call0, ↓xp_call1, ↓wp_anil, ↓wp_av, ↓wp_aw, ↓xp_mut1, ↓xp_mut0, ↓xp_cut, ↓wpP_none, ↓xp_psome, ↓xp_iA, ↓xp_iR1, ↓xp_iR2, exO_some, ↓reduceIte, ↓xp_end_rt, ↓xp_end_nx, ↓turn_nx, ↓turn_ct, ↓turn_bk, ↓turn_rt, get_val, get_slot, gets, looks, look, lookL, put, Option.bind_some, asB, asI, wipeE, backE, List.map_cons, List.map_nil, List.length_cons, List.length_nil, List.replicate, List.cons_append, List.nil_append, List.set_cons_zero, List.set_cons_succ, Nat.reduceAdd, Nat.reduceSub, add_ii, sub_ii, neg_i, lt_ii, le_ii, gt_ii, ge_ii, eq_ii, ne_ii, eq_bb, ne_bb, int_i, int_b, abs_i, len_l, len_f, len_t, list_l, list_t, tuple_l, tuple_t, not_b, truth_b, truth_i, ix_l, ix_f, ix_t, cut_l, min_ii, max_ii, gN, gT, gTs, at_0, at_1, at_2, at_3, decide_eq_true_eq, Bool.not_true, Bool.not_false, Bool.false_eq_true, Int.reduceEq, Int.reduceNeg, Int.reduceLT, Int.reduceLE, Int.reduceAdd, Int.reduceSub, D.int.injEq, D.bl.injEq, reduceCtorEq, ne_eq, not_true_eq_false, not_false_eq_true, List.getElem?_cons_succ, List.getElem?_cons_zero, Option.getD_some, Option.getD_none, ↓xp_chain, ↓nxS_nx, iter_l, iter_t, ↓xp_chain3, ↓wp_yes, ↓xp_iR3, ↓xp_iEn, ↓xp_iEn2, ↓xp_mut2, ↓xp_putD, ↓xp_dic0, lookD, kOf, enum_l, enum_s, listA_l, listA_f, listA_t, notT_b, if_true]
      refine (letters_ok hp (n := C) (by omega)).mono fun z ws h => ?_
      obtain ⟨⟨w, rfl, hwl, hwc⟩, d2, rfl, hp2⟩ := h
      refine ⟨_, rfl, ?_⟩
      try simp only [↓wp_run, startE, ↓wp_sSeq, ↓thenS_nx, ↓thenS_rt, ↓thenS_bk, ↓thenS_ct, ↓xp_sSet, ↓xp_sDo, ↓xp_sRet, ↓wp_sIf, ↓wp_sNil, ↓wp_sBrk, ↓wp_sCnt, ↓xp_sAsg, ↓xp_sPar, ↓xp_sSetIx, ↓wp_sFor, ↓xp_tB, ↓xp_tTru, ↓wp_tNot, ↓wp_tAnd, ↓wp_tOr, ↓xp_wpV, ↓wp_C, ↓xp_V, ↓wp_O, ↓xp_R, ↓xp_e1, ↓xp_e2, ↓wp_if, ↓xp_and, ↓xp_or, ↓wp_lst, ↓wp_tup, ↓wp_nil, ↓xp_cons, ↓xp_call0, ↓xp_call1, ↓wp_anil, ↓wp_av, ↓wp_aw, ↓xp_mut1, ↓xp_mut0, ↓xp_cut, ↓wpP_none, ↓xp_psome, ↓xp_iA, ↓xp_iR1, ↓xp_iR2, exO_some, ↓reduceIte, ↓xp_end_rt, ↓xp_end_nx, ↓turn_nx, ↓turn_ct, ↓turn_bk, ↓turn_rt, get_val, get_slot, gets, looks, look, lookL, put, Option.bind_some, asB, asI, wipeE, backE, List.map_cons, List.map_nil, List.length_cons, List.length_nil, List.replicate, List.cons_append, List.nil_append, List.set_cons_zero, List.set_cons_succ, Nat.reduceAdd, Nat.reduceSub, add_ii, sub_ii, neg_i, lt_ii, le_ii, gt_ii, ge_ii, eq_ii, ne_ii, eq_bb, ne_bb, int_i, int_b, abs_i, len_l, len_f, len_t, list_l, list_t, tuple_l, tuple_t, not_b, truth_b, truth_i, ix_l, ix_f, ix_t, cut_l, min_ii, max_ii, gN, gT, gTs, at_0, at_1, at_2, at_3, decide_eq_true_eq, Bool.not_true, Bool.not_false, Bool.false_eq_true, Int.reduceEq, Int.reduceNeg, Int.reduceLT, Int.reduceLE, Int.reduceAdd, Int.reduceSub, D.int.injEq, D.bl.injEq, reduceCtorEq, ne_eq, not_true_eq_false, not_false_eq_true, List.getElem?_cons_succ, List.getElem?_cons_zero, Option.getD_some, Option.getD_none, ↓xp_chain, ↓nxS_nx, iter_l, iter_t, ↓xp_chain3, ↓wp_yes, ↓xp_iR3, ↓xp_iEn, ↓xp_iEn2, ↓xp_mut2, ↓xp_putD, ↓xp_dic0, lookD, kOf, enum_l, enum_s, listA_l, listA_f, listA_t, notT_b]
      refine ⟨d2, Y ++ [w], rfl, by simp [sl], hp2, by simp [hl], fun w' hw' => ?_⟩
      rcases List.mem_append.mp hw' with q | q
      · exact hw w' q
      · rw [List.mem_singleton] at q; rw [q]; exact ⟨hwl, hwc⟩
    · obtain ⟨d, Y, rfl, rfl, hp, hl, hw⟩ := w
      rw [rangeL_len, show (((R : Nat) : Int) - 1).toNat = R - 1 by omega] at hl
      refine ⟨by rw [sl_len]; omega, ?_⟩
      try simp only [↓wp_run, startE, ↓wp_sSeq, ↓thenS_nx, ↓thenS_rt, ↓thenS_bk, ↓thenS_ct, ↓xp_sSet, ↓xp_sDo, ↓xp_sRet, ↓wp_sIf, ↓wp_sNil, ↓wp_sBrk, ↓wp_sCnt, ↓xp_sAsg, ↓xp_sPar, ↓xp_sSetIx, ↓wp_sFor, ↓xp_tB, ↓xp_tTru, ↓wp_tNot, ↓wp_tAnd, ↓wp_tOr, ↓xp_wpV, ↓wp_C, ↓xp_V, ↓wp_O, ↓xp_R, ↓xp_e1, ↓xp_e2, ↓wp_if, ↓xp_and, ↓xp_or, ↓wp_lst, ↓wp_tup, ↓wp_nil, ↓xp_cons, ↓xp_call0, ↓xp_call1, ↓wp_anil, ↓wp_av, ↓wp_aw, ↓xp_mut1, ↓xp_mut0, ↓xp_cut, ↓wpP_none, ↓xp_psome, ↓xp_iA, ↓xp_iR1, ↓xp_iR2, exO_some, ↓reduceIte, ↓xp_end_rt, ↓xp_end_nx, ↓turn_nx, ↓turn_ct, ↓turn_bk, ↓turn_rt, get_val, get_slot, gets, looks, look, lookL, put, Option.bind_some, asB, asI, wipeE, backE, List.map_cons, List.map_nil, List.length_cons, List.length_nil, List.replicate, List.cons_append, List.nil_append, List.set_cons_zero, List.set_cons_succ, Nat.reduceAdd, Nat.reduceSub, add_ii, sub_ii, neg_i, lt_ii, le_ii, gt_ii, ge_ii, eq_ii, ne_ii, eq_bb, ne_bb, int_i, int_b, abs_i, len_l, len_f, len_t, list_l, list_t, tuple_l, tuple_t, not_b, truth_b, truth_i, ix_l, ix_f, ix_t, cut_l, min_ii, max_ii, gN, gT, gTs, at_0, at_1, at_2, at_3, decide_eq_true_eq, Bool.not_true, Bool.not_false, Bool.false_eq_true, Int.reduceEq, Int.reduceNeg, Int.reduceLT, Int.reduceLE, Int.reduceAdd, Int.reduceSub, D.int.injEq, D.bl.injEq, reduceCtorEq, ne_eq, not_true_eq_false, not_false_eq_true, List.getElem?_cons_succ, List.getElem?_cons_zero, Option.getD_some, Option.getD_none, ↓xp_chain, ↓nxS_nx, iter_l, iter_t, ↓xp_chain3, ↓wp_yes, ↓xp_iR3, ↓xp_iEn, ↓xp_iEn2, ↓xp_mut2, ↓xp_putD, ↓xp_dic0, lookD, kOf, enum_l, enum_s, listA_l, listA_f, listA_t, notT_b]
      exact ⟨d, Y, _, rfl, hp, hl, hw⟩
  rintro ε ⟨d, Y, z5, rfl, hp, hY1, hY2⟩
  simp only [↓wp_run, startE, ↓wp_sSeq, ↓thenS_nx, ↓thenS_rt, ↓thenS_bk, ↓thenS_ct, ↓xp_sSet, ↓xp_sDo, ↓xp_sRet, ↓wp_sIf, ↓wp_sNil, ↓wp_sBrk, ↓wp_sCnt, ↓xp_sAsg, ↓xp_sPar, ↓xp_sSetIx, ↓wp_sFor, ↓xp_tB, ↓xp_tTru, ↓wp_tNot, ↓wp_tAnd, ↓wp_tOr, ↓xp_wpV, ↓wp_C, ↓xp_V, ↓wp_O, ↓xp_R, ↓xp_e1, ↓xp_e2, ↓wp_if, ↓xp_and, ↓xp_or, ↓wp_lst, ↓wp_tup, ↓wp_nil, ↓xp_cons, ↓xp_call0, ↓xp_call1, ↓wp_anil, ↓wp_av, ↓wp_aw, ↓xp_mut1, ↓xp_mut0, ↓xp_cut, ↓wpP_none, ↓xp_psome, ↓xp_iA, ↓xp_iR1, ↓xp_iR2, exO_some, ↓reduceIte, ↓xp_end_rt, ↓xp_end_nx, ↓turn_nx, ↓turn_ct, ↓turn_bk, ↓turn_rt, get_val, get_slot, gets, looks, look, lookL, put, Option.bind_some, asB, asI, wipeE, backE, List.map_cons, List.map_nil, List.length_cons, List.length_nil, List.replicate, List.cons_append, List.nil_append, List.set_cons_zero, List.set_cons_succ, Nat.reduceAdd, Nat.reduceSub, add_ii, sub_ii, neg_i, lt_ii, le_ii, gt_ii, ge_ii, eq_ii, ne_ii, eq_bb, ne_bb, int_i, int_b, abs_i, len_l, len_f, len_t, list_l, list_t, tuple_l, tuple_t, not_b, truth_b, truth_i, ix_l, ix_f, ix_t, cut_l, min_ii, max_ii, gN, gT, gTs, at_0, at_1, at_2, at_3, decide_eq_true_eq, Bool.not_true, Bool.not_false, Bool.false_eq_true, Int.reduceEq, Int.reduceNeg, Int.reduceLT, Int.reduceLE, Int.reduceAdd, Int.reduceSub, D.int.injEq, D.bl.injEq, reduceCtorEq, ne_eq, not_true_eq_false, not_false_eq_true, List.getElem?_cons_succ, List.getElem?_cons_zero, Option.getD_some, Option.getD_none, ↓xp_chain, ↓nxS_nx, iter_l, iter_t, ↓xp_chain3, ↓wp_yes, ↓xp_iR3, ↓xp_iEn, ↓xp_iEn2, ↓xp_mut2, ↓xp_putD, ↓xp_dic0, lookD, kOf, enum_l, enum_s, listA_l, listA_f, listA_t, notT_b]
  exact ⟨⟨(X, Y), rfl, hX1, hX2, hY1, hY2⟩, d, rfl, hp⟩
theorem drw_ok {d : D} (hp : IsPool ns d) (h : Sz R C) (hm : R * C ≤ 6) (hv : Vt R C t) {x6 x7 x8 x9 x10 x11 x12 : Option D} : wpS (sIf (VS.tB (e2 dEq (eCall1 u_law_draw_f [.w 1, .v (eC (.int 2))] 1) (eC (.int 0)))) (sSeq (sSet 6 (eComp (iR1 (e2 dMul (eV 2) (eV 3))) (gN 11) tYesD (eMut1 5 fPop1 (eCall1 u_law_draw_f [.w 1, .v (e1 dLen (eO 5))] 1)) [11])) (sSet 4 (eCall0 map_of_f [.v (eV 2), .v (eV 3), .v (eV 6)]))) sNil) [some (.fz (ns.map .int)), some d, some (.int (R : Nat)), some (.int (C : Nat)), some (mD R C t), some (.lst (il (ni (List.range (R * C))))), x6, x7, x8, x9, x10, x11, x12] (nxS fun ε => ∃ (d : D) (t : TT) (x5 x6 x11 : Option D), ε = [some (.fz (ns.map .int)), some d, some (.int (R : Nat)), some (.int (C : Nat)), some (mD R C t), x5, x6, x7, x8, x9, x10, x11, x12] ∧ IsPool ns d ∧ Vt R C t) := by
  have ht : wpT (VS.tB (e2 dEq (eCall1 u_law_draw_f [.w 1, .v (eC (.int 2))] 1) (eC (.int 0)))) [some (.fz (ns.map .int)), some d, some (.int (R : Nat)), some (.int (C : Nat)), some (mD R C t), some (.lst (il (ni (List.range (R * C))))), x6, x7, x8, x9, x10, x11, x12] (fun c ε => ∃ d, ε = [some (.fz (ns.map .int)), some d, some (.int (R : Nat)), some (.int (C : Nat)), some (mD R C t), some (.lst (il (ni (List.range (R * C))))), x6, x7, x8, x9, x10, x11, x12] ∧ IsPool ns d) := by
    simp only [↓wp_run, startE, ↓wp_sSeq, ↓thenS_nx, ↓thenS_rt, ↓thenS_bk, ↓thenS_ct, ↓xp_sSet, ↓xp_sDo, ↓xp_sRet, ↓wp_sIf, ↓wp_sNil, ↓wp_sBrk, ↓wp_sCnt, ↓xp_sAsg, ↓xp_sPar, ↓xp_sSetIx, ↓wp_sFor, ↓xp_tB, ↓xp_tTru, ↓wp_tNot, ↓wp_tAnd, ↓wp_tOr, ↓xp_wpV, ↓wp_C, ↓xp_V, ↓wp_O, ↓xp_R, ↓xp_e1, ↓xp_e2, ↓wp_if, ↓xp_and, ↓xp_or, ↓wp_lst, ↓wp_tup, ↓wp_nil, ↓xp_cons, ↓xp_call0, ↓xp_call1, ↓wp_anil, ↓wp_av, ↓wp_aw, ↓xp_mut1, ↓xp_mut0, ↓xp_cut, ↓wpP_none, ↓xp_psome, ↓xp_iA, ↓xp_iR1, ↓xp_iR2, exO_some, ↓reduceIte, ↓xp_end_rt, ↓xp_end_nx, ↓turn_nx, ↓turn_ct, ↓turn_bk, ↓turn_rt, get_val, get_slot, gets, looks, look, lookL, put, Option.bind_some, asB, asI, wipeE, backE, List.map_cons, List.map_nil, List.length_cons, List.length_nil, List.replicate, List.cons_append, List.nil_append, List.set_cons_zero, List.set_cons_succ, Nat.reduceAdd, Nat.reduceSub, add_ii, sub_ii, neg_i, lt_ii, le_ii, gt_ii, ge_ii, eq_ii, ne_ii, eq_bb, ne_bb, int_i, int_b, abs_i, len_l, len_f, len_t, list_l, list_t, tuple_l, tuple_t, not_b, truth_b, truth_i, ix_l, ix_f, ix_t, cut_l, min_ii, max_ii, gN, gT, gTs, at_0, at_1, at_2, at_3, decide_eq_true_eq, Bool.not_true, Bool.not_false, Bool.false_eq_true, Int.reduceEq, Int.reduceNeg, Int.reduceLT, Int.reduceLE, Int.reduceAdd, Int.reduceSub, D.int.injEq, D.bl.injEq, reduceCtorEq, ne_eq, not_true_eq_false, not_false_eq_true, List.getElem?_cons_succ, List.getElem?_cons_zero, Option.getD_some, Option.getD_none, ↓xp_chain, ↓nxS_nx, iter_l, iter_t, ↓xp_chain3, ↓wp_yes, ↓xp_iR3, ↓xp_iEn, ↓xp_iEn2, ↓xp_mut2, ↓xp_putD, ↓xp_dic0, lookD, kOf, enum_l, enum_s, listA_l, listA_f, listA_t, notT_b]
    refine (draw_ok hp (by omega) (by omega)).mono fun z ws h => ?_
    obtain ⟨v, rfl, v0, v2, d2, rfl, hp2⟩ := h
    refine ⟨_, rfl, ?_⟩
    try simp only [↓wp_run, startE, ↓wp_sSeq, ↓thenS_nx, ↓thenS_rt, ↓thenS_bk, ↓thenS_ct, ↓xp_sSet, ↓xp_sDo, ↓xp_sRet, ↓wp_sIf, ↓wp_sNil, ↓wp_sBrk, ↓wp_sCnt, ↓xp_sAsg, ↓xp_sPar, ↓xp_sSetIx, ↓wp_sFor, ↓xp_tB, ↓xp_tTru, ↓wp_tNot, ↓wp_tAnd, ↓wp_tOr, ↓xp_wpV, ↓wp_C, ↓xp_V, ↓wp_O, ↓xp_R, ↓xp_e1, ↓xp_e2, ↓wp_if, ↓xp_and, ↓xp_or, ↓wp_lst, ↓wp_tup, ↓wp_nil, ↓xp_cons, ↓xp_call0, ↓xp_call1, ↓wp_anil, ↓wp_av, ↓wp_aw, ↓xp_mut1, ↓xp_mut0, ↓xp_cut, ↓wpP_none, ↓xp_psome, ↓xp_iA, ↓xp_iR1, ↓xp_iR2, exO_some, ↓reduceIte, ↓xp_end_rt, ↓xp_end_nx, ↓turn_nx, ↓turn_ct, ↓turn_bk, ↓turn_rt, get_val, get_slot, gets, looks, look, lookL, put, Option.bind_some, asB, asI, wipeE, backE, List.map_cons, List.map_nil, List.length_cons, List.length_nil, List.replicate, List.cons_append, List.nil_append, List.set_cons_zero, List.set_cons_succ, Nat.reduceAdd, Nat.reduceSub, add_ii, sub_ii, neg_i, lt_ii, le_ii, gt_ii, ge_ii, eq_ii, ne_ii, eq_bb, ne_bb, int_i, int_b, abs_i, len_l, len_f, len_t, list_l, list_t, tuple_l, tuple_t, not_b, truth_b, truth_i, ix_l, ix_f, ix_t, cut_l, min_ii, max_ii, gN, gT, gTs, at_0, at_1, at_2, at_3, decide_eq_true_eq, Bool.not_true, Bool.not_false, Bool.false_eq_true, Int.reduceEq, Int.reduceNeg, Int.reduceLT, Int.reduceLE, Int.reduceAdd, Int.reduceSub, D.int.injEq, D.bl.injEq, reduceCtorEq, ne_eq, not_true_eq_false, not_false_eq_true, List.getElem?_cons_succ, List.getElem?_cons_zero, Option.getD_some, Option.getD_none, ↓xp_chain, ↓nxS_nx, iter_l, iter_t, ↓xp_chain3, ↓wp_yes, ↓xp_iR3, ↓xp_iEn, ↓xp_iEn2, ↓xp_mut2, ↓xp_putD, ↓xp_dic0, lookD, kOf, enum_l, enum_s, listA_l, listA_f, listA_t, notT_b]
    exact ⟨d2, rfl, hp2⟩
  refine wp_sIf.mpr ?_
  obtain ⟨c, ε', e, d, rfl, hp⟩ := ht
  refine ⟨_, _, e, ?_⟩
  cases c with
  | true =>
    simp only [if_true]
    have hmu := mulN (r := R) (n := C) (by have := h.2.2.2; omega)
    have hb : inB ((R * C : Nat) : Int) = true := inb (by omega) (by omega)
    refine wp_seq_of (fun ε => ∃ (d : D) (q : List Nat) (x5 x11 : Option D), ε = [some (.fz (ns.map .int)), some d, some (.int (R : Nat)), some (.int (C : Nat)), some (mD R C t), x5, some (nn q), x7, x8, x9, x10, x11, x12] ∧ IsPool ns d ∧ q.Perm (List.range (R * C))) ?_ ?_
    · simp only [↓wp_run, startE, ↓wp_sSeq, ↓thenS_nx, ↓thenS_rt, ↓thenS_bk, ↓thenS_ct, ↓xp_sSet, ↓xp_sDo, ↓xp_sRet, ↓wp_sIf, ↓wp_sNil, ↓wp_sBrk, ↓wp_sCnt, ↓xp_sAsg, ↓xp_sPar, ↓xp_sSetIx, ↓wp_sFor, ↓xp_tB, ↓xp_tTru, ↓wp_tNot, ↓wp_tAnd, ↓wp_tOr, ↓xp_wpV, ↓wp_C, ↓xp_V, ↓wp_O, ↓xp_R, ↓xp_e1, ↓xp_e2, ↓wp_if, ↓xp_and, ↓xp_or, ↓wp_lst, ↓wp_tup, ↓wp_nil, ↓xp_cons, ↓xp_call0, ↓xp_call1, ↓wp_anil, ↓wp_av, ↓wp_aw, ↓xp_mut1, ↓xp_mut0, ↓xp_cut, ↓wpP_none, ↓xp_psome, ↓xp_iA, ↓xp_iR1, ↓xp_iR2, exO_some, ↓reduceIte, ↓xp_end_rt, ↓xp_end_nx, ↓turn_nx, ↓turn_ct, ↓turn_bk, ↓turn_rt, get_val, get_slot, gets, looks, look, lookL, put, Option.bind_some, asB, asI, wipeE, backE, List.map_cons, List.map_nil, List.length_cons, List.length_nil, List.replicate, List.cons_append, List.nil_append, List.set_cons_zero, List.set_cons_succ, Nat.reduceAdd, Nat.reduceSub, add_ii, sub_ii, neg_i, lt_ii, le_ii, gt_ii, ge_ii, eq_ii, ne_ii, eq_bb, ne_bb, int_i, int_b, abs_i, len_l, len_f, len_t, list_l, list_t, tuple_l, tuple_t, not_b, truth_b, truth_i, ix_l, ix_f, ix_t, cut_l, min_ii, max_ii, gN, gT, gTs, at_0, at_1, at_2, at_3, decide_eq_true_eq, Bool.not_true, Bool.not_false, Bool.false_eq_true, Int.reduceEq, Int.reduceNeg, Int.reduceLT, Int.reduceLE, Int.reduceAdd, Int.reduceSub, D.int.injEq, D.bl.injEq, reduceCtorEq, ne_eq, not_true_eq_false, not_false_eq_true, List.getElem?_cons_succ, List.getElem?_cons_zero, Option.getD_some, Option.getD_none, ↓xp_chain, ↓nxS_nx, iter_l, iter_t, ↓xp_chain3, ↓wp_yes, ↓xp_iR3, ↓xp_iEn, ↓xp_iEn2, ↓xp_mut2, ↓xp_putD, ↓xp_dic0, lookD, kOf, enum_l, enum_s, listA_l, listA_f, listA_t, notT_b]
      refine wp_comp_inv (fun i acc ε => ∃ (d : D) (L F : List Nat), ε = [some (.fz (ns.map .int)), some d, some (.int (R : Nat)), some (.int (C : Nat)), some (mD R C t), some (.lst (il (ni L))), x6, x7, x8, x9, x10, none, x12] ∧ acc = il (ni F) ∧ IsPool ns d ∧ L.length + i = R * C ∧ F.length = i ∧ (F ++ L).Perm (List.range (R * C))) ?_
      simp only [↓wp_run, startE, ↓wp_sSeq, ↓thenS_nx, ↓thenS_rt, ↓thenS_bk, ↓thenS_ct, ↓xp_sSet, ↓xp_sDo, ↓xp_sRet, ↓wp_sIf, ↓wp_sNil, ↓wp_sBrk, ↓wp_sCnt, ↓xp_sAsg, ↓xp_sPar, ↓xp_sSetIx, ↓wp_sFor, ↓xp_tB, ↓xp_tTru, ↓wp_tNot, ↓wp_tAnd, ↓wp_tOr, ↓xp_wpV, ↓wp_C, ↓xp_V, ↓wp_O, ↓xp_R, ↓xp_e1, ↓xp_e2, ↓wp_if, ↓xp_and, ↓xp_or, ↓wp_lst, ↓wp_tup, ↓wp_nil, ↓xp_cons, ↓xp_call0, ↓xp_call1, ↓wp_anil, ↓wp_av, ↓wp_aw, ↓xp_mut1, ↓xp_mut0, ↓xp_cut, ↓wpP_none, ↓xp_psome, ↓xp_iA, ↓xp_iR1, ↓xp_iR2, exO_some, ↓reduceIte, ↓xp_end_rt, ↓xp_end_nx, ↓turn_nx, ↓turn_ct, ↓turn_bk, ↓turn_rt, get_val, get_slot, gets, looks, look, lookL, put, Option.bind_some, asB, asI, wipeE, backE, List.map_cons, List.map_nil, List.length_cons, List.length_nil, List.replicate, List.cons_append, List.nil_append, List.set_cons_zero, List.set_cons_succ, Nat.reduceAdd, Nat.reduceSub, add_ii, sub_ii, neg_i, lt_ii, le_ii, gt_ii, ge_ii, eq_ii, ne_ii, eq_bb, ne_bb, int_i, int_b, abs_i, len_l, len_f, len_t, list_l, list_t, tuple_l, tuple_t, not_b, truth_b, truth_i, ix_l, ix_f, ix_t, cut_l, min_ii, max_ii, gN, gT, gTs, at_0, at_1, at_2, at_3, decide_eq_true_eq, Bool.not_true, Bool.not_false, Bool.false_eq_true, Int.reduceEq, Int.reduceNeg, Int.reduceLT, Int.reduceLE, Int.reduceAdd, Int.reduceSub, D.int.injEq, D.bl.injEq, reduceCtorEq, ne_eq, not_true_eq_false, not_false_eq_true, List.getElem?_cons_succ, List.getElem?_cons_zero, Option.getD_some, Option.getD_none, ↓xp_chain, ↓nxS_nx, iter_l, iter_t, ↓xp_chain3, ↓wp_yes, ↓xp_iR3, ↓xp_iEn, ↓xp_iEn2, ↓xp_mut2, ↓xp_putD, ↓xp_dic0, lookD, kOf, enum_l, enum_s, listA_l, listA_f, listA_t, notT_b, hmu]
      refine ⟨hb, ⟨d, List.range (R * C), [], rfl, rfl, hp, by simp, rfl, .refl _⟩, fun i z acc ε hd w => ?_, fun acc ε w => ?_⟩
      · obtain ⟨d, L, F, rfl, rfl, hp, hL, hF, hP⟩ := w
        have hi := (List.getElem?_eq_some_iff.mp hd).1
        rw [rangeL_len, Int.toNat_natCast] at hi
        have hlL : (il (ni L)).length = L.length := by rw [il_len, ni_len]
        refine ⟨_, rfl, ?_⟩
        simp only [↓wp_run, startE, ↓wp_sSeq, ↓thenS_nx, ↓thenS_rt, ↓thenS_bk, ↓thenS_ct, ↓xp_sSet, ↓xp_sDo, ↓xp_sRet, ↓wp_sIf, ↓wp_sNil, ↓wp_sBrk, ↓wp_sCnt, ↓xp_sAsg, ↓xp_sPar, ↓xp_sSetIx, ↓wp_sFor, ↓xp_tB, ↓xp_tTru, ↓wp_tNot, ↓wp_tAnd, ↓wp_tOr, ↓xp_wpV, ↓wp_C, ↓xp_V, ↓wp_O, ↓xp_R, ↓xp_e1, ↓xp_e2, ↓wp_if, ↓xp_and, ↓xp_or, ↓wp_lst, ↓wp_tup, ↓wp_nil, ↓xp_cons, ↓xp_call0, ↓xp_call1, ↓wp_anil, ↓wp_av, ↓wp_aw, ↓xp_mut1, ↓xp_mut0, ↓xp_cut, ↓wpP_none, ↓xp_psome, ↓xp_iA, ↓xp_iR1, ↓xp_iR2, exO_some, ↓reduceIte, ↓xp_end_rt, ↓xp_end_nx, ↓turn_nx, ↓turn_ct, ↓turn_bk, ↓turn_rt, get_val, get_slot, gets, looks, look, lookL, put, Option.bind_some, asB, asI, wipeE, backE, List.map_cons, List.map_nil, List.length_cons, List.length_nil, List.replicate, List.cons_append, List.nil_append, List.set_cons_zero, List.set_cons_succ, Nat.reduceAdd, Nat.reduceSub, add_ii, sub_ii, neg_i, lt_ii, le_ii, gt_ii, ge_ii, eq_ii, ne_ii, eq_bb, ne_bb, int_i, int_b, abs_i, len_l, len_f, len_t, list_l, list_t, tuple_l, tuple_t, not_b, truth_b, truth_i, ix_l, ix_f, ix_t, cut_l, min_ii, max_ii, gN, gT, gTs, at_0, at_1, at_2, at_3, decide_eq_true_eq, Bool.not_true, Bool.not_false, Bool.false_eq_true, Int.reduceEq, Int.reduceNeg, Int.reduceLT, Int.reduceLE, Int.reduceAdd, Int.reduceSub, D.int.injEq, D.bl.injEq, reduceCtorEq, ne_eq, not_true_eq_false, not_false_eq_true, List.getElem?_cons_succ, List.getElem?_cons_zero, Option.getD_some, Option.getD_none, ↓xp_chain, ↓nxS_nx, iter_l, iter_t, ↓xp_chain3, ↓wp_yes, ↓xp_iR3, ↓xp_iEn, ↓xp_iEn2, ↓xp_mut2, ↓xp_putD, ↓xp_dic0, lookD, kOf, enum_l, enum_s, listA_l, listA_f, listA_t, notT_b, if_true, hlL]
        refine (draw_ok hp (n := (L.length : Nat)) (by omega) (by omega)).mono fun z ws h => ?_
        obtain ⟨v, rfl, v0, v2, d2, rfl, hp2⟩ := h
        refine ⟨_, rfl, ?_⟩
        have hv : v.toNat < L.length := by omega
        have e1 := pop_nn (l := L) hv (by omega)
        rw [Int.toNat_of_nonneg v0] at e1
        simp only [↓wp_run, startE, ↓wp_sSeq, ↓thenS_nx, ↓thenS_rt, ↓thenS_bk, ↓thenS_ct, ↓xp_sSet, ↓xp_sDo, ↓xp_sRet, ↓wp_sIf, ↓wp_sNil, ↓wp_sBrk, ↓wp_sCnt, ↓xp_sAsg, ↓xp_sPar, ↓xp_sSetIx, ↓wp_sFor, ↓xp_tB, ↓xp_tTru, ↓wp_tNot, ↓wp_tAnd, ↓wp_tOr, ↓xp_wpV, ↓wp_C, ↓xp_V, ↓wp_O, ↓xp_R, ↓xp_e1, ↓xp_e2, ↓wp_if, ↓xp_and, ↓xp_or, ↓wp_lst, ↓wp_tup, ↓wp_nil, ↓xp_cons, ↓xp_call0, ↓xp_call1, ↓wp_anil, ↓wp_av, ↓wp_aw, ↓xp_mut1, ↓xp_mut0, ↓xp_cut, ↓wpP_none, ↓xp_psome, ↓xp_iA, ↓xp_iR1, ↓xp_iR2, exO_some, ↓reduceIte, ↓xp_end_rt, ↓xp_end_nx, ↓turn_nx, ↓turn_ct, ↓turn_bk, ↓turn_rt, get_val, get_slot, gets, looks, look, lookL, put, Option.bind_some, asB, asI, wipeE, backE, List.map_cons, List.map_nil, List.length_cons, List.length_nil, List.replicate, List.cons_append, List.nil_append, List.set_cons_zero, List.set_cons_succ, Nat.reduceAdd, Nat.reduceSub, add_ii, sub_ii, neg_i, lt_ii, le_ii, gt_ii, ge_ii, eq_ii, ne_ii, eq_bb, ne_bb, int_i, int_b, abs_i, len_l, len_f, len_t, list_l, list_t, tuple_l, tuple_t, not_b, truth_b, truth_i, ix_l, ix_f, ix_t, cut_l, min_ii, max_ii, gN, gT, gTs, at_0, at_1, at_2, at_3, decide_eq_true_eq, Bool.not_true, Bool.not_false, Bool.false_eq_true, Int.reduceEq, Int.reduceNeg, Int.reduceLT, Int.reduceLE, Int.reduceAdd, Int.reduceSub, D.int.injEq, D.bl.injEq, reduceCtorEq, ne_eq, not_true_eq_false, not_false_eq_true, List.getElem?_cons_succ, List.getElem?_cons_zero, Option.getD_some, Option.getD_none, ↓xp_chain, ↓nxS_nx, iter_l, iter_t, ↓xp_chain3, ↓wp_yes, ↓xp_iR3, ↓xp_iEn, ↓xp_iEn2, ↓xp_mut2, ↓xp_putD, ↓xp_dic0, lookD, kOf, enum_l, enum_s, listA_l, listA_f, listA_t, notT_b, e1]
        refine ⟨d2, L.eraseIdx v.toNat, F ++ [L[v.toNat]], rfl, by simp [il, ni], hp2, by rw [List.length_eraseIdx, if_pos hv]; omega, by simp [hF], ?_⟩
        rw [List.append_assoc]
        exact ((erase_perm hv).append_left F).trans hP
      · obtain ⟨d, L, F, rfl, rfl, hp, hL, hF, hP⟩ := w
        rw [rangeL_len, Int.toNat_natCast] at hL hF
        have : L = [] := List.length_eq_zero_iff.mp (by omega)
        subst this
        rw [List.append_nil] at hP
        refine ⟨by rw [il_len, ni_len]; omega, ?_⟩
        try simp only [↓wp_run, startE, ↓wp_sSeq, ↓thenS_nx, ↓thenS_rt, ↓thenS_bk, ↓thenS_ct, ↓xp_sSet, ↓xp_sDo, ↓xp_sRet, ↓wp_sIf, ↓wp_sNil, ↓wp_sBrk, ↓wp_sCnt, ↓xp_sAsg, ↓xp_sPar, ↓xp_sSetIx, ↓wp_sFor, ↓xp_tB, ↓xp_tTru, ↓wp_tNot, ↓wp_tAnd, ↓wp_tOr, ↓xp_wpV, ↓wp_C, ↓xp_V, ↓wp_O, ↓xp_R, ↓xp_e1, ↓xp_e2, ↓wp_if, ↓xp_and, ↓xp_or, ↓wp_lst, ↓wp_tup, ↓wp_nil, ↓xp_cons, ↓xp_call0, ↓xp_call1, ↓wp_anil, ↓wp_av, ↓wp_aw, ↓xp_mut1, ↓xp_mut0, ↓xp_cut, ↓wpP_none, ↓xp_psome, ↓xp_iA, ↓xp_iR1, ↓xp_iR2, exO_some, ↓reduceIte, ↓xp_end_rt, ↓xp_end_nx, ↓turn_nx, ↓turn_ct, ↓turn_bk, ↓turn_rt, get_val, get_slot, gets, looks, look, lookL, put, Option.bind_some, asB, asI, wipeE, backE, List.map_cons, List.map_nil, List.length_cons, List.length_nil, List.replicate, List.cons_append, List.nil_append, List.set_cons_zero, List.set_cons_succ, Nat.reduceAdd, Nat.reduceSub, add_ii, sub_ii, neg_i, lt_ii, le_ii, gt_ii, ge_ii, eq_ii, ne_ii, eq_bb, ne_bb, int_i, int_b, abs_i, len_l, len_f, len_t, list_l, list_t, tuple_l, tuple_t, not_b, truth_b, truth_i, ix_l, ix_f, ix_t, cut_l, min_ii, max_ii, gN, gT, gTs, at_0, at_1, at_2, at_3, decide_eq_true_eq, Bool.not_true, Bool.not_false, Bool.false_eq_true, Int.reduceEq, Int.reduceNeg, Int.reduceLT, Int.reduceLE, Int.reduceAdd, Int.reduceSub, D.int.injEq, D.bl.injEq, reduceCtorEq, ne_eq, not_true_eq_false, not_false_eq_true, List.getElem?_cons_succ, List.getElem?_cons_zero, Option.getD_some, Option.getD_none, ↓xp_chain, ↓nxS_nx, iter_l, iter_t, ↓xp_chain3, ↓wp_yes, ↓xp_iR3, ↓xp_iEn, ↓xp_iEn2, ↓xp_mut2, ↓xp_putD, ↓xp_dic0, lookD, kOf, enum_l, enum_s, listA_l, listA_f, listA_t, notT_b]
        exact ⟨d, F, _, _, rfl, hp, hP⟩
    rintro ε ⟨d, q, x5, x11, rfl, hp, hq⟩
    have hmo := map_of_eq h hm (o := q) fun s hs => hq.mem_iff.mpr (List.mem_range.mpr hs)
    simp only [↓wp_run, startE, ↓wp_sSeq, ↓thenS_nx, ↓thenS_rt, ↓thenS_bk, ↓thenS_ct, ↓xp_sSet, ↓xp_sDo, ↓xp_sRet, ↓wp_sIf, ↓wp_sNil, ↓wp_sBrk, ↓wp_sCnt, ↓xp_sAsg, ↓xp_sPar, ↓xp_sSetIx, ↓wp_sFor, ↓xp_tB, ↓xp_tTru, ↓wp_tNot, ↓wp_tAnd, ↓wp_tOr, ↓xp_wpV, ↓wp_C, ↓xp_V, ↓wp_O, ↓xp_R, ↓xp_e1, ↓xp_e2, ↓wp_if, ↓xp_and, ↓xp_or, ↓wp_lst, ↓wp_tup, ↓wp_nil, ↓xp_cons, ↓xp_call0, ↓xp_call1, ↓wp_anil, ↓wp_av, ↓wp_aw, ↓xp_mut1, ↓xp_mut0, ↓xp_cut, ↓wpP_none, ↓xp_psome, ↓xp_iA, ↓xp_iR1, ↓xp_iR2, exO_some, ↓reduceIte, ↓xp_end_rt, ↓xp_end_nx, ↓turn_nx, ↓turn_ct, ↓turn_bk, ↓turn_rt, get_val, get_slot, gets, looks, look, lookL, put, Option.bind_some, asB, asI, wipeE, backE, List.map_cons, List.map_nil, List.length_cons, List.length_nil, List.replicate, List.cons_append, List.nil_append, List.set_cons_zero, List.set_cons_succ, Nat.reduceAdd, Nat.reduceSub, add_ii, sub_ii, neg_i, lt_ii, le_ii, gt_ii, ge_ii, eq_ii, ne_ii, eq_bb, ne_bb, int_i, int_b, abs_i, len_l, len_f, len_t, list_l, list_t, tuple_l, tuple_t, not_b, truth_b, truth_i, ix_l, ix_f, ix_t, cut_l, min_ii, max_ii, gN, gT, gTs, at_0, at_1, at_2, at_3, decide_eq_true_eq, Bool.not_true, Bool.not_false, Bool.false_eq_true, Int.reduceEq, Int.reduceNeg, Int.reduceLT, Int.reduceLE, Int.reduceAdd, Int.reduceSub, D.int.injEq, D.bl.injEq, reduceCtorEq, ne_eq, not_true_eq_false, not_false_eq_true, List.getElem?_cons_succ, List.getElem?_cons_zero, Option.getD_some, Option.getD_none, ↓xp_chain, ↓nxS_nx, iter_l, iter_t, ↓xp_chain3, ↓wp_yes, ↓xp_iR3, ↓xp_iEn, ↓xp_iEn2, ↓xp_mut2, ↓xp_putD, ↓xp_dic0, lookD, kOf, enum_l, enum_s, listA_l, listA_f, listA_t, notT_b, wpF_eq hmo]
    exact ⟨d, mp R C q, _, _, _, rfl, hp, vt_mp R C q⟩
  | false =>
    simp only [↓wp_run, startE, ↓wp_sSeq, ↓thenS_nx, ↓thenS_rt, ↓thenS_bk, ↓thenS_ct, ↓xp_sSet, ↓xp_sDo, ↓xp_sRet, ↓wp_sIf, ↓wp_sNil, ↓wp_sBrk, ↓wp_sCnt, ↓xp_sAsg, ↓xp_sPar, ↓xp_sSetIx, ↓wp_sFor, ↓xp_tB, ↓xp_tTru, ↓wp_tNot, ↓wp_tAnd, ↓wp_tOr, ↓xp_wpV, ↓wp_C, ↓xp_V, ↓wp_O, ↓xp_R, ↓xp_e1, ↓xp_e2, ↓wp_if, ↓xp_and, ↓xp_or, ↓wp_lst, ↓wp_tup, ↓wp_nil, ↓xp_cons, ↓xp_call0, ↓xp_call1, ↓wp_anil, ↓wp_av, ↓wp_aw, ↓xp_mut1, ↓xp_mut0, ↓xp_cut, ↓wpP_none, ↓xp_psome, ↓xp_iA, ↓xp_iR1, ↓xp_iR2, exO_some, ↓reduceIte, ↓xp_end_rt, ↓xp_end_nx, ↓turn_nx, ↓turn_ct, ↓turn_bk, ↓turn_rt, get_val, get_slot, gets, looks, look, lookL, put, Option.bind_some, asB, asI, wipeE, backE, List.map_cons, List.map_nil, List.length_cons, List.length_nil, List.replicate, List.cons_append, List.nil_append, List.set_cons_zero, List.set_cons_succ, Nat.reduceAdd, Nat.reduceSub, add_ii, sub_ii, neg_i, lt_ii, le_ii, gt_ii, ge_ii, eq_ii, ne_ii, eq_bb, ne_bb, int_i, int_b, abs_i, len_l, len_f, len_t, list_l, list_t, tuple_l, tuple_t, not_b, truth_b, truth_i, ix_l, ix_f, ix_t, cut_l, min_ii, max_ii, gN, gT, gTs, at_0, at_1, at_2, at_3, decide_eq_true_eq, Bool.not_true, Bool.not_false, Bool.false_eq_true, Int.reduceEq, Int.reduceNeg, Int.reduceLT, Int.reduceLE, Int.reduceAdd, Int.reduceSub, D.int.injEq, D.bl.injEq, reduceCtorEq, ne_eq, not_true_eq_false, not_false_eq_true, List.getElem?_cons_succ, List.getElem?_cons_zero, Option.getD_some, Option.getD_none, ↓xp_chain, ↓nxS_nx, iter_l, iter_t, ↓xp_chain3, ↓wp_yes, ↓xp_iR3, ↓xp_iEn, ↓xp_iEn2, ↓xp_mut2, ↓xp_putD, ↓xp_dic0, lookD, kOf, enum_l, enum_s, listA_l, listA_f, listA_t, notT_b, Bool.false_eq_true, if_false]
    exact ⟨d, t, _, _, _, rfl, hp, hv⟩
theorem ex_len {w : List Nat} {n : Nat} (h : w.length = n) : (exch w).length = n := by unfold exch; rw [List.length_map]; exact h
theorem ex_ok (h : Sz R C) (hv : Vt R C t) {x1 x5 x6 x7 x8 x9 x10 x11 x12 : Option D} : wpS (sSet 8 (eTup [(eV 2), (eV 3), (eComp (iA (e2 dIx (eV 4) (eC (.int 2)))) (gN 12) tYesD (eCall0 u_law_exchanged_f [.v (eV 12)]) [12]), (eComp (iA (e2 dIx (eV 4) (eC (.int 3)))) (gN 12) tYesD (eCall0 u_law_exchanged_f [.v (eV 12)]) [12])])) [some (.fz (ns.map .int)), x1, some (.int (R : Nat)), some (.int (C : Nat)), some (mD R C t), x5, x6, x7, x8, x9, x10, x11, x12] (nxS fun ε => ε = [some (.fz (ns.map .int)), x1, some (.int (R : Nat)), some (.int (C : Nat)), some (mD R C t), x5, x6, x7, some (mD R C (exT t)), x9, x10, x11, x12]) := by
  obtain ⟨h1, h2, h3, h4⟩ := h
  obtain ⟨v1, v2, v3, v4⟩ := hv
  have d2 : dIx (mD R C t) (.int 2) = some (.lst (sl t.1)) := rfl
  have d3 : dIx (mD R C t) (.int 3) = some (.lst (sl t.2)) := rfl
  simp only [↓wp_run, startE, ↓wp_sSeq, ↓thenS_nx, ↓thenS_rt, ↓thenS_bk, ↓thenS_ct, ↓xp_sSet, ↓xp_sDo, ↓xp_sRet, ↓wp_sIf, ↓wp_sNil, ↓wp_sBrk, ↓wp_sCnt, ↓xp_sAsg, ↓xp_sPar, ↓xp_sSetIx, ↓wp_sFor, ↓xp_tB, ↓xp_tTru, ↓wp_tNot, ↓wp_tAnd, ↓wp_tOr, ↓xp_wpV, ↓wp_C, ↓xp_V, ↓wp_O, ↓xp_R, ↓xp_e1, ↓xp_e2, ↓wp_if, ↓xp_and, ↓xp_or, ↓wp_lst, ↓wp_tup, ↓wp_nil, ↓xp_cons, ↓xp_call0, ↓xp_call1, ↓wp_anil, ↓wp_av, ↓wp_aw, ↓xp_mut1, ↓xp_mut0, ↓xp_cut, ↓wpP_none, ↓xp_psome, ↓xp_iA, ↓xp_iR1, ↓xp_iR2, exO_some, ↓reduceIte, ↓xp_end_rt, ↓xp_end_nx, ↓turn_nx, ↓turn_ct, ↓turn_bk, ↓turn_rt, get_val, get_slot, gets, looks, look, lookL, put, Option.bind_some, asB, asI, wipeE, backE, List.map_cons, List.map_nil, List.length_cons, List.length_nil, List.replicate, List.cons_append, List.nil_append, List.set_cons_zero, List.set_cons_succ, Nat.reduceAdd, Nat.reduceSub, add_ii, sub_ii, neg_i, lt_ii, le_ii, gt_ii, ge_ii, eq_ii, ne_ii, eq_bb, ne_bb, int_i, int_b, abs_i, len_l, len_f, len_t, list_l, list_t, tuple_l, tuple_t, not_b, truth_b, truth_i, ix_l, ix_f, ix_t, cut_l, min_ii, max_ii, gN, gT, gTs, at_0, at_1, at_2, at_3, decide_eq_true_eq, Bool.not_true, Bool.not_false, Bool.false_eq_true, Int.reduceEq, Int.reduceNeg, Int.reduceLT, Int.reduceLE, Int.reduceAdd, Int.reduceSub, D.int.injEq, D.bl.injEq, reduceCtorEq, ne_eq, not_true_eq_false, not_false_eq_true, List.getElem?_cons_succ, List.getElem?_cons_zero, Option.getD_some, Option.getD_none, ↓xp_chain, ↓nxS_nx, iter_l, iter_t, ↓xp_chain3, ↓wp_yes, ↓xp_iR3, ↓xp_iEn, ↓xp_iEn2, ↓xp_mut2, ↓xp_putD, ↓xp_dic0, lookD, kOf, enum_l, enum_s, listA_l, listA_f, listA_t, notT_b]
  refine wp_comp_map t.1 D.str (fun w => .str (exch w)) ?_
  simp only [↓wp_run, startE, ↓wp_sSeq, ↓thenS_nx, ↓thenS_rt, ↓thenS_bk, ↓thenS_ct, ↓xp_sSet, ↓xp_sDo, ↓xp_sRet, ↓wp_sIf, ↓wp_sNil, ↓wp_sBrk, ↓wp_sCnt, ↓xp_sAsg, ↓xp_sPar, ↓xp_sSetIx, ↓wp_sFor, ↓xp_tB, ↓xp_tTru, ↓wp_tNot, ↓wp_tAnd, ↓wp_tOr, ↓xp_wpV, ↓wp_C, ↓xp_V, ↓wp_O, ↓xp_R, ↓xp_e1, ↓xp_e2, ↓wp_if, ↓xp_and, ↓xp_or, ↓wp_lst, ↓wp_tup, ↓wp_nil, ↓xp_cons, ↓xp_call0, ↓xp_call1, ↓wp_anil, ↓wp_av, ↓wp_aw, ↓xp_mut1, ↓xp_mut0, ↓xp_cut, ↓wpP_none, ↓xp_psome, ↓xp_iA, ↓xp_iR1, ↓xp_iR2, exO_some, ↓reduceIte, ↓xp_end_rt, ↓xp_end_nx, ↓turn_nx, ↓turn_ct, ↓turn_bk, ↓turn_rt, get_val, get_slot, gets, looks, look, lookL, put, Option.bind_some, asB, asI, wipeE, backE, List.map_cons, List.map_nil, List.length_cons, List.length_nil, List.replicate, List.cons_append, List.nil_append, List.set_cons_zero, List.set_cons_succ, Nat.reduceAdd, Nat.reduceSub, add_ii, sub_ii, neg_i, lt_ii, le_ii, gt_ii, ge_ii, eq_ii, ne_ii, eq_bb, ne_bb, int_i, int_b, abs_i, len_l, len_f, len_t, list_l, list_t, tuple_l, tuple_t, not_b, truth_b, truth_i, ix_l, ix_f, ix_t, cut_l, min_ii, max_ii, gN, gT, gTs, at_0, at_1, at_2, at_3, decide_eq_true_eq, Bool.not_true, Bool.not_false, Bool.false_eq_true, Int.reduceEq, Int.reduceNeg, Int.reduceLT, Int.reduceLE, Int.reduceAdd, Int.reduceSub, D.int.injEq, D.bl.injEq, reduceCtorEq, ne_eq, not_true_eq_false, not_false_eq_true, List.getElem?_cons_succ, List.getElem?_cons_zero, Option.getD_some, Option.getD_none, ↓xp_chain, ↓nxS_nx, iter_l, iter_t, ↓xp_chain3, ↓wp_yes, ↓xp_iR3, ↓xp_iEn, ↓xp_iEn2, ↓xp_mut2, ↓xp_putD, ↓xp_dic0, lookD, kOf, enum_l, enum_s, listA_l, listA_f, listA_t, notT_b, d2]
  refine ⟨by first | rfl | trivial, by omega, fun w hw => ⟨_, rfl, ?_⟩, ?_⟩
  · have hwl := (v2 w hw).1
    have hx := exchanged_eq (w := w) (by omega)
    simp only [↓wp_run, startE, ↓wp_sSeq, ↓thenS_nx, ↓thenS_rt, ↓thenS_bk, ↓thenS_ct, ↓xp_sSet, ↓xp_sDo, ↓xp_sRet, ↓wp_sIf, ↓wp_sNil, ↓wp_sBrk, ↓wp_sCnt, ↓xp_sAsg, ↓xp_sPar, ↓xp_sSetIx, ↓wp_sFor, ↓xp_tB, ↓xp_tTru, ↓wp_tNot, ↓wp_tAnd, ↓wp_tOr, ↓xp_wpV, ↓wp_C, ↓xp_V, ↓wp_O, ↓xp_R, ↓xp_e1, ↓xp_e2, ↓wp_if, ↓xp_and, ↓xp_or, ↓wp_lst, ↓wp_tup, ↓wp_nil, ↓xp_cons, ↓xp_call0, ↓xp_call1, ↓wp_anil, ↓wp_av, ↓wp_aw, ↓xp_mut1, ↓xp_mut0, ↓xp_cut, ↓wpP_none, ↓xp_psome, ↓xp_iA, ↓xp_iR1, ↓xp_iR2, exO_some, ↓reduceIte, ↓xp_end_rt, ↓xp_end_nx, ↓turn_nx, ↓turn_ct, ↓turn_bk, ↓turn_rt, get_val, get_slot, gets, looks, look, lookL, put, Option.bind_some, asB, asI, wipeE, backE, List.map_cons, List.map_nil, List.length_cons, List.length_nil, List.replicate, List.cons_append, List.nil_append, List.set_cons_zero, List.set_cons_succ, Nat.reduceAdd, Nat.reduceSub, add_ii, sub_ii, neg_i, lt_ii, le_ii, gt_ii, ge_ii, eq_ii, ne_ii, eq_bb, ne_bb, int_i, int_b, abs_i, len_l, len_f, len_t, list_l, list_t, tuple_l, tuple_t, not_b, truth_b, truth_i, ix_l, ix_f, ix_t, cut_l, min_ii, max_ii, gN, gT, gTs, at_0, at_1, at_2, at_3, decide_eq_true_eq, Bool.not_true, Bool.not_false, Bool.false_eq_true, Int.reduceEq, Int.reduceNeg, Int.reduceLT, Int.reduceLE, Int.reduceAdd, Int.reduceSub, D.int.injEq, D.bl.injEq, reduceCtorEq, ne_eq, not_true_eq_false, not_false_eq_true, List.getElem?_cons_succ, List.getElem?_cons_zero, Option.getD_some, Option.getD_none, ↓xp_chain, ↓nxS_nx, iter_l, iter_t, ↓xp_chain3, ↓wp_yes, ↓xp_iR3, ↓xp_iEn, ↓xp_iEn2, ↓xp_mut2, ↓xp_putD, ↓xp_dic0, lookD, kOf, enum_l, enum_s, listA_l, listA_f, listA_t, notT_b, wpF_eq hx, and_self]
  · try simp only [↓wp_run, startE, ↓wp_sSeq, ↓thenS_nx, ↓thenS_rt, ↓thenS_bk, ↓thenS_ct, ↓xp_sSet, ↓xp_sDo, ↓xp_sRet, ↓wp_sIf, ↓wp_sNil, ↓wp_sBrk, ↓wp_sCnt, ↓xp_sAsg, ↓xp_sPar, ↓xp_sSetIx, ↓wp_sFor, ↓xp_tB, ↓xp_tTru, ↓wp_tNot, ↓wp_tAnd, ↓wp_tOr, ↓xp_wpV, ↓wp_C, ↓xp_V, ↓wp_O, ↓xp_R, ↓xp_e1, ↓xp_e2, ↓wp_if, ↓xp_and, ↓xp_or, ↓wp_lst, ↓wp_tup, ↓wp_nil, ↓xp_cons, ↓xp_call0, ↓xp_call1, ↓wp_anil, ↓wp_av, ↓wp_aw, ↓xp_mut1, ↓xp_mut0, ↓xp_cut, ↓wpP_none, ↓xp_psome, ↓xp_iA, ↓xp_iR1, ↓xp_iR2, exO_some, ↓reduceIte, ↓xp_end_rt, ↓xp_end_nx, ↓turn_nx, ↓turn_ct, ↓turn_bk, ↓turn_rt, get_val, get_slot, gets, looks, look, lookL, put, Option.bind_some, asB, asI, wipeE, backE, List.map_cons, List.map_nil, List.length_cons, List.length_nil, List.replicate, List.cons_append, List.nil_append, List.set_cons_zero, List.set_cons_succ, Nat.reduceAdd, Nat.reduceSub, add_ii, sub_ii, neg_i, lt_ii, le_ii, gt_ii, ge_ii, eq_ii, ne_ii, eq_bb, ne_bb, int_i, int_b, abs_i, len_l, len_f, len_t, list_l, list_t, tuple_l, tuple_t, not_b, truth_b, truth_i, ix_l, ix_f, ix_t, cut_l, min_ii, max_ii, gN, gT, gTs, at_0, at_1, at_2, at_3, decide_eq_true_eq, Bool.not_true, Bool.not_false, Bool.false_eq_true, Int.reduceEq, Int.reduceNeg, Int.reduceLT, Int.reduceLE, Int.reduceAdd, Int.reduceSub, D.int.injEq, D.bl.injEq, reduceCtorEq, ne_eq, not_true_eq_false, not_false_eq_true, List.getElem?_cons_succ, List.getElem?_cons_zero, Option.getD_some, Option.getD_none, ↓xp_chain, ↓nxS_nx, iter_l, iter_t, ↓xp_chain3, ↓wp_yes, ↓xp_iR3, ↓xp_iEn, ↓xp_iEn2, ↓xp_mut2, ↓xp_putD, ↓xp_dic0, lookD, kOf, enum_l, enum_s, listA_l, listA_f, listA_t, notT_b]
    refine wp_comp_map t.2 D.str (fun w => .str (exch w)) ?_
    simp only [↓wp_run, startE, ↓wp_sSeq, ↓thenS_nx, ↓thenS_rt, ↓thenS_bk, ↓thenS_ct, ↓xp_sSet, ↓xp_sDo, ↓xp_sRet, ↓wp_sIf, ↓wp_sNil, ↓wp_sBrk, ↓wp_sCnt, ↓xp_sAsg, ↓xp_sPar, ↓xp_sSetIx, ↓wp_sFor, ↓xp_tB, ↓xp_tTru, ↓wp_tNot, ↓wp_tAnd, ↓wp_tOr, ↓xp_wpV, ↓wp_C, ↓xp_V, ↓wp_O, ↓xp_R, ↓xp_e1, ↓xp_e2, ↓wp_if, ↓xp_and, ↓xp_or, ↓wp_lst, ↓wp_tup, ↓wp_nil, ↓xp_cons, ↓xp_call0, ↓xp_call1, ↓wp_anil, ↓wp_av, ↓wp_aw, ↓xp_mut1, ↓xp_mut0, ↓xp_cut, ↓wpP_none, ↓xp_psome, ↓xp_iA, ↓xp_iR1, ↓xp_iR2, exO_some, ↓reduceIte, ↓xp_end_rt, ↓xp_end_nx, ↓turn_nx, ↓turn_ct, ↓turn_bk, ↓turn_rt, get_val, get_slot, gets, looks, look, lookL, put, Option.bind_some, asB, asI, wipeE, backE, List.map_cons, List.map_nil, List.length_cons, List.length_nil, List.replicate, List.cons_append, List.nil_append, List.set_cons_zero, List.set_cons_succ, Nat.reduceAdd, Nat.reduceSub, add_ii, sub_ii, neg_i, lt_ii, le_ii, gt_ii, ge_ii, eq_ii, ne_ii, eq_bb, ne_bb, int_i, int_b, abs_i, len_l, len_f, len_t, list_l, list_t, tuple_l, tuple_t, not_b, truth_b, truth_i, ix_l, ix_f, ix_t, cut_l, min_ii, max_ii, gN, gT, gTs, at_0, at_1, at_2, at_3, decide_eq_true_eq, Bool.not_true, Bool.not_false, Bool.false_eq_true, Int.reduceEq, Int.reduceNeg, Int.reduceLT, Int.reduceLE, Int.reduceAdd, Int.reduceSub, D.int.injEq, D.bl.injEq, reduceCtorEq, ne_eq, not_true_eq_false, not_false_eq_true, List.getElem?_cons_succ, List.getElem?_cons_zero, Option.getD_some, Option.getD_none, ↓xp_chain, ↓nxS_nx, iter_l, iter_t, ↓xp_chain3, ↓wp_yes, ↓xp_iR3, ↓xp_iEn, ↓xp_iEn2, ↓xp_mut2, ↓xp_putD, ↓xp_dic0, lookD, kOf, enum_l, enum_s, listA_l, listA_f, listA_t, notT_b, d3]
    refine ⟨by first | rfl | trivial, by omega, fun w hw => ⟨_, rfl, ?_⟩, ?_⟩
    · have hwl := (v4 w hw).1
      have hx := exchanged_eq (w := w) (by omega)
      simp only [↓wp_run, startE, ↓wp_sSeq, ↓thenS_nx, ↓thenS_rt, ↓thenS_bk, ↓thenS_ct, ↓xp_sSet, ↓xp_sDo, ↓xp_sRet, ↓wp_sIf, ↓wp_sNil, ↓wp_sBrk, ↓wp_sCnt, ↓xp_sAsg, ↓xp_sPar, ↓xp_sSetIx, ↓wp_sFor, ↓xp_tB, ↓xp_tTru, ↓wp_tNot, ↓wp_tAnd, ↓wp_tOr, ↓xp_wpV, ↓wp_C, ↓xp_V, ↓wp_O, ↓xp_R, ↓xp_e1, ↓xp_e2, ↓wp_if, ↓xp_and, ↓xp_or, ↓wp_lst, ↓wp_tup, ↓wp_nil, ↓xp_cons, ↓xp_call0, ↓xp_call1, ↓wp_anil, ↓wp_av, ↓wp_aw, ↓xp_mut1, ↓xp_mut0, ↓xp_cut, ↓wpP_none, ↓xp_psome, ↓xp_iA, ↓xp_iR1, ↓xp_iR2, exO_some, ↓reduceIte, ↓xp_end_rt, ↓xp_end_nx, ↓turn_nx, ↓turn_ct, ↓turn_bk, ↓turn_rt, get_val, get_slot, gets, looks, look, lookL, put, Option.bind_some, asB, asI, wipeE, backE, List.map_cons, List.map_nil, List.length_cons, List.length_nil, List.replicate, List.cons_append, List.nil_append, List.set_cons_zero, List.set_cons_succ, Nat.reduceAdd, Nat.reduceSub, add_ii, sub_ii, neg_i, lt_ii, le_ii, gt_ii, ge_ii, eq_ii, ne_ii, eq_bb, ne_bb, int_i, int_b, abs_i, len_l, len_f, len_t, list_l, list_t, tuple_l, tuple_t, not_b, truth_b, truth_i, ix_l, ix_f, ix_t, cut_l, min_ii, max_ii, gN, gT, gTs, at_0, at_1, at_2, at_3, decide_eq_true_eq, Bool.not_true, Bool.not_false, Bool.false_eq_true, Int.reduceEq, Int.reduceNeg, Int.reduceLT, Int.reduceLE, Int.reduceAdd, Int.reduceSub, D.int.injEq, D.bl.injEq, reduceCtorEq, ne_eq, not_true_eq_false, not_false_eq_true, List.getElem?_cons_succ, List.getElem?_cons_zero, Option.getD_some, Option.getD_none, ↓xp_chain, ↓nxS_nx, iter_l, iter_t, ↓xp_chain3, ↓wp_yes, ↓xp_iR3, ↓xp_iEn, ↓xp_iEn2, ↓xp_mut2, ↓xp_putD, ↓xp_dic0, lookD, kOf, enum_l, enum_s, listA_l, listA_f, listA_t, notT_b, wpF_eq hx, and_self]
    · have e : D.tup [.int (R : Nat), .int (C : Nat), .lst (t.1.map fun w => D.str (exch w)), .lst (t.2.map fun w => D.str (exch w))] = mD R C (exT t) := by
        unfold mD exT sl
        rw [List.map_map, List.map_map]; rfl
      simp only [↓wp_run, startE, ↓wp_sSeq, ↓thenS_nx, ↓thenS_rt, ↓thenS_bk, ↓thenS_ct, ↓xp_sSet, ↓xp_sDo, ↓xp_sRet, ↓wp_sIf, ↓wp_sNil, ↓wp_sBrk, ↓wp_sCnt, ↓xp_sAsg, ↓xp_sPar, ↓xp_sSetIx, ↓wp_sFor, ↓xp_tB, ↓xp_tTru, ↓wp_tNot, ↓wp_tAnd, ↓wp_tOr, ↓xp_wpV, ↓wp_C, ↓xp_V, ↓wp_O, ↓xp_R, ↓xp_e1, ↓xp_e2, ↓wp_if, ↓xp_and, ↓xp_or, ↓wp_lst, ↓wp_tup, ↓wp_nil, ↓xp_cons, ↓xp_call0, ↓xp_call1, ↓wp_anil, ↓wp_av, ↓wp_aw, ↓xp_mut1, ↓xp_mut0, ↓xp_cut, ↓wpP_none, ↓xp_psome, ↓xp_iA, ↓xp_iR1, ↓xp_iR2, exO_some, ↓reduceIte, ↓xp_end_rt, ↓xp_end_nx, ↓turn_nx, ↓turn_ct, ↓turn_bk, ↓turn_rt, get_val, get_slot, gets, looks, look, lookL, put, Option.bind_some, asB, asI, wipeE, backE, List.map_cons, List.map_nil, List.length_cons, List.length_nil, List.replicate, List.cons_append, List.nil_append, List.set_cons_zero, List.set_cons_succ, Nat.reduceAdd, Nat.reduceSub, add_ii, sub_ii, neg_i, lt_ii, le_ii, gt_ii, ge_ii, eq_ii, ne_ii, eq_bb, ne_bb, int_i, int_b, abs_i, len_l, len_f, len_t, list_l, list_t, tuple_l, tuple_t, not_b, truth_b, truth_i, ix_l, ix_f, ix_t, cut_l, min_ii, max_ii, gN, gT, gTs, at_0, at_1, at_2, at_3, decide_eq_true_eq, Bool.not_true, Bool.not_false, Bool.false_eq_true, Int.reduceEq, Int.reduceNeg, Int.reduceLT, Int.reduceLE, Int.reduceAdd, Int.reduceSub, D.int.injEq, D.bl.injEq, reduceCtorEq, ne_eq, not_true_eq_false, not_false_eq_true, List.getElem?_cons_succ, List.getElem?_cons_zero, Option.getD_some, Option.getD_none, ↓xp_chain, ↓nxS_nx, iter_l, iter_t, ↓xp_chain3, ↓wp_yes, ↓xp_iR3, ↓xp_iEn, ↓xp_iEn2, ↓xp_mut2, ↓xp_putD, ↓xp_dic0, lookD, kOf, enum_l, enum_s, listA_l, listA_f, listA_t, notT_b, e]
theorem co_ok (h : Sz R C) (hv : Vt R C t) {x1 x5 x6 x7 x8 x9 x10 x11 x12 : Option D} : wpS (sSet 9 (eTup [(eV 2), (eV 3), (eComp (iA (e2 dIx (eV 4) (eC (.int 2)))) (gN 12) tYesD (e1 dRev (eV 12)) [12]), (eComp (iA (e2 dIx (eV 4) (eC (.int 3)))) (gN 12) tYesD (e1 dRev (eV 12)) [12])])) [some (.fz (ns.map .int)), x1, some (.int (R : Nat)), some (.int (C : Nat)), some (mD R C t), x5, x6, x7, x8, x9, x10, x11, x12] (nxS fun ε => ε = [some (.fz (ns.map .int)), x1, some (.int (R : Nat)), some (.int (C : Nat)), some (mD R C t), x5, x6, x7, x8, some (mD R C (coT t)), x10, x11, x12]) := by
  obtain ⟨h1, h2, h3, h4⟩ := h
  obtain ⟨v1, v2, v3, v4⟩ := hv
  have d2 : dIx (mD R C t) (.int 2) = some (.lst (sl t.1)) := rfl
  have d3 : dIx (mD R C t) (.int 3) = some (.lst (sl t.2)) := rfl
  simp only [↓wp_run, startE, ↓wp_sSeq, ↓thenS_nx, ↓thenS_rt, ↓thenS_bk, ↓thenS_ct, ↓xp_sSet, ↓xp_sDo, ↓xp_sRet, ↓wp_sIf, ↓wp_sNil, ↓wp_sBrk, ↓wp_sCnt, ↓xp_sAsg, ↓xp_sPar, ↓xp_sSetIx, ↓wp_sFor, ↓xp_tB, ↓xp_tTru, ↓wp_tNot, ↓wp_tAnd, ↓wp_tOr, ↓xp_wpV, ↓wp_C, ↓xp_V, ↓wp_O, ↓xp_R, ↓xp_e1, ↓xp_e2, ↓wp_if, ↓xp_and, ↓xp_or, ↓wp_lst, ↓wp_tup, ↓wp_nil, ↓xp_cons, ↓xp_call0, ↓xp_call1, ↓wp_anil, ↓wp_av, ↓wp_aw, ↓xp_mut1, ↓xp_mut0, ↓xp_cut, ↓wpP_none, ↓xp_psome, ↓xp_iA, ↓xp_iR1, ↓xp_iR2, exO_some, ↓reduceIte, ↓xp_end_rt, ↓xp_end_nx, ↓turn_nx, ↓turn_ct, ↓turn_bk, ↓turn_rt, get_val, get_slot, gets, looks, look, lookL, put, Option.bind_some, asB, asI, wipeE, backE, List.map_cons, List.map_nil, List.length_cons, List.length_nil, List.replicate, List.cons_append, List.nil_append, List.set_cons_zero, List.set_cons_succ, Nat.reduceAdd, Nat.reduceSub, add_ii, sub_ii, neg_i, lt_ii, le_ii, gt_ii, ge_ii, eq_ii, ne_ii, eq_bb, ne_bb, int_i, int_b, abs_i, len_l, len_f, len_t, list_l, list_t, tuple_l, tuple_t, not_b, truth_b, truth_i, ix_l, ix_f, ix_t, cut_l, min_ii, max_ii, gN, gT, gTs, at_0, at_1, at_2, at_3, decide_eq_true_eq, Bool.not_true, Bool.not_false, Bool.false_eq_true, Int.reduceEq, Int.reduceNeg, Int.reduceLT, Int.reduceLE, Int.reduceAdd, Int.reduceSub, D.int.injEq, D.bl.injEq, reduceCtorEq, ne_eq, not_true_eq_false, not_false_eq_true, List.getElem?_cons_succ, List.getElem?_cons_zero, Option.getD_some, Option.getD_none, ↓xp_chain, ↓nxS_nx, iter_l, iter_t, ↓xp_chain3, ↓wp_yes, ↓xp_iR3, ↓xp_iEn, ↓xp_iEn2, ↓xp_mut2, ↓xp_putD, ↓xp_dic0, lookD, kOf, enum_l, enum_s, listA_l, listA_f, listA_t, notT_b]
  refine wp_comp_map t.1 D.str (fun w => .str (List.reverse w)) ?_
  simp only [↓wp_run, startE, ↓wp_sSeq, ↓thenS_nx, ↓thenS_rt, ↓thenS_bk, ↓thenS_ct, ↓xp_sSet, ↓xp_sDo, ↓xp_sRet, ↓wp_sIf, ↓wp_sNil, ↓wp_sBrk, ↓wp_sCnt, ↓xp_sAsg, ↓xp_sPar, ↓xp_sSetIx, ↓wp_sFor, ↓xp_tB, ↓xp_tTru, ↓wp_tNot, ↓wp_tAnd, ↓wp_tOr, ↓xp_wpV, ↓wp_C, ↓xp_V, ↓wp_O, ↓xp_R, ↓xp_e1, ↓xp_e2, ↓wp_if, ↓xp_and, ↓xp_or, ↓wp_lst, ↓wp_tup, ↓wp_nil, ↓xp_cons, ↓xp_call0, ↓xp_call1, ↓wp_anil, ↓wp_av, ↓wp_aw, ↓xp_mut1, ↓xp_mut0, ↓xp_cut, ↓wpP_none, ↓xp_psome, ↓xp_iA, ↓xp_iR1, ↓xp_iR2, exO_some, ↓reduceIte, ↓xp_end_rt, ↓xp_end_nx, ↓turn_nx, ↓turn_ct, ↓turn_bk, ↓turn_rt, get_val, get_slot, gets, looks, look, lookL, put, Option.bind_some, asB, asI, wipeE, backE, List.map_cons, List.map_nil, List.length_cons, List.length_nil, List.replicate, List.cons_append, List.nil_append, List.set_cons_zero, List.set_cons_succ, Nat.reduceAdd, Nat.reduceSub, add_ii, sub_ii, neg_i, lt_ii, le_ii, gt_ii, ge_ii, eq_ii, ne_ii, eq_bb, ne_bb, int_i, int_b, abs_i, len_l, len_f, len_t, list_l, list_t, tuple_l, tuple_t, not_b, truth_b, truth_i, ix_l, ix_f, ix_t, cut_l, min_ii, max_ii, gN, gT, gTs, at_0, at_1, at_2, at_3, decide_eq_true_eq, Bool.not_true, Bool.not_false, Bool.false_eq_true, Int.reduceEq, Int.reduceNeg, Int.reduceLT, Int.reduceLE, Int.reduceAdd, Int.reduceSub, D.int.injEq, D.bl.injEq, reduceCtorEq, ne_eq, not_true_eq_false, not_false_eq_true, List.getElem?_cons_succ, List.getElem?_cons_zero, Option.getD_some, Option.getD_none, ↓xp_chain, ↓nxS_nx, iter_l, iter_t, ↓xp_chain3, ↓wp_yes, ↓xp_iR3, ↓xp_iEn, ↓xp_iEn2, ↓xp_mut2, ↓xp_putD, ↓xp_dic0, lookD, kOf, enum_l, enum_s, listA_l, listA_f, listA_t, notT_b, d2]
  refine ⟨by first | rfl | trivial, by omega, fun w hw => ⟨_, rfl, ?_⟩, ?_⟩
  · have hwl := (v2 w hw).1
    have hx : dRev (.str w) = some (.str w.reverse) := by simp [dRev, dRevS, lenOk, show w.length ≤ 16777216 by omega]
    simp only [↓wp_run, startE, ↓wp_sSeq, ↓thenS_nx, ↓thenS_rt, ↓thenS_bk, ↓thenS_ct, ↓xp_sSet, ↓xp_sDo, ↓xp_sRet, ↓wp_sIf, ↓wp_sNil, ↓wp_sBrk, ↓wp_sCnt, ↓xp_sAsg, ↓xp_sPar, ↓xp_sSetIx, ↓wp_sFor, ↓xp_tB, ↓xp_tTru, ↓wp_tNot, ↓wp_tAnd, ↓wp_tOr, ↓xp_wpV, ↓wp_C, ↓xp_V, ↓wp_O, ↓xp_R, ↓xp_e1, ↓xp_e2, ↓wp_if, ↓xp_and, ↓xp_or, ↓wp_lst, ↓wp_tup, ↓wp_nil, ↓xp_cons, ↓xp_call0, ↓xp_call1, ↓wp_anil, ↓wp_av, ↓wp_aw, ↓xp_mut1, ↓xp_mut0, ↓xp_cut, ↓wpP_none, ↓xp_psome, ↓xp_iA, ↓xp_iR1, ↓xp_iR2, exO_some, ↓reduceIte, ↓xp_end_rt, ↓xp_end_nx, ↓turn_nx, ↓turn_ct, ↓turn_bk, ↓turn_rt, get_val, get_slot, gets, looks, look, lookL, put, Option.bind_some, asB, asI, wipeE, backE, List.map_cons, List.map_nil, List.length_cons, List.length_nil, List.replicate, List.cons_append, List.nil_append, List.set_cons_zero, List.set_cons_succ, Nat.reduceAdd, Nat.reduceSub, add_ii, sub_ii, neg_i, lt_ii, le_ii, gt_ii, ge_ii, eq_ii, ne_ii, eq_bb, ne_bb, int_i, int_b, abs_i, len_l, len_f, len_t, list_l, list_t, tuple_l, tuple_t, not_b, truth_b, truth_i, ix_l, ix_f, ix_t, cut_l, min_ii, max_ii, gN, gT, gTs, at_0, at_1, at_2, at_3, decide_eq_true_eq, Bool.not_true, Bool.not_false, Bool.false_eq_true, Int.reduceEq, Int.reduceNeg, Int.reduceLT, Int.reduceLE, Int.reduceAdd, Int.reduceSub, D.int.injEq, D.bl.injEq, reduceCtorEq, ne_eq, not_true_eq_false, not_false_eq_true, List.getElem?_cons_succ, List.getElem?_cons_zero, Option.getD_some, Option.getD_none, ↓xp_chain, ↓nxS_nx, iter_l, iter_t, ↓xp_chain3, ↓wp_yes, ↓xp_iR3, ↓xp_iEn, ↓xp_iEn2, ↓xp_mut2, ↓xp_putD, ↓xp_dic0, lookD, kOf, enum_l, enum_s, listA_l, listA_f, listA_t, notT_b, hx, and_self]
  · try simp only [↓wp_run, startE, ↓wp_sSeq, ↓thenS_nx, ↓thenS_rt, ↓thenS_bk, ↓thenS_ct, ↓xp_sSet, ↓xp_sDo, ↓xp_sRet, ↓wp_sIf, ↓wp_sNil, ↓wp_sBrk, ↓wp_sCnt, ↓xp_sAsg, ↓xp_sPar, ↓xp_sSetIx, ↓wp_sFor, ↓xp_tB, ↓xp_tTru, ↓wp_tNot, ↓wp_tAnd, ↓wp_tOr, ↓xp_wpV, ↓wp_C, ↓xp_V, ↓wp_O, ↓xp_R, ↓xp_e1, ↓xp_e2, ↓wp_if, ↓xp_and, ↓xp_or, ↓wp_lst, ↓wp_tup, ↓wp_nil, ↓xp_cons, ↓xp_call0, ↓xp_call1, ↓wp_anil, ↓wp_av, ↓wp_aw, ↓xp_mut1, ↓xp_mut0, ↓xp_cut, ↓wpP_none, ↓xp_psome, ↓xp_iA, ↓xp_iR1, ↓xp_iR2, exO_some, ↓reduceIte, ↓xp_end_rt, ↓xp_end_nx, ↓turn_nx, ↓turn_ct, ↓turn_bk, ↓turn_rt, get_val, get_slot, gets, looks, look, lookL, put, Option.bind_some, asB, asI, wipeE, backE, List.map_cons, List.map_nil, List.length_cons, List.length_nil, List.replicate, List.cons_append, List.nil_append, List.set_cons_zero, List.set_cons_succ, Nat.reduceAdd, Nat.reduceSub, add_ii, sub_ii, neg_i, lt_ii, le_ii, gt_ii, ge_ii, eq_ii, ne_ii, eq_bb, ne_bb, int_i, int_b, abs_i, len_l, len_f, len_t, list_l, list_t, tuple_l, tuple_t, not_b, truth_b, truth_i, ix_l, ix_f, ix_t, cut_l, min_ii, max_ii, gN, gT, gTs, at_0, at_1, at_2, at_3, decide_eq_true_eq, Bool.not_true, Bool.not_false, Bool.false_eq_true, Int.reduceEq, Int.reduceNeg, Int.reduceLT, Int.reduceLE, Int.reduceAdd, Int.reduceSub, D.int.injEq, D.bl.injEq, reduceCtorEq, ne_eq, not_true_eq_false, not_false_eq_true, List.getElem?_cons_succ, List.getElem?_cons_zero, Option.getD_some, Option.getD_none, ↓xp_chain, ↓nxS_nx, iter_l, iter_t, ↓xp_chain3, ↓wp_yes, ↓xp_iR3, ↓xp_iEn, ↓xp_iEn2, ↓xp_mut2, ↓xp_putD, ↓xp_dic0, lookD, kOf, enum_l, enum_s, listA_l, listA_f, listA_t, notT_b]
    refine wp_comp_map t.2 D.str (fun w => .str (List.reverse w)) ?_
    simp only [↓wp_run, startE, ↓wp_sSeq, ↓thenS_nx, ↓thenS_rt, ↓thenS_bk, ↓thenS_ct, ↓xp_sSet, ↓xp_sDo, ↓xp_sRet, ↓wp_sIf, ↓wp_sNil, ↓wp_sBrk, ↓wp_sCnt, ↓xp_sAsg, ↓xp_sPar, ↓xp_sSetIx, ↓wp_sFor, ↓xp_tB, ↓xp_tTru, ↓wp_tNot, ↓wp_tAnd, ↓wp_tOr, ↓xp_wpV, ↓wp_C, ↓xp_V, ↓wp_O, ↓xp_R, ↓xp_e1, ↓xp_e2, ↓wp_if, ↓xp_and, ↓xp_or, ↓wp_lst, ↓wp_tup, ↓wp_nil, ↓xp_cons, ↓xp_call0, ↓xp_call1, ↓wp_anil, ↓wp_av, ↓wp_aw, ↓xp_mut1, ↓xp_mut0, ↓xp_cut, ↓wpP_none, ↓xp_psome, ↓xp_iA, ↓xp_iR1, ↓xp_iR2, exO_some, ↓reduceIte, ↓xp_end_rt, ↓xp_end_nx, ↓turn_nx, ↓turn_ct, ↓turn_bk, ↓turn_rt, get_val, get_slot, gets, looks, look, lookL, put, Option.bind_some, asB, asI, wipeE, backE, List.map_cons, List.map_nil, List.length_cons, List.length_nil, List.replicate, List.cons_append, List.nil_append, List.set_cons_zero, List.set_cons_succ, Nat.reduceAdd, Nat.reduceSub, add_ii, sub_ii, neg_i, lt_ii, le_ii, gt_ii, ge_ii, eq_ii, ne_ii, eq_bb, ne_bb, int_i, int_b, abs_i, len_l, len_f, len_t, list_l, list_t, tuple_l, tuple_t, not_b, truth_b, truth_i, ix_l, ix_f, ix_t, cut_l, min_ii, max_ii, gN, gT, gTs, at_0, at_1, at_2, at_3, decide_eq_true_eq, Bool.not_true, Bool.not_false, Bool.false_eq_true, Int.reduceEq, Int.reduceNeg, Int.reduceLT, Int.reduceLE, Int.reduceAdd, Int.reduceSub, D.int.injEq, D.bl.injEq, reduceCtorEq, ne_eq, not_true_eq_false, not_false_eq_true, List.getElem?_cons_succ, List.getElem?_cons_zero, Option.getD_some, Option.getD_none, ↓xp_chain, ↓nxS_nx, iter_l, iter_t, ↓xp_chain3, ↓wp_yes, ↓xp_iR3, ↓xp_iEn, ↓xp_iEn2, ↓xp_mut2, ↓xp_putD, ↓xp_dic0, lookD, kOf, enum_l, enum_s, listA_l, listA_f, listA_t, notT_b, d3]
    refine ⟨by first | rfl | trivial, by omega, fun w hw => ⟨_, rfl, ?_⟩, ?_⟩
    · have hwl := (v4 w hw).1
      have hx : dRev (.str w) = some (.str w.reverse) := by simp [dRev, dRevS, lenOk, show w.length ≤ 16777216 by omega]
      simp only [↓wp_run, startE, ↓wp_sSeq, ↓thenS_nx, ↓thenS_rt, ↓thenS_bk, ↓thenS_ct, ↓xp_sSet, ↓xp_sDo, ↓xp_sRet, ↓wp_sIf, ↓wp_sNil, ↓wp_sBrk, ↓wp_sCnt, ↓xp_sAsg, ↓xp_sPar, ↓xp_sSetIx, ↓wp_sFor, ↓xp_tB, ↓xp_tTru, ↓wp_tNot, ↓wp_tAnd, ↓wp_tOr, ↓xp_wpV, ↓wp_C, ↓xp_V, ↓wp_O, ↓xp_R, ↓xp_e1, ↓xp_e2, ↓wp_if, ↓xp_and, ↓xp_or, ↓wp_lst, ↓wp_tup, ↓wp_nil, ↓xp_cons, ↓xp_call0, ↓xp_call1, ↓wp_anil, ↓wp_av, ↓wp_aw, ↓xp_mut1, ↓xp_mut0, ↓xp_cut, ↓wpP_none, ↓xp_psome, ↓xp_iA, ↓xp_iR1, ↓xp_iR2, exO_some, ↓reduceIte, ↓xp_end_rt, ↓xp_end_nx, ↓turn_nx, ↓turn_ct, ↓turn_bk, ↓turn_rt, get_val, get_slot, gets, looks, look, lookL, put, Option.bind_some, asB, asI, wipeE, backE, List.map_cons, List.map_nil, List.length_cons, List.length_nil, List.replicate, List.cons_append, List.nil_append, List.set_cons_zero, List.set_cons_succ, Nat.reduceAdd, Nat.reduceSub, add_ii, sub_ii, neg_i, lt_ii, le_ii, gt_ii, ge_ii, eq_ii, ne_ii, eq_bb, ne_bb, int_i, int_b, abs_i, len_l, len_f, len_t, list_l, list_t, tuple_l, tuple_t, not_b, truth_b, truth_i, ix_l, ix_f, ix_t, cut_l, min_ii, max_ii, gN, gT, gTs, at_0, at_1, at_2, at_3, decide_eq_true_eq, Bool.not_true, Bool.not_false, Bool.false_eq_true, Int.reduceEq, Int.reduceNeg, Int.reduceLT, Int.reduceLE, Int.reduceAdd, Int.reduceSub, D.int.injEq, D.bl.injEq, reduceCtorEq, ne_eq, not_true_eq_false, not_false_eq_true, List.getElem?_cons_succ, List.getElem?_cons_zero, Option.getD_some, Option.getD_none, ↓xp_chain, ↓nxS_nx, iter_l, iter_t, ↓xp_chain3, ↓wp_yes, ↓xp_iR3, ↓xp_iEn, ↓xp_iEn2, ↓xp_mut2, ↓xp_putD, ↓xp_dic0, lookD, kOf, enum_l, enum_s, listA_l, listA_f, listA_t, notT_b, hx, and_self]
    · have e : D.tup [.int (R : Nat), .int (C : Nat), .lst (t.1.map fun w => D.str (List.reverse w)), .lst (t.2.map fun w => D.str (List.reverse w))] = mD R C (coT t) := by
        unfold mD coT sl
        rw [List.map_map, List.map_map]; rfl
      simp only [↓wp_run, startE, ↓wp_sSeq, ↓thenS_nx, ↓thenS_rt, ↓thenS_bk, ↓thenS_ct, ↓xp_sSet, ↓xp_sDo, ↓xp_sRet, ↓wp_sIf, ↓wp_sNil, ↓wp_sBrk, ↓wp_sCnt, ↓xp_sAsg, ↓xp_sPar, ↓xp_sSetIx, ↓wp_sFor, ↓xp_tB, ↓xp_tTru, ↓wp_tNot, ↓wp_tAnd, ↓wp_tOr, ↓xp_wpV, ↓wp_C, ↓xp_V, ↓wp_O, ↓xp_R, ↓xp_e1, ↓xp_e2, ↓wp_if, ↓xp_and, ↓xp_or, ↓wp_lst, ↓wp_tup, ↓wp_nil, ↓xp_cons, ↓xp_call0, ↓xp_call1, ↓wp_anil, ↓wp_av, ↓wp_aw, ↓xp_mut1, ↓xp_mut0, ↓xp_cut, ↓wpP_none, ↓xp_psome, ↓xp_iA, ↓xp_iR1, ↓xp_iR2, exO_some, ↓reduceIte, ↓xp_end_rt, ↓xp_end_nx, ↓turn_nx, ↓turn_ct, ↓turn_bk, ↓turn_rt, get_val, get_slot, gets, looks, look, lookL, put, Option.bind_some, asB, asI, wipeE, backE, List.map_cons, List.map_nil, List.length_cons, List.length_nil, List.replicate, List.cons_append, List.nil_append, List.set_cons_zero, List.set_cons_succ, Nat.reduceAdd, Nat.reduceSub, add_ii, sub_ii, neg_i, lt_ii, le_ii, gt_ii, ge_ii, eq_ii, ne_ii, eq_bb, ne_bb, int_i, int_b, abs_i, len_l, len_f, len_t, list_l, list_t, tuple_l, tuple_t, not_b, truth_b, truth_i, ix_l, ix_f, ix_t, cut_l, min_ii, max_ii, gN, gT, gTs, at_0, at_1, at_2, at_3, decide_eq_true_eq, Bool.not_true, Bool.not_false, Bool.false_eq_true, Int.reduceEq, Int.reduceNeg, Int.reduceLT, Int.reduceLE, Int.reduceAdd, Int.reduceSub, D.int.injEq, D.bl.injEq, reduceCtorEq, ne_eq, not_true_eq_false, not_false_eq_true, List.getElem?_cons_succ, List.getElem?_cons_zero, Option.getD_some, Option.getD_none, ↓xp_chain, ↓nxS_nx, iter_l, iter_t, ↓xp_chain3, ↓wp_yes, ↓xp_iR3, ↓xp_iEn, ↓xp_iEn2, ↓xp_mut2, ↓xp_putD, ↓xp_dic0, lookD, kOf, enum_l, enum_s, listA_l, listA_f, listA_t, notT_b, e]
theorem us_ok {x1 x5 x6 x7 x8 x9 x10 x11 x12 : Option D} : wpS (sSet 10 (eTup [(eV 2), (eV 3), (e1 dRev (e2 dIx (eV 4) (eC (.int 2)))), (e1 dRev (e2 dIx (eV 4) (eC (.int 3))))])) [some (.fz (ns.map .int)), x1, some (.int (R : Nat)), some (.int (C : Nat)), some (mD R C t), x5, x6, x7, x8, x9, x10, x11, x12] (nxS fun ε => ε = [some (.fz (ns.map .int)), x1, some (.int (R : Nat)), some (.int (C : Nat)), some (mD R C t), x5, x6, x7, x8, x9, some (mD R C (usT t)), x11, x12]) := by
  have d2 : dIx (mD R C t) (.int 2) = some (.lst (sl t.1)) := rfl
  have d3 : dIx (mD R C t) (.int 3) = some (.lst (sl t.2)) := rfl
  have hr : ∀ X : List (List Nat), dRev (.lst (sl X)) = some (.lst (sl X.reverse)) := fun X => by
    show some (D.lst (sl X).reverse) = _
    unfold sl
    rw [List.map_reverse]
  have e : D.tup [.int (R : Nat), .int (C : Nat), .lst (sl t.1.reverse), .lst (sl t.2.reverse)] = mD R C (usT t) := rfl
  simp only [↓wp_run, startE, ↓wp_sSeq, ↓thenS_nx, ↓thenS_rt, ↓thenS_bk, ↓thenS_ct, ↓xp_sSet, ↓xp_sDo, ↓xp_sRet, ↓wp_sIf, ↓wp_sNil, ↓wp_sBrk, ↓wp_sCnt, ↓xp_sAsg, ↓xp_sPar, ↓xp_sSetIx, ↓wp_sFor, ↓xp_tB, ↓xp_tTru, ↓wp_tNot, ↓wp_tAnd, ↓wp_tOr, ↓xp_wpV, ↓wp_C, ↓xp_V, ↓wp_O, ↓xp_R, ↓xp_e1, ↓xp_e2, ↓wp_if, ↓xp_and, ↓xp_or, ↓wp_lst, ↓wp_tup, ↓wp_nil, ↓xp_cons, ↓xp_call0, ↓xp_call1, ↓wp_anil, ↓wp_av, ↓wp_aw, ↓xp_mut1, ↓xp_mut0, ↓xp_cut, ↓wpP_none, ↓xp_psome, ↓xp_iA, ↓xp_iR1, ↓xp_iR2, exO_some, ↓reduceIte, ↓xp_end_rt, ↓xp_end_nx, ↓turn_nx, ↓turn_ct, ↓turn_bk, ↓turn_rt, get_val, get_slot, gets, looks, look, lookL, put, Option.bind_some, asB, asI, wipeE, backE, List.map_cons, List.map_nil, List.length_cons, List.length_nil, List.replicate, List.cons_append, List.nil_append, List.set_cons_zero, List.set_cons_succ, Nat.reduceAdd, Nat.reduceSub, add_ii, sub_ii, neg_i, lt_ii, le_ii, gt_ii, ge_ii, eq_ii, ne_ii, eq_bb, ne_bb, int_i, int_b, abs_i, len_l, len_f, len_t, list_l, list_t, tuple_l, tuple_t, not_b, truth_b, truth_i, ix_l, ix_f, ix_t, cut_l, min_ii, max_ii, gN, gT, gTs, at_0, at_1, at_2, at_3, decide_eq_true_eq, Bool.not_true, Bool.not_false, Bool.false_eq_true, Int.reduceEq, Int.reduceNeg, Int.reduceLT, Int.reduceLE, Int.reduceAdd, Int.reduceSub, D.int.injEq, D.bl.injEq, reduceCtorEq, ne_eq, not_true_eq_false, not_false_eq_true, List.getElem?_cons_succ, List.getElem?_cons_zero, Option.getD_some, Option.getD_none, ↓xp_chain, ↓nxS_nx, iter_l, iter_t, ↓xp_chain3, ↓wp_yes, ↓xp_iR3, ↓xp_iEn, ↓xp_iEn2, ↓xp_mut2, ↓xp_putD, ↓xp_dic0, lookD, kOf, enum_l, enum_s, listA_l, listA_f, listA_t, notT_b, d2, d3, hr, e]
theorem rev_ok (h : Sz R C) (hm : R * C ≤ 6) (hc : Ck R C t) {x1 x2 x3 x5 x6 x7 x9 x10 x11 x12 : Option D} : wpS (sFor (iA (eCall0 map_states_f [.v (eV 4)])) (gN 6) (sIf (VS.tB (e2 dNotIn (e1 dRev (eV 6)) (eCall0 map_states_f [.v (eV 8)]))) (sRet (eC (.bl false))) sNil)) [some (.fz (ns.map .int)), x1, x2, x3, some (mD R C t), x5, x6, x7, some (mD R C (exT t)), x9, x10, x11, x12] (nxS fun ε => ∃ x6, ε = [some (.fz (ns.map .int)), x1, x2, x3, some (mD R C t), x5, x6, x7, some (mD R C (exT t)), x9, x10, x11, x12]) := by
  have m1 := map_states_eq h hm t
  have m2 := map_states_eq h hm (exT t)
  obtain ⟨T, hT1, hT2, hT3⟩ := srt_nn' (Sx R C t)
  obtain ⟨U, hU1, hU2, hU3⟩ := srt_nn' (Sx R C (exT t))
  rw [hT1] at m1
  rw [hU1] at m2
  simp only [↓wp_run, startE, ↓wp_sSeq, ↓thenS_nx, ↓thenS_rt, ↓thenS_bk, ↓thenS_ct, ↓xp_sSet, ↓xp_sDo, ↓xp_sRet, ↓wp_sIf, ↓wp_sNil, ↓wp_sBrk, ↓wp_sCnt, ↓xp_sAsg, ↓xp_sPar, ↓xp_sSetIx, ↓wp_sFor, ↓xp_tB, ↓xp_tTru, ↓wp_tNot, ↓wp_tAnd, ↓wp_tOr, ↓xp_wpV, ↓wp_C, ↓xp_V, ↓wp_O, ↓xp_R, ↓xp_e1, ↓xp_e2, ↓wp_if, ↓xp_and, ↓xp_or, ↓wp_lst, ↓wp_tup, ↓wp_nil, ↓xp_cons, ↓xp_call0, ↓xp_call1, ↓wp_anil, ↓wp_av, ↓wp_aw, ↓xp_mut1, ↓xp_mut0, ↓xp_cut, ↓wpP_none, ↓xp_psome, ↓xp_iA, ↓xp_iR1, ↓xp_iR2, exO_some, ↓reduceIte, ↓xp_end_rt, ↓xp_end_nx, ↓turn_nx, ↓turn_ct, ↓turn_bk, ↓turn_rt, get_val, get_slot, gets, looks, look, lookL, put, Option.bind_some, asB, asI, wipeE, backE, List.map_cons, List.map_nil, List.length_cons, List.length_nil, List.replicate, List.cons_append, List.nil_append, List.set_cons_zero, List.set_cons_succ, Nat.reduceAdd, Nat.reduceSub, add_ii, sub_ii, neg_i, lt_ii, le_ii, gt_ii, ge_ii, eq_ii, ne_ii, eq_bb, ne_bb, int_i, int_b, abs_i, len_l, len_f, len_t, list_l, list_t, tuple_l, tuple_t, not_b, truth_b, truth_i, ix_l, ix_f, ix_t, cut_l, min_ii, max_ii, gN, gT, gTs, at_0, at_1, at_2, at_3, decide_eq_true_eq, Bool.not_true, Bool.not_false, Bool.false_eq_true, Int.reduceEq, Int.reduceNeg, Int.reduceLT, Int.reduceLE, Int.reduceAdd, Int.reduceSub, D.int.injEq, D.bl.injEq, reduceCtorEq, ne_eq, not_true_eq_false, not_false_eq_true, List.getElem?_cons_succ, List.getElem?_cons_zero, Option.getD_some, Option.getD_none, ↓xp_chain, ↓nxS_nx, iter_l, iter_t, ↓xp_chain3, ↓wp_yes, ↓xp_iR3, ↓xp_iEn, ↓xp_iEn2, ↓xp_mut2, ↓xp_putD, ↓xp_dic0, lookD, kOf, enum_l, enum_s, listA_l, listA_f, listA_t, notT_b, wpF_eq m1]
  refine wp_for (fun _ ε => ∃ x6, ε = [some (.fz (ns.map .int)), x1, x2, x3, some (mD R C t), x5, x6, x7, some (mD R C (exT t)), x9, x10, x11, x12]) ⟨_, rfl⟩ (fun i z ε hd w => ?_) (fun ε w => w)
  obtain ⟨x6, rfl⟩ := w
  obtain ⟨o, ho, rfl⟩ := List.mem_map.mp (List.mem_of_getElem? hd)
  refine ⟨_, rfl, ?_⟩
  have hr := rev_nn o
  have hni := nin_nns o.reverse U
  have hin : o.reverse ∈ U := (hU3 _).mpr (hc.rv o ((hT3 o).mp ho))
  rw [decide_eq_true hin] at hni
  simp only [↓wp_run, startE, ↓wp_sSeq, ↓thenS_nx, ↓thenS_rt, ↓thenS_bk, ↓thenS_ct, ↓xp_sSet, ↓xp_sDo, ↓xp_sRet, ↓wp_sIf, ↓wp_sNil, ↓wp_sBrk, ↓wp_sCnt, ↓xp_sAsg, ↓xp_sPar, ↓xp_sSetIx, ↓wp_sFor, ↓xp_tB, ↓xp_tTru, ↓wp_tNot, ↓wp_tAnd, ↓wp_tOr, ↓xp_wpV, ↓wp_C, ↓xp_V, ↓wp_O, ↓xp_R, ↓xp_e1, ↓xp_e2, ↓wp_if, ↓xp_and, ↓xp_or, ↓wp_lst, ↓wp_tup, ↓wp_nil, ↓xp_cons, ↓xp_call0, ↓xp_call1, ↓wp_anil, ↓wp_av, ↓wp_aw, ↓xp_mut1, ↓xp_mut0, ↓xp_cut, ↓wpP_none, ↓xp_psome, ↓xp_iA, ↓xp_iR1, ↓xp_iR2, exO_some, ↓reduceIte, ↓xp_end_rt, ↓xp_end_nx, ↓turn_nx, ↓turn_ct, ↓turn_bk, ↓turn_rt, get_val, get_slot, gets, looks, look, lookL, put, Option.bind_some, asB, asI, wipeE, backE, List.map_cons, List.map_nil, List.length_cons, List.length_nil, List.replicate, List.cons_append, List.nil_append, List.set_cons_zero, List.set_cons_succ, Nat.reduceAdd, Nat.reduceSub, add_ii, sub_ii, neg_i, lt_ii, le_ii, gt_ii, ge_ii, eq_ii, ne_ii, eq_bb, ne_bb, int_i, int_b, abs_i, len_l, len_f, len_t, list_l, list_t, tuple_l, tuple_t, not_b, truth_b, truth_i, ix_l, ix_f, ix_t, cut_l, min_ii, max_ii, gN, gT, gTs, at_0, at_1, at_2, at_3, decide_eq_true_eq, Bool.not_true, Bool.not_false, Bool.false_eq_true, Int.reduceEq, Int.reduceNeg, Int.reduceLT, Int.reduceLE, Int.reduceAdd, Int.reduceSub, D.int.injEq, D.bl.injEq, reduceCtorEq, ne_eq, not_true_eq_false, not_false_eq_true, List.getElem?_cons_succ, List.getElem?_cons_zero, Option.getD_some, Option.getD_none, ↓xp_chain, ↓nxS_nx, iter_l, iter_t, ↓xp_chain3, ↓wp_yes, ↓xp_iR3, ↓xp_iEn, ↓xp_iEn2, ↓xp_mut2, ↓xp_putD, ↓xp_dic0, lookD, kOf, enum_l, enum_s, listA_l, listA_f, listA_t, notT_b, hr, wpF_eq m2, hni, Bool.not_true]
  exact ⟨_, rfl⟩
end
theorem law_true : ∀ ns : List Int, ns.length ≤ 63 → law_f [.fz (ns.map .int)] = some (.bl true, []) := by
  intro ns _
  rw [wpF_iff]
  unfold law_f law_b
  rw [wp_run]
  refine wp_seq_of (fun ε => ∃ d x2 x3 x4 x5 x6 x7 x8 x9 x10 x11 x12, ε = [some (.fz (ns.map .int)), some d, x2, x3, x4, x5, x6, x7, x8, x9, x10, x11, x12] ∧ IsPool ns d) ?_ ?_
  · simp only [↓wp_run, startE, ↓wp_sSeq, ↓thenS_nx, ↓thenS_rt, ↓thenS_bk, ↓thenS_ct, ↓xp_sSet, ↓xp_sDo, ↓xp_sRet, ↓wp_sIf, ↓wp_sNil, ↓wp_sBrk, ↓wp_sCnt, ↓xp_sAsg, ↓xp_sPar, ↓xp_sSetIx, ↓wp_sFor, ↓xp_tB, ↓xp_tTru, ↓wp_tNot, ↓wp_tAnd, ↓wp_tOr, ↓xp_wpV, ↓wp_C, ↓xp_V, ↓wp_O, ↓xp_R, ↓xp_e1, ↓xp_e2, ↓wp_if, ↓xp_and, ↓xp_or, ↓wp_lst, ↓wp_tup, ↓wp_nil, ↓xp_cons, ↓xp_call0, ↓xp_call1, ↓wp_anil, ↓wp_av, ↓wp_aw, ↓xp_mut1, ↓xp_mut0, ↓xp_cut, ↓wpP_none, ↓xp_psome, ↓xp_iA, ↓xp_iR1, ↓xp_iR2, exO_some, ↓reduceIte, ↓xp_end_rt, ↓xp_end_nx, ↓turn_nx, ↓turn_ct, ↓turn_bk, ↓turn_rt, get_val, get_slot, gets, looks, look, lookL, put, Option.bind_some, asB, asI, wipeE, backE, List.map_cons, List.map_nil, List.length_cons, List.length_nil, List.replicate, List.cons_append, List.nil_append, List.set_cons_zero, List.set_cons_succ, Nat.reduceAdd, Nat.reduceSub, add_ii, sub_ii, neg_i, lt_ii, le_ii, gt_ii, ge_ii, eq_ii, ne_ii, eq_bb, ne_bb, int_i, int_b, abs_i, len_l, len_f, len_t, list_l, list_t, tuple_l, tuple_t, not_b, truth_b, truth_i, ix_l, ix_f, ix_t, cut_l, min_ii, max_ii, gN, gT, gTs, at_0, at_1, at_2, at_3, decide_eq_true_eq, Bool.not_true, Bool.not_false, Bool.false_eq_true, Int.reduceEq, Int.reduceNeg, Int.reduceLT, Int.reduceLE, Int.reduceAdd, Int.reduceSub, D.int.injEq, D.bl.injEq, reduceCtorEq, ne_eq, not_true_eq_false, not_false_eq_true, List.getElem?_cons_succ, List.getElem?_cons_zero, Option.getD_some, Option.getD_none, ↓xp_chain, ↓nxS_nx, iter_l, iter_t, ↓xp_chain3, ↓wp_yes, ↓xp_iR3, ↓xp_iEn, ↓xp_iEn2, ↓xp_mut2, ↓xp_putD, ↓xp_dic0, lookD, kOf, enum_l, enum_s, listA_l, listA_f, listA_t, notT_b]
    exact (pool_ok ns).mono fun z ws h => ⟨z, none, none, none, none, none, none, none, none, none, none, none,  rfl, h.1⟩
  rintro ε ⟨d, x2, x3, x4, x5, x6, x7, x8, x9, x10, x11, x12, rfl, hp⟩
  refine wp_seq_of (fun ε => ∃ (d : D) (R C : Nat), ε = [some (.fz (ns.map .int)), some d, some (.int (R : Nat)), some (.int (C : Nat)), x4, x5, x6, x7, x8, x9, x10, x11, x12] ∧ IsPool ns d ∧ (R, C) ∈ SH) ?_ ?_
  · simp only [↓wp_run, startE, ↓wp_sSeq, ↓thenS_nx, ↓thenS_rt, ↓thenS_bk, ↓thenS_ct, ↓xp_sSet, ↓xp_sDo, ↓xp_sRet, ↓wp_sIf, ↓wp_sNil, ↓wp_sBrk, ↓wp_sCnt, ↓xp_sAsg, ↓xp_sPar, ↓xp_sSetIx, ↓wp_sFor, ↓xp_tB, ↓xp_tTru, ↓wp_tNot, ↓wp_tAnd, ↓wp_tOr, ↓xp_wpV, ↓wp_C, ↓xp_V, ↓wp_O, ↓xp_R, ↓xp_e1, ↓xp_e2, ↓wp_if, ↓xp_and, ↓xp_or, ↓wp_lst, ↓wp_tup, ↓wp_nil, ↓xp_cons, ↓xp_call0, ↓xp_call1, ↓wp_anil, ↓wp_av, ↓wp_aw, ↓xp_mut1, ↓xp_mut0, ↓xp_cut, ↓wpP_none, ↓xp_psome, ↓xp_iA, ↓xp_iR1, ↓xp_iR2, exO_some, ↓reduceIte, ↓xp_end_rt, ↓xp_end_nx, ↓turn_nx, ↓turn_ct, ↓turn_bk, ↓turn_rt, get_val, get_slot, gets, looks, look, lookL, put, Option.bind_some, asB, asI, wipeE, backE, List.map_cons, List.map_nil, List.length_cons, List.length_nil, List.replicate, List.cons_append, List.nil_append, List.set_cons_zero, List.set_cons_succ, Nat.reduceAdd, Nat.reduceSub, add_ii, sub_ii, neg_i, lt_ii, le_ii, gt_ii, ge_ii, eq_ii, ne_ii, eq_bb, ne_bb, int_i, int_b, abs_i, len_l, len_f, len_t, list_l, list_t, tuple_l, tuple_t, not_b, truth_b, truth_i, ix_l, ix_f, ix_t, cut_l, min_ii, max_ii, gN, gT, gTs, at_0, at_1, at_2, at_3, decide_eq_true_eq, Bool.not_true, Bool.not_false, Bool.false_eq_true, Int.reduceEq, Int.reduceNeg, Int.reduceLT, Int.reduceLE, Int.reduceAdd, Int.reduceSub, D.int.injEq, D.bl.injEq, reduceCtorEq, ne_eq, not_true_eq_false, not_false_eq_true, List.getElem?_cons_succ, List.getElem?_cons_zero, Option.getD_some, Option.getD_none, ↓xp_chain, ↓nxS_nx, iter_l, iter_t, ↓xp_chain3, ↓wp_yes, ↓xp_iR3, ↓xp_iEn, ↓xp_iEn2, ↓xp_mut2, ↓xp_putD, ↓xp_dic0, lookD, kOf, enum_l, enum_s, listA_l, listA_f, listA_t, notT_b]
    refine (pick_ok hp (by decide) (by decide)).mono fun z ws h => ?_
    obtain ⟨hz, d2, rfl, hp2⟩ := h
    obtain ⟨R, C, rfl, hRC⟩ : ∃ R C : Nat, z = .tup [.int (R : Nat), .int (C : Nat)] ∧ (R, C) ∈ SH := by
      simp only [List.mem_cons, List.not_mem_nil, or_false] at hz
      rcases hz with rfl | rfl | rfl | rfl | rfl | rfl
      · exact ⟨1, 4, rfl, by decide⟩
      · exact ⟨2, 2, rfl, by decide⟩
      · exact ⟨2, 3, rfl, by decide⟩
      · exact ⟨3, 2, rfl, by decide⟩
      · exact ⟨1, 5, rfl, by decide⟩
      · exact ⟨4, 1, rfl, by decide⟩
    refine ⟨_, rfl, ?_⟩
    simp only [↓wp_run, startE, ↓wp_sSeq, ↓thenS_nx, ↓thenS_rt, ↓thenS_bk, ↓thenS_ct, ↓xp_sSet, ↓xp_sDo, ↓xp_sRet, ↓wp_sIf, ↓wp_sNil, ↓wp_sBrk, ↓wp_sCnt, ↓xp_sAsg, ↓xp_sPar, ↓xp_sSetIx, ↓wp_sFor, ↓xp_tB, ↓xp_tTru, ↓wp_tNot, ↓wp_tAnd, ↓wp_tOr, ↓xp_wpV, ↓wp_C, ↓xp_V, ↓wp_O, ↓xp_R, ↓xp_e1, ↓xp_e2, ↓wp_if, ↓xp_and, ↓xp_or, ↓wp_lst, ↓wp_tup, ↓wp_nil, ↓xp_cons, ↓xp_call0, ↓xp_call1, ↓wp_anil, ↓wp_av, ↓wp_aw, ↓xp_mut1, ↓xp_mut0, ↓xp_cut, ↓wpP_none, ↓xp_psome, ↓xp_iA, ↓xp_iR1, ↓xp_iR2, exO_some, ↓reduceIte, ↓xp_end_rt, ↓xp_end_nx, ↓turn_nx, ↓turn_ct, ↓turn_bk, ↓turn_rt, get_val, get_slot, gets, looks, look, lookL, put, Option.bind_some, asB, asI, wipeE, backE, List.map_cons, List.map_nil, List.length_cons, List.length_nil, List.replicate, List.cons_append, List.nil_append, List.set_cons_zero, List.set_cons_succ, Nat.reduceAdd, Nat.reduceSub, add_ii, sub_ii, neg_i, lt_ii, le_ii, gt_ii, ge_ii, eq_ii, ne_ii, eq_bb, ne_bb, int_i, int_b, abs_i, len_l, len_f, len_t, list_l, list_t, tuple_l, tuple_t, not_b, truth_b, truth_i, ix_l, ix_f, ix_t, cut_l, min_ii, max_ii, gN, gT, gTs, at_0, at_1, at_2, at_3, decide_eq_true_eq, Bool.not_true, Bool.not_false, Bool.false_eq_true, Int.reduceEq, Int.reduceNeg, Int.reduceLT, Int.reduceLE, Int.reduceAdd, Int.reduceSub, D.int.injEq, D.bl.injEq, reduceCtorEq, ne_eq, not_true_eq_false, not_false_eq_true, List.getElem?_cons_succ, List.getElem?_cons_zero, Option.getD_some, Option.getD_none, ↓xp_chain, ↓nxS_nx, iter_l, iter_t, ↓xp_chain3, ↓wp_yes, ↓xp_iR3, ↓xp_iEn, ↓xp_iEn2, ↓xp_mut2, ↓xp_putD, ↓xp_dic0, lookD, kOf, enum_l, enum_s, listA_l, listA_f, listA_t, notT_b, gT, gTs, gN, VS.put, List.set_cons_succ, List.set_cons_zero, Option.bind_some]
    exact ⟨d2, R, C, rfl, hp2, hRC⟩
  rintro ε ⟨d, R, C, rfl, hp, hRC⟩
  obtain ⟨z1, z2, m1, m2⟩ := sh_sz hRC
  refine wp_seq_of (fun ε => ∃ (d : D) (t : TT), ε = [some (.fz (ns.map .int)), some d, some (.int (R : Nat)), some (.int (C : Nat)), some (mD R C t), x5, x6, x7, x8, x9, x10, x11, x12] ∧ IsPool ns d ∧ Vt R C t) ?_ ?_
  · simp only [↓wp_run, startE, ↓wp_sSeq, ↓thenS_nx, ↓thenS_rt, ↓thenS_bk, ↓thenS_ct, ↓xp_sSet, ↓xp_sDo, ↓xp_sRet, ↓wp_sIf, ↓wp_sNil, ↓wp_sBrk, ↓wp_sCnt, ↓xp_sAsg, ↓xp_sPar, ↓xp_sSetIx, ↓wp_sFor, ↓xp_tB, ↓xp_tTru, ↓wp_tNot, ↓wp_tAnd, ↓wp_tOr, ↓xp_wpV, ↓wp_C, ↓xp_V, ↓wp_O, ↓xp_R, ↓xp_e1, ↓xp_e2, ↓wp_if, ↓xp_and, ↓xp_or, ↓wp_lst, ↓wp_tup, ↓wp_nil, ↓xp_cons, ↓xp_call0, ↓xp_call1, ↓wp_anil, ↓wp_av, ↓wp_aw, ↓xp_mut1, ↓xp_mut0, ↓xp_cut, ↓wpP_none, ↓xp_psome, ↓xp_iA, ↓xp_iR1, ↓xp_iR2, exO_some, ↓reduceIte, ↓xp_end_rt, ↓xp_end_nx, ↓turn_nx, ↓turn_ct, ↓turn_bk, ↓turn_rt, get_val, get_slot, gets, looks, look, lookL, put, Option.bind_some, asB, asI, wipeE, backE, List.map_cons, List.map_nil, List.length_cons, List.length_nil, List.replicate, List.cons_append, List.nil_append, List.set_cons_zero, List.set_cons_succ, Nat.reduceAdd, Nat.reduceSub, add_ii, sub_ii, neg_i, lt_ii, le_ii, gt_ii, ge_ii, eq_ii, ne_ii, eq_bb, ne_bb, int_i, int_b, abs_i, len_l, len_f, len_t, list_l, list_t, tuple_l, tuple_t, not_b, truth_b, truth_i, ix_l, ix_f, ix_t, cut_l, min_ii, max_ii, gN, gT, gTs, at_0, at_1, at_2, at_3, decide_eq_true_eq, Bool.not_true, Bool.not_false, Bool.false_eq_true, Int.reduceEq, Int.reduceNeg, Int.reduceLT, Int.reduceLE, Int.reduceAdd, Int.reduceSub, D.int.injEq, D.bl.injEq, reduceCtorEq, ne_eq, not_true_eq_false, not_false_eq_true, List.getElem?_cons_succ, List.getElem?_cons_zero, Option.getD_some, Option.getD_none, ↓xp_chain, ↓nxS_nx, iter_l, iter_t, ↓xp_chain3, ↓wp_yes, ↓xp_iR3, ↓xp_iEn, ↓xp_iEn2, ↓xp_mut2, ↓xp_putD, ↓xp_dic0, lookD, kOf, enum_l, enum_s, listA_l, listA_f, listA_t, notT_b]
    refine (map_ok hp z1).mono fun z ws h => ?_
    obtain ⟨⟨t, rfl, hv⟩, d2, rfl, hp2⟩ := h
    refine ⟨_, rfl, ?_⟩
    try simp only [↓wp_run, startE, ↓wp_sSeq, ↓thenS_nx, ↓thenS_rt, ↓thenS_bk, ↓thenS_ct, ↓xp_sSet, ↓xp_sDo, ↓xp_sRet, ↓wp_sIf, ↓wp_sNil, ↓wp_sBrk, ↓wp_sCnt, ↓xp_sAsg, ↓xp_sPar, ↓xp_sSetIx, ↓wp_sFor, ↓xp_tB, ↓xp_tTru, ↓wp_tNot, ↓wp_tAnd, ↓wp_tOr, ↓xp_wpV, ↓wp_C, ↓xp_V, ↓wp_O, ↓xp_R, ↓xp_e1, ↓xp_e2, ↓wp_if, ↓xp_and, ↓xp_or, ↓wp_lst, ↓wp_tup, ↓wp_nil, ↓xp_cons, ↓xp_call0, ↓xp_call1, ↓wp_anil, ↓wp_av, ↓wp_aw, ↓xp_mut1, ↓xp_mut0, ↓xp_cut, ↓wpP_none, ↓xp_psome, ↓xp_iA, ↓xp_iR1, ↓xp_iR2, exO_some, ↓reduceIte, ↓xp_end_rt, ↓xp_end_nx, ↓turn_nx, ↓turn_ct, ↓turn_bk, ↓turn_rt, get_val, get_slot, gets, looks, look, lookL, put, Option.bind_some, asB, asI, wipeE, backE, List.map_cons, List.map_nil, List.length_cons, List.length_nil, List.replicate, List.cons_append, List.nil_append, List.set_cons_zero, List.set_cons_succ, Nat.reduceAdd, Nat.reduceSub, add_ii, sub_ii, neg_i, lt_ii, le_ii, gt_ii, ge_ii, eq_ii, ne_ii, eq_bb, ne_bb, int_i, int_b, abs_i, len_l, len_f, len_t, list_l, list_t, tuple_l, tuple_t, not_b, truth_b, truth_i, ix_l, ix_f, ix_t, cut_l, min_ii, max_ii, gN, gT, gTs, at_0, at_1, at_2, at_3, decide_eq_true_eq, Bool.not_true, Bool.not_false, Bool.false_eq_true, Int.reduceEq, Int.reduceNeg, Int.reduceLT, Int.reduceLE, Int.reduceAdd, Int.reduceSub, D.int.injEq, D.bl.injEq, reduceCtorEq, ne_eq, not_true_eq_false, not_false_eq_true, List.getElem?_cons_succ, List.getElem?_cons_zero, Option.getD_some, Option.getD_none, ↓xp_chain, ↓nxS_nx, iter_l, iter_t, ↓xp_chain3, ↓wp_yes, ↓xp_iR3, ↓xp_iEn, ↓xp_iEn2, ↓xp_mut2, ↓xp_putD, ↓xp_dic0, lookD, kOf, enum_l, enum_s, listA_l, listA_f, listA_t, notT_b]
    exact ⟨d2, t, rfl, hp2, hv⟩
  rintro ε ⟨d, t, rfl, hp, hv⟩
  have hmu := mulN (r := R) (n := C) (by have := z1.2.2.2; omega)
  have hrg : dRgL (.int ((R * C : Nat) : Int)) = some (.lst (il (ni (List.range (R * C))))) := by
    have hb : inB ((R * C : Nat) : Int) = true := inb (by omega) (by omega)
    have h8 : decide (((R * C : Nat) : Int) ≤ 16777216) = true := decide_eq_true (by omega)
    have := rg_nn (n := R * C)
    simp only [dRgL, hb, h8, Bool.and_self, if_true, Int.toNat_natCast, this]; rfl
  refine wp_seq_of (fun ε => ε = [some (.fz (ns.map .int)), some d, some (.int (R : Nat)), some (.int (C : Nat)), some (mD R C t), some (.lst (il (ni (List.range (R * C))))), x6, x7, x8, x9, x10, x11, x12]) (by simp only [↓wp_run, startE, ↓wp_sSeq, ↓thenS_nx, ↓thenS_rt, ↓thenS_bk, ↓thenS_ct, ↓xp_sSet, ↓xp_sDo, ↓xp_sRet, ↓wp_sIf, ↓wp_sNil, ↓wp_sBrk, ↓wp_sCnt, ↓xp_sAsg, ↓xp_sPar, ↓xp_sSetIx, ↓wp_sFor, ↓xp_tB, ↓xp_tTru, ↓wp_tNot, ↓wp_tAnd, ↓wp_tOr, ↓xp_wpV, ↓wp_C, ↓xp_V, ↓wp_O, ↓xp_R, ↓xp_e1, ↓xp_e2, ↓wp_if, ↓xp_and, ↓xp_or, ↓wp_lst, ↓wp_tup, ↓wp_nil, ↓xp_cons, ↓xp_call0, ↓xp_call1, ↓wp_anil, ↓wp_av, ↓wp_aw, ↓xp_mut1, ↓xp_mut0, ↓xp_cut, ↓wpP_none, ↓xp_psome, ↓xp_iA, ↓xp_iR1, ↓xp_iR2, exO_some, ↓reduceIte, ↓xp_end_rt, ↓xp_end_nx, ↓turn_nx, ↓turn_ct, ↓turn_bk, ↓turn_rt, get_val, get_slot, gets, looks, look, lookL, put, Option.bind_some, asB, asI, wipeE, backE, List.map_cons, List.map_nil, List.length_cons, List.length_nil, List.replicate, List.cons_append, List.nil_append, List.set_cons_zero, List.set_cons_succ, Nat.reduceAdd, Nat.reduceSub, add_ii, sub_ii, neg_i, lt_ii, le_ii, gt_ii, ge_ii, eq_ii, ne_ii, eq_bb, ne_bb, int_i, int_b, abs_i, len_l, len_f, len_t, list_l, list_t, tuple_l, tuple_t, not_b, truth_b, truth_i, ix_l, ix_f, ix_t, cut_l, min_ii, max_ii, gN, gT, gTs, at_0, at_1, at_2, at_3, decide_eq_true_eq, Bool.not_true, Bool.not_false, Bool.false_eq_true, Int.reduceEq, Int.reduceNeg, Int.reduceLT, Int.reduceLE, Int.reduceAdd, Int.reduceSub, D.int.injEq, D.bl.injEq, reduceCtorEq, ne_eq, not_true_eq_false, not_false_eq_true, List.getElem?_cons_succ, List.getElem?_cons_zero, Option.getD_some, Option.getD_none, ↓xp_chain, ↓nxS_nx, iter_l, iter_t, ↓xp_chain3, ↓wp_yes, ↓xp_iR3, ↓xp_iEn, ↓xp_iEn2, ↓xp_mut2, ↓xp_putD, ↓xp_dic0, lookD, kOf, enum_l, enum_s, listA_l, listA_f, listA_t, notT_b, hmu, hrg]) ?_
  rintro ε rfl
  refine wp_seq_of _ (drw_ok hp z1 m1 hv) ?_
  clear hv t
  rintro ε ⟨d, t, x5, x6, x11, rfl, hp, hv⟩
  have hc := ck_all hRC hv
  have ms := fun t => map_states_eq z1 m1 t
  have ms' := map_states_eq z2 m2 (tuT R C t)
  have hl : ∀ X : List (List Nat), dLen (.lst (srt (nns X))) = some (.int ((X.length : Nat) : Int)) := fun X => by rw [len_l, srt_len, nns_len]
  have hl2 : ∀ X : List (List Nat), (srt (nns X)).length = X.length := fun X => by rw [srt_len, nns_len]
  have hne : ∀ z : Int, dNe (.int z) (.int z) = some (.bl false) := fun z => by rw [ne_ii]; simp
  have q1 := hc.tu
  have q2 := hc.ex
  have q3 := hc.co
  have q4 := hc.us
  refine wp_seq_of (fun ε => ε = [some (.fz (ns.map .int)), some d, some (.int (R : Nat)), some (.int (C : Nat)), some (mD R C t), x5, x6, some (.int ((Sx R C t).length : Nat)), x8, x9, x10, x11, x12]) (by simp only [↓wp_run, startE, ↓wp_sSeq, ↓thenS_nx, ↓thenS_rt, ↓thenS_bk, ↓thenS_ct, ↓xp_sSet, ↓xp_sDo, ↓xp_sRet, ↓wp_sIf, ↓wp_sNil, ↓wp_sBrk, ↓wp_sCnt, ↓xp_sAsg, ↓xp_sPar, ↓xp_sSetIx, ↓wp_sFor, ↓xp_tB, ↓xp_tTru, ↓wp_tNot, ↓wp_tAnd, ↓wp_tOr, ↓xp_wpV, ↓wp_C, ↓xp_V, ↓wp_O, ↓xp_R, ↓xp_e1, ↓xp_e2, ↓wp_if, ↓xp_and, ↓xp_or, ↓wp_lst, ↓wp_tup, ↓wp_nil, ↓xp_cons, ↓xp_call0, ↓xp_call1, ↓wp_anil, ↓wp_av, ↓wp_aw, ↓xp_mut1, ↓xp_mut0, ↓xp_cut, ↓wpP_none, ↓xp_psome, ↓xp_iA, ↓xp_iR1, ↓xp_iR2, exO_some, ↓reduceIte, ↓xp_end_rt, ↓xp_end_nx, ↓turn_nx, ↓turn_ct, ↓turn_bk, ↓turn_rt, get_val, get_slot, gets, looks, look, lookL, put, Option.bind_some, asB, asI, wipeE, backE, List.map_cons, List.map_nil, List.length_cons, List.length_nil, List.replicate, List.cons_append, List.nil_append, List.set_cons_zero, List.set_cons_succ, Nat.reduceAdd, Nat.reduceSub, add_ii, sub_ii, neg_i, lt_ii, le_ii, gt_ii, ge_ii, eq_ii, ne_ii, eq_bb, ne_bb, int_i, int_b, abs_i, len_l, len_f, len_t, list_l, list_t, tuple_l, tuple_t, not_b, truth_b, truth_i, ix_l, ix_f, ix_t, cut_l, min_ii, max_ii, gN, gT, gTs, at_0, at_1, at_2, at_3, decide_eq_true_eq, Bool.not_true, Bool.not_false, Bool.false_eq_true, Int.reduceEq, Int.reduceNeg, Int.reduceLT, Int.reduceLE, Int.reduceAdd, Int.reduceSub, D.int.injEq, D.bl.injEq, reduceCtorEq, ne_eq, not_true_eq_false, not_false_eq_true, List.getElem?_cons_succ, List.getElem?_cons_zero, Option.getD_some, Option.getD_none, ↓xp_chain, ↓nxS_nx, iter_l, iter_t, ↓xp_chain3, ↓wp_yes, ↓xp_iR3, ↓xp_iEn, ↓xp_iEn2, ↓xp_mut2, ↓xp_putD, ↓xp_dic0, lookD, kOf, enum_l, enum_s, listA_l, listA_f, listA_t, notT_b, wpF_eq (ms t), hl2]) ?_
  rintro ε rfl
  refine wp_seq_of (fun ε => ε = [some (.fz (ns.map .int)), some d, some (.int (R : Nat)), some (.int (C : Nat)), some (mD R C t), x5, x6, some (.int ((Sx R C t).length : Nat)), x8, x9, x10, x11, x12]) (by simp only [↓wp_run, startE, ↓wp_sSeq, ↓thenS_nx, ↓thenS_rt, ↓thenS_bk, ↓thenS_ct, ↓xp_sSet, ↓xp_sDo, ↓xp_sRet, ↓wp_sIf, ↓wp_sNil, ↓wp_sBrk, ↓wp_sCnt, ↓xp_sAsg, ↓xp_sPar, ↓xp_sSetIx, ↓wp_sFor, ↓xp_tB, ↓xp_tTru, ↓wp_tNot, ↓wp_tAnd, ↓wp_tOr, ↓xp_wpV, ↓wp_C, ↓xp_V, ↓wp_O, ↓xp_R, ↓xp_e1, ↓xp_e2, ↓wp_if, ↓xp_and, ↓xp_or, ↓wp_lst, ↓wp_tup, ↓wp_nil, ↓xp_cons, ↓xp_call0, ↓xp_call1, ↓wp_anil, ↓wp_av, ↓wp_aw, ↓xp_mut1, ↓xp_mut0, ↓xp_cut, ↓wpP_none, ↓xp_psome, ↓xp_iA, ↓xp_iR1, ↓xp_iR2, exO_some, ↓reduceIte, ↓xp_end_rt, ↓xp_end_nx, ↓turn_nx, ↓turn_ct, ↓turn_bk, ↓turn_rt, get_val, get_slot, gets, looks, look, lookL, put, Option.bind_some, asB, asI, wipeE, backE, List.map_cons, List.map_nil, List.length_cons, List.length_nil, List.replicate, List.cons_append, List.nil_append, List.set_cons_zero, List.set_cons_succ, Nat.reduceAdd, Nat.reduceSub, add_ii, sub_ii, neg_i, lt_ii, le_ii, gt_ii, ge_ii, eq_ii, ne_ii, eq_bb, ne_bb, int_i, int_b, abs_i, len_l, len_f, len_t, list_l, list_t, tuple_l, tuple_t, not_b, truth_b, truth_i, ix_l, ix_f, ix_t, cut_l, min_ii, max_ii, gN, gT, gTs, at_0, at_1, at_2, at_3, decide_eq_true_eq, Bool.not_true, Bool.not_false, Bool.false_eq_true, Int.reduceEq, Int.reduceNeg, Int.reduceLT, Int.reduceLE, Int.reduceAdd, Int.reduceSub, D.int.injEq, D.bl.injEq, reduceCtorEq, ne_eq, not_true_eq_false, not_false_eq_true, List.getElem?_cons_succ, List.getElem?_cons_zero, Option.getD_some, Option.getD_none, ↓xp_chain, ↓nxS_nx, iter_l, iter_t, ↓xp_chain3, ↓wp_yes, ↓xp_iR3, ↓xp_iEn, ↓xp_iEn2, ↓xp_mut2, ↓xp_putD, ↓xp_dic0, lookD, kOf, enum_l, enum_s, listA_l, listA_f, listA_t, notT_b, wpF_eq (turned_eq z1 hv), wpF_eq ms', hl2, q1, hne, eq_self, decide_true, Bool.not_true]) ?_
  rintro ε rfl
  refine wp_seq_of _ (ex_ok z1 hv) ?_
  rintro ε rfl
  refine wp_seq_of (fun ε => ε = [some (.fz (ns.map .int)), some d, some (.int (R : Nat)), some (.int (C : Nat)), some (mD R C t), x5, x6, some (.int ((Sx R C t).length : Nat)), some (mD R C (exT t)), x9, x10, x11, x12]) (by simp only [↓wp_run, startE, ↓wp_sSeq, ↓thenS_nx, ↓thenS_rt, ↓thenS_bk, ↓thenS_ct, ↓xp_sSet, ↓xp_sDo, ↓xp_sRet, ↓wp_sIf, ↓wp_sNil, ↓wp_sBrk, ↓wp_sCnt, ↓xp_sAsg, ↓xp_sPar, ↓xp_sSetIx, ↓wp_sFor, ↓xp_tB, ↓xp_tTru, ↓wp_tNot, ↓wp_tAnd, ↓wp_tOr, ↓xp_wpV, ↓wp_C, ↓xp_V, ↓wp_O, ↓xp_R, ↓xp_e1, ↓xp_e2, ↓wp_if, ↓xp_and, ↓xp_or, ↓wp_lst, ↓wp_tup, ↓wp_nil, ↓xp_cons, ↓xp_call0, ↓xp_call1, ↓wp_anil, ↓wp_av, ↓wp_aw, ↓xp_mut1, ↓xp_mut0, ↓xp_cut, ↓wpP_none, ↓xp_psome, ↓xp_iA, ↓xp_iR1, ↓xp_iR2, exO_some, ↓reduceIte, ↓xp_end_rt, ↓xp_end_nx, ↓turn_nx, ↓turn_ct, ↓turn_bk, ↓turn_rt, get_val, get_slot, gets, looks, look, lookL, put, Option.bind_some, asB, asI, wipeE, backE, List.map_cons, List.map_nil, List.length_cons, List.length_nil, List.replicate, List.cons_append, List.nil_append, List.set_cons_zero, List.set_cons_succ, Nat.reduceAdd, Nat.reduceSub, add_ii, sub_ii, neg_i, lt_ii, le_ii, gt_ii, ge_ii, eq_ii, ne_ii, eq_bb, ne_bb, int_i, int_b, abs_i, len_l, len_f, len_t, list_l, list_t, tuple_l, tuple_t, not_b, truth_b, truth_i, ix_l, ix_f, ix_t, cut_l, min_ii, max_ii, gN, gT, gTs, at_0, at_1, at_2, at_3, decide_eq_true_eq, Bool.not_true, Bool.not_false, Bool.false_eq_true, Int.reduceEq, Int.reduceNeg, Int.reduceLT, Int.reduceLE, Int.reduceAdd, Int.reduceSub, D.int.injEq, D.bl.injEq, reduceCtorEq, ne_eq, not_true_eq_false, not_false_eq_true, List.getElem?_cons_succ, List.getElem?_cons_zero, Option.getD_some, Option.getD_none, ↓xp_chain, ↓nxS_nx, iter_l, iter_t, ↓xp_chain3, ↓wp_yes, ↓xp_iR3, ↓xp_iEn, ↓xp_iEn2, ↓xp_mut2, ↓xp_putD, ↓xp_dic0, lookD, kOf, enum_l, enum_s, listA_l, listA_f, listA_t, notT_b, wpF_eq (ms (exT t)), hl2, q2, hne, eq_self, decide_true, Bool.not_true]) ?_
  rintro ε rfl
  refine wp_seq_of _ (rev_ok z1 m1 hc) ?_
  rintro ε ⟨x6, rfl⟩
  refine wp_seq_of _ (co_ok z1 hv) ?_
  rintro ε rfl
  refine wp_seq_of _ us_ok ?_
  rintro ε rfl
  simp only [↓wp_run, startE, ↓wp_sSeq, ↓thenS_nx, ↓thenS_rt, ↓thenS_bk, ↓thenS_ct, ↓xp_sSet, ↓xp_sDo, ↓xp_sRet, ↓wp_sIf, ↓wp_sNil, ↓wp_sBrk, ↓wp_sCnt, ↓xp_sAsg, ↓xp_sPar, ↓xp_sSetIx, ↓wp_sFor, ↓xp_tB, ↓xp_tTru, ↓wp_tNot, ↓wp_tAnd, ↓wp_tOr, ↓xp_wpV, ↓wp_C, ↓xp_V, ↓wp_O, ↓xp_R, ↓xp_e1, ↓xp_e2, ↓wp_if, ↓xp_and, ↓xp_or, ↓wp_lst, ↓wp_tup, ↓wp_nil, ↓xp_cons, ↓xp_call0, ↓xp_call1, ↓wp_anil, ↓wp_av, ↓wp_aw, ↓xp_mut1, ↓xp_mut0, ↓xp_cut, ↓wpP_none, ↓xp_psome, ↓xp_iA, ↓xp_iR1, ↓xp_iR2, exO_some, ↓reduceIte, ↓xp_end_rt, ↓xp_end_nx, ↓turn_nx, ↓turn_ct, ↓turn_bk, ↓turn_rt, get_val, get_slot, gets, looks, look, lookL, put, Option.bind_some, asB, asI, wipeE, backE, List.map_cons, List.map_nil, List.length_cons, List.length_nil, List.replicate, List.cons_append, List.nil_append, List.set_cons_zero, List.set_cons_succ, Nat.reduceAdd, Nat.reduceSub, add_ii, sub_ii, neg_i, lt_ii, le_ii, gt_ii, ge_ii, eq_ii, ne_ii, eq_bb, ne_bb, int_i, int_b, abs_i, len_l, len_f, len_t, list_l, list_t, tuple_l, tuple_t, not_b, truth_b, truth_i, ix_l, ix_f, ix_t, cut_l, min_ii, max_ii, gN, gT, gTs, at_0, at_1, at_2, at_3, decide_eq_true_eq, Bool.not_true, Bool.not_false, Bool.false_eq_true, Int.reduceEq, Int.reduceNeg, Int.reduceLT, Int.reduceLE, Int.reduceAdd, Int.reduceSub, D.int.injEq, D.bl.injEq, reduceCtorEq, ne_eq, not_true_eq_false, not_false_eq_true, List.getElem?_cons_succ, List.getElem?_cons_zero, Option.getD_some, Option.getD_none, ↓xp_chain, ↓nxS_nx, iter_l, iter_t, ↓xp_chain3, ↓wp_yes, ↓xp_iR3, ↓xp_iEn, ↓xp_iEn2, ↓xp_mut2, ↓xp_putD, ↓xp_dic0, lookD, kOf, enum_l, enum_s, listA_l, listA_f, listA_t, notT_b, wpF_eq (ms (coT t)), wpF_eq (ms (usT t)), hl2, q3, q4, eq_self, decide_true, if_true, and_self]

end L2.VS.LAW

namespace L2.VS.LAW
open PySem PySem.Spec PyProof.Rows
def topS (i : Nat) : Stmt := PySem.Challenge.pw_creasewise_k20_whole_maps_turned_and_mir.main.body.getD i (.Pass ⟨0, 0, 0, 0⟩)
abbrev s_letter_at : Stmt := topS 4
abbrev s_map_of : Stmt := topS 5
abbrev s_joints : Stmt := topS 3
abbrev s_lie_alternately : Stmt := topS 1
abbrev s_can_lie : Stmt := topS 7
abbrev s_all_piles : Stmt := topS 8
abbrev s_map_states : Stmt := topS 9
abbrev s_u_law_mixed : Stmt := topS 11
abbrev s_u_law_rest : Stmt := topS 12
abbrev s_u_law_pool : Stmt := topS 13
abbrev s_u_law_draw : Stmt := topS 15
abbrev s_u_law_pick : Stmt := topS 16
abbrev s_u_law_next : Stmt := topS 14
abbrev s_u_law_letters : Stmt := topS 17
abbrev s_u_law_map : Stmt := topS 18
abbrev s_u_law_turned : Stmt := topS 19
abbrev s_u_law_exchanged : Stmt := topS 20
abbrev s_law : Stmt := topS 21
/-! what each def computes -/
structure Txt (K : PySem.W.Frag) (mg : Str → Option Value) where
  a_letter_at : Addr
  d_letter_at : FuncData
  F_letter_at : Fun K "letter_at" "letter_at" s_letter_at a_letter_at d_letter_at
  m_letter_at : mg "letter_at" = some (.ref a_letter_at)
  b_letter_at : Binds K d_letter_at ["columns", "order", "one", "other"] []
  a_map_of : Addr
  d_map_of : FuncData
  F_map_of : Fun K "map_of" "map_of" s_map_of a_map_of d_map_of
  m_map_of : mg "map_of" = some (.ref a_map_of)
  b_map_of : Binds K d_map_of ["rows", "columns", "order"] []
  a_joints : Addr
  d_joints : FuncData
  F_joints : Fun K "joints" "joints" s_joints a_joints d_joints
  m_joints : mg "joints" = some (.ref a_joints)
  b_joints : Binds K d_joints ["rows", "columns"] []
  a_lie_alternately : Addr
  d_lie_alternately : FuncData
  F_lie_alternately : Fun K "lie_alternately" "lie_alternately" s_lie_alternately a_lie_alternately d_lie_alternately
  m_lie_alternately : mg "lie_alternately" = some (.ref a_lie_alternately)
  b_lie_alternately : Binds K d_lie_alternately ["one", "other", "place"] []
  a_can_lie : Addr
  d_can_lie : FuncData
  F_can_lie : Fun K "can_lie" "can_lie" s_can_lie a_can_lie d_can_lie
  m_can_lie : mg "can_lie" = some (.ref a_can_lie)
  b_can_lie : Binds K d_can_lie ["told", "order", "square"] []
  a_all_piles : Addr
  d_all_piles : FuncData
  F_all_piles : Fun K "all_piles" "all_piles" s_all_piles a_all_piles d_all_piles
  m_all_piles : mg "all_piles" = some (.ref a_all_piles)
  b_all_piles : Binds K d_all_piles ["rows", "columns"] []
  a_map_states : Addr
  d_map_states : FuncData
  F_map_states : Fun K "map_states" "map_states" s_map_states a_map_states d_map_states
  m_map_states : mg "map_states" = some (.ref a_map_states)
  b_map_states : Binds K d_map_states ["told"] []
  a_u_law_mixed : Addr
  d_u_law_mixed : FuncData
  F_u_law_mixed : Fun K "_law_mixed" "_law_mixed" s_u_law_mixed a_u_law_mixed d_u_law_mixed
  m_u_law_mixed : mg "_law_mixed" = some (.ref a_u_law_mixed)
  b_u_law_mixed : Binds K d_u_law_mixed ["number", "place"] []
  a_u_law_rest : Addr
  d_u_law_rest : FuncData
  F_u_law_rest : Fun K "_law_rest" "_law_rest" s_u_law_rest a_u_law_rest d_u_law_rest
  m_u_law_rest : mg "_law_rest" = some (.ref a_u_law_rest)
  b_u_law_rest : Binds K d_u_law_rest ["script", "place", "fills"] []
  a_u_law_pool : Addr
  d_u_law_pool : FuncData
  F_u_law_pool : Fun K "_law_pool" "_law_pool" s_u_law_pool a_u_law_pool d_u_law_pool
  m_u_law_pool : mg "_law_pool" = some (.ref a_u_law_pool)
  b_u_law_pool : Binds K d_u_law_pool ["script"] []
  a_u_law_draw : Addr
  d_u_law_draw : FuncData
  F_u_law_draw : Fun K "_law_draw" "_law_draw" s_u_law_draw a_u_law_draw d_u_law_draw
  m_u_law_draw : mg "_law_draw" = some (.ref a_u_law_draw)
  b_u_law_draw : Binds K d_u_law_draw ["pool", "limit"] []
  a_u_law_pick : Addr
  d_u_law_pick : FuncData
  F_u_law_pick : Fun K "_law_pick" "_law_pick" s_u_law_pick a_u_law_pick d_u_law_pick
  m_u_law_pick : mg "_law_pick" = some (.ref a_u_law_pick)
  b_u_law_pick : Binds K d_u_law_pick ["pool", "options"] []
  a_u_law_next : Addr
  d_u_law_next : FuncData
  F_u_law_next : Fun K "_law_next" "_law_next" s_u_law_next a_u_law_next d_u_law_next
  m_u_law_next : mg "_law_next" = some (.ref a_u_law_next)
  b_u_law_next : Binds K d_u_law_next ["pool"] []
  a_u_law_letters : Addr
  d_u_law_letters : FuncData
  F_u_law_letters : Fun K "_law_letters" "_law_letters" s_u_law_letters a_u_law_letters d_u_law_letters
  m_u_law_letters : mg "_law_letters" = some (.ref a_u_law_letters)
  b_u_law_letters : Binds K d_u_law_letters ["pool", "many"] []
  a_u_law_map : Addr
  d_u_law_map : FuncData
  F_u_law_map : Fun K "_law_map" "_law_map" s_u_law_map a_u_law_map d_u_law_map
  m_u_law_map : mg "_law_map" = some (.ref a_u_law_map)
  b_u_law_map : Binds K d_u_law_map ["pool", "rows", "columns"] []
  a_u_law_turned : Addr
  d_u_law_turned : FuncData
  F_u_law_turned : Fun K "_law_turned" "_law_turned" s_u_law_turned a_u_law_turned d_u_law_turned
  m_u_law_turned : mg "_law_turned" = some (.ref a_u_law_turned)
  b_u_law_turned : Binds K d_u_law_turned ["told"] []
  a_u_law_exchanged : Addr
  d_u_law_exchanged : FuncData
  F_u_law_exchanged : Fun K "_law_exchanged" "_law_exchanged" s_u_law_exchanged a_u_law_exchanged d_u_law_exchanged
  m_u_law_exchanged : mg "_law_exchanged" = some (.ref a_u_law_exchanged)
  b_u_law_exchanged : Binds K d_u_law_exchanged ["text"] []
  a_law : Addr
  d_law : FuncData
  F_law : Fun K "law" "law" s_law a_law d_law
  m_law : mg "law" = some (.ref a_law)
  b_law : Binds K d_law ["script"] []
  z_enumerate : mg "enumerate" = none
  z_int : mg "int" = none
  z_len : mg "len" = none
  z_list : mg "list" = none
  z_range : mg "range" = none
  z_sorted : mg "sorted" = none
section
variable {P : Program} {w : World} {K : PySem.W.Frag} {mg : Str → Option Value} {base : Heap}
set_option maxHeartbeats 4000000
theorem sc_letter_at : FnScope ["columns", "order", "one", "other", "up"] ["columns", "order", "one", "other"] (defScope s_letter_at) := ⟨rfl, rfl, rfl, by decide +kernel, rfl, by decide +kernel, by decide +kernel⟩
theorem ok_letter_at (T : Txt K mg) : FnOk P w K mg base CX0 1 T.a_letter_at T.d_letter_at ["columns", "order", "one", "other"] (spD K [.sh, .sh, .sh, .sh] [] false letter_at_f) := by
  have sc := sc_letter_at
  exact def_ok T.F_letter_at sc [.sh, .sh, .sh, .sh] [] false [.sh, .sh, .sh, .sh, .sh] rfl (how_of rfl) (by decide) (.inr (by decide)) (fun h => nomatch h) fun cdv A outer s H E hr =>
  (psds_cons (psd_set 4 sc.nd (ped_cmp (cmp_eq hr.units) (pod_of_ped (ped_mod (pod_of_ped (ped_add (pod_of_ped (ped_fdiv (pod_of_ped (ped_v 2)) (pod_of_ped (ped_v 0)))) (pod_of_ped (ped_mod (pod_of_ped (ped_v 2)) (pod_of_ped (ped_v 0)))))) (pod_of_ped ped_int))) (pod_of_ped ped_int)))
  (psds_one (psd_ret (ped_if (ptd_cmp (cmp_eq hr.units) (pod_of_ped (ped_cmp cmp_lt (pod_of_ped (ped_index (hu65 hr) (ped_v 1) (ped_v 2))) (pod_of_ped (ped_index (hu65 hr) (ped_v 1) (ped_v 3))))) (pod_of_ped (ped_v 4))) (ped_str [118]) (ped_str [109])))))
theorem sc_map_of : FnScope ["rows", "columns", "order", "across", "down", "row", "first", "squares", "at"] ["rows", "columns", "order"] (defScope s_map_of) := ⟨rfl, rfl, rfl, by decide +kernel, rfl, by decide +kernel, by decide +kernel⟩
theorem ok_map_of (T : Txt K mg) : FnOk P w K mg base CX0 2 T.a_map_of T.d_map_of ["rows", "columns", "order"] (spD K [.sh, .sh, .sh] [] false map_of_f) := by
  have sc := sc_map_of
  exact def_ok T.F_map_of sc [.sh, .sh, .sh] [] false [.sh, .sh, .sh, .sh, .sh, .sh, .sh, .sh, .sh] rfl (how_of rfl) (by decide) (.inr (by decide)) (fun h => nomatch h) fun cdv A outer s H E hr =>
  (psds_cons (psd_setO 3 sc.nd (pfd_lst pvd_nil))
  (psds_cons (psd_setO 4 sc.nd (pfd_lst pvd_nil))
  (psds_cons (psd_for [.sh, .sh, .sh, .ow, .ow, .sh, .sh, .sh, .sh] (pid_r1 (ped_v 0) T.z_range) (pgd_n 5 sc.nd) (psds_cons (psd_set 6 sc.nd (ped_mul (pod_of_ped (ped_v 5)) (pod_of_ped (ped_v 1))))
  (psds_cons (psd_set 7 sc.nd (ped_of_pfd (pfd_listR2 (ped_v 6) (ped_add (pod_of_ped (ped_v 6)) (pod_of_ped (ped_v 1))) T.z_list T.z_range)))
  (psds_cons (psd_do (ped_append 3 (ped_join (pod_of_ped (ped_of_pfd (pfd_comp [("at", 8)] [.sh, .sh, .sh, .ow, .ow, .sh, .sh, .sh, .sh] sc.nd (pid_a (ped_cut (pod_of_ped (ped_v 7)) ppd_none (ppd_some (ped_neg (pod_of_ped ped_int))))) (fun _ _ _ _ _ => (pgd_n 8 sc.nd)) (fun _ _ _ _ _ => (ptsd_nil)) (fun _ _ _ _ _ => (ped_call0 (ok_letter_at T) (hr.mono (by decide)) T.m_letter_at T.F_letter_at.kp T.b_letter_at (pad_v (ped_v 1) (pad_v (ped_v 2) (pad_v (ped_v 8) (pad_v (ped_add (pod_of_ped (ped_v 8)) (pod_of_ped ped_int)) pad_nil)))))) (sb := Subf.refl)))))))
  (psds_one (psd_if (ptd_cmp cmp_lt (pod_of_ped (ped_add (pod_of_ped (ped_v 5)) (pod_of_ped ped_int))) (pod_of_ped (ped_v 0))) (psds_one (psd_do (ped_append 4 (ped_join (pod_of_ped (ped_of_pfd (pfd_comp [("at", 8)] [.sh, .sh, .sh, .ow, .ow, .sh, .sh, .sh, .sh] sc.nd (pid_a (ped_v 7)) (fun _ _ _ _ _ => (pgd_n 8 sc.nd)) (fun _ _ _ _ _ => (ptsd_nil)) (fun _ _ _ _ _ => (ped_call0 (ok_letter_at T) (hr.mono (by decide)) T.m_letter_at T.F_letter_at.kp T.b_letter_at (pad_v (ped_v 1) (pad_v (ped_v 2) (pad_v (ped_v 8) (pad_v (ped_add (pod_of_ped (ped_v 8)) (pod_of_ped (ped_v 1))) pad_nil)))))) (sb := Subf.refl)))))))) psds_nil))))))
  (psds_one (psd_pre [.sh, .sh, .sh, .sh, .sh, .sh, .sh, .sh, .sh] (psd_ret (ped_tup (pvd_cons (ped_v 0) (pvd_cons (ped_v 1) (pvd_cons (ped_v 3) (pvd_cons (ped_v 4) pvd_nil)))))))))))
theorem sc_joints : FnScope ["rows", "columns", "found", "row", "column", "at"] ["rows", "columns"] (defScope s_joints) := ⟨rfl, rfl, rfl, by decide +kernel, rfl, by decide +kernel, by decide +kernel⟩
theorem ok_joints (T : Txt K mg) : FnOk P w K mg base CX0 1 T.a_joints T.d_joints ["rows", "columns"] (spD K [.sh, .sh] [] false joints_f) := by
  have sc := sc_joints
  exact def_ok T.F_joints sc [.sh, .sh] [] false [.sh, .sh, .sh, .sh, .sh, .sh] rfl (how_of rfl) (by decide) (.inr (by decide)) (fun h => nomatch h) fun cdv A outer s H E hr =>
  (psds_cons (psd_setO 2 sc.nd (pfd_lst pvd_nil))
  (psds_cons (psd_for [.sh, .sh, .ow, .sh, .sh, .sh] (pid_r1 (ped_v 0) T.z_range) (pgd_n 3 sc.nd) (psds_one (psd_for [.sh, .sh, .ow, .sh, .sh, .sh] (pid_r1 (ped_v 1) T.z_range) (pgd_n 4 sc.nd) (psds_cons (psd_set 5 sc.nd (ped_add (pod_of_ped (ped_mul (pod_of_ped (ped_v 3)) (pod_of_ped (ped_v 1)))) (pod_of_ped (ped_v 4))))
  (psds_cons (psd_if (ptd_cmp cmp_lt (pod_of_ped (ped_add (pod_of_ped (ped_v 4)) (pod_of_ped ped_int))) (pod_of_ped (ped_v 1))) (psds_one (psd_do (ped_append 2 (ped_tup (pvd_cons (ped_v 5) (pvd_cons (ped_add (pod_of_ped (ped_v 5)) (pod_of_ped ped_int)) (pvd_cons (ped_if (ptd_cmp (cmp_eq hr.units) (pod_of_ped (ped_mod (pod_of_ped (ped_v 4)) (pod_of_ped ped_int))) (pod_of_ped ped_int)) (ped_str [101]) (ped_str [119])) pvd_nil))))))) psds_nil)
  (psds_one (psd_if (ptd_cmp cmp_lt (pod_of_ped (ped_add (pod_of_ped (ped_v 3)) (pod_of_ped ped_int))) (pod_of_ped (ped_v 0))) (psds_one (psd_do (ped_append 2 (ped_tup (pvd_cons (ped_v 5) (pvd_cons (ped_add (pod_of_ped (ped_v 5)) (pod_of_ped (ped_v 1))) (pvd_cons (ped_if (ptd_cmp (cmp_eq hr.units) (pod_of_ped (ped_mod (pod_of_ped (ped_v 3)) (pod_of_ped ped_int))) (pod_of_ped ped_int)) (ped_str [115]) (ped_str [110])) pvd_nil))))))) psds_nil)))))))
  (psds_one (psd_ret (ped_of_pfd (pfd_sortX (hu65 hr) (pod_v 2) T.z_sorted))))))
theorem sc_lie_alternately : FnScope ["one", "other", "place", "first", "second", "piece"] ["one", "other", "place"] (defScope s_lie_alternately) := ⟨rfl, rfl, rfl, by decide +kernel, rfl, by decide +kernel, by decide +kernel⟩
theorem ok_lie_alternately (T : Txt K mg) : FnOk P w K mg base CX0 1 T.a_lie_alternately T.d_lie_alternately ["one", "other", "place"] (spD K [.sh, .sh, .sh] [] false lie_alternately_f) := by
  have sc := sc_lie_alternately
  exact def_ok T.F_lie_alternately sc [.sh, .sh, .sh] [] false [.sh, .sh, .sh, .sh, .sh, .sh] rfl (how_of rfl) (by decide) (.inr (by decide)) (fun h => nomatch h) fun cdv A outer s H E hr =>
  (psds_cons (psd_set 3 sc.nd (ped_of_pfd (pfd_sortI (pod_of_ped (ped_of_pfd (pfd_comp [("piece", 5)] [.sh, .sh, .sh, .sh, .sh, .sh] sc.nd (pid_a (ped_v 0)) (fun _ _ _ _ _ => (pgd_n 5 sc.nd)) (fun _ _ _ _ _ => (ptsd_nil)) (fun _ _ _ _ _ => (ped_getD (hu65 hr) (pod_of_ped (ped_v 2)) (pod_of_ped (ped_v 5)))) (sb := Subf.refl)))) T.z_sorted)))
  (psds_cons (psd_set 4 sc.nd (ped_of_pfd (pfd_sortI (pod_of_ped (ped_of_pfd (pfd_comp [("piece", 5)] [.sh, .sh, .sh, .sh, .sh, .sh] sc.nd (pid_a (ped_v 1)) (fun _ _ _ _ _ => (pgd_n 5 sc.nd)) (fun _ _ _ _ _ => (ptsd_nil)) (fun _ _ _ _ _ => (ped_getD (hu65 hr) (pod_of_ped (ped_v 2)) (pod_of_ped (ped_v 5)))) (sb := Subf.refl)))) T.z_sorted)))
  (psds_one (psd_ret (ped_or (ped_chain3 cmp_lt cmp_lt cmp_lt (ped_ix (pod_of_ped (ped_v 3)) (pod_of_ped ped_int)) (ped_ix (pod_of_ped (ped_v 4)) (pod_of_ped ped_int)) (ped_ix (pod_of_ped (ped_v 3)) (pod_of_ped ped_int)) (ped_ix (pod_of_ped (ped_v 4)) (pod_of_ped ped_int))) (ped_one (ped_chain3 cmp_lt cmp_lt cmp_lt (ped_ix (pod_of_ped (ped_v 4)) (pod_of_ped ped_int)) (ped_ix (pod_of_ped (ped_v 3)) (pod_of_ped ped_int)) (ped_ix (pod_of_ped (ped_v 4)) (pod_of_ped ped_int)) (ped_ix (pod_of_ped (ped_v 3)) (pod_of_ped ped_int)))))))))
theorem sc_can_lie : FnScope ["told", "order", "square", "place", "own", "others", "one", "other", "side", "first", "second", "way", "at", "joint"] ["told", "order", "square"] (defScope s_can_lie) := ⟨rfl, rfl, rfl, by decide +kernel, rfl, by decide +kernel, by decide +kernel⟩
theorem ok_can_lie (T : Txt K mg) : FnOk P w K mg base CX0 2 T.a_can_lie T.d_can_lie ["told", "order", "square"] (spD K [.sh, .sh, .sh] [] false can_lie_f) := by
  have sc := sc_can_lie
  exact def_ok T.F_can_lie sc [.sh, .sh, .sh] [] false [.sh, .sh, .sh, .sh, .sh, .sh, .sh, .sh, .sh, .sh, .sh, .sh, .sh, .sh] rfl (how_of rfl) (by decide) (.inr (by decide)) (fun h => nomatch h) fun cdv A outer s H E hr =>
  (psds_cons (psd_setGS 3 [("at", 12), ("other", 7)] [.sh, .sh, .sh, .sh, .sh, .sh, .sh, .sh, .sh, .sh, .sh, .sh, .sh, .sh] sc.nd (pid_en2 (ped_v 1) T.z_enumerate) (fun _ _ _ _ _ => (pgd_t (pgds_n 12 sc.nd (pgds_n 7 sc.nd pgds_nil)))) (fun _ _ _ _ _ => (ptsd_nil)) (fun _ _ _ _ _ => (ped_v 7)) (fun _ _ _ _ _ => (ped_v 12)) (sb := Subf.refl))
  (psds_cons (psd_setCS 4 [("joint", 13)] [.sh, .sh, .sh, .sh, .sh, .sh, .sh, .sh, .sh, .sh, .sh, .sh, .sh, .sh] sc.nd (pid_a (ped_v 0)) (fun _ _ _ _ _ => (pgd_n 13 sc.nd)) (fun _ _ _ _ _ => (ptsd_one (ptd_cmp (cmp_eq hr.units) (pod_of_ped (ped_ix (pod_of_ped (ped_v 13)) (pod_of_ped ped_int))) (pod_of_ped (ped_v 2))))) (fun _ _ _ _ _ => (ped_v 13)) (sb := Subf.refl))
  (psds_cons (psd_setCS 5 [("joint", 13)] [.sh, .sh, .sh, .sh, .sh, .sh, .sh, .sh, .sh, .sh, .sh, .sh, .sh, .sh] sc.nd (pid_a (ped_v 0)) (fun _ _ _ _ _ => (pgd_n 13 sc.nd)) (fun _ _ _ _ _ => (ptsd_one (ptd_cmp cmp_le (pod_of_ped (ped_ix (pod_of_ped (ped_v 13)) (pod_of_ped ped_int))) (pod_of_ped (ped_v 2))))) (fun _ _ _ _ _ => (ped_v 13)) (sb := Subf.refl))
  (psds_cons (psd_for [.sh, .sh, .sh, .sh, .sh, .sh, .sh, .sh, .sh, .sh, .sh, .sh, .sh, .sh] (pid_a (ped_v 4)) (pgd_t (pgds_n 6 sc.nd (pgds_n 7 sc.nd (pgds_n 8 sc.nd pgds_nil)))) (psds_one (psd_for [.sh, .sh, .sh, .sh, .sh, .sh, .sh, .sh, .sh, .sh, .sh, .sh, .sh, .sh] (pid_a (ped_v 5)) (pgd_t (pgds_n 9 sc.nd (pgds_n 10 sc.nd (pgds_n 11 sc.nd pgds_nil)))) (psds_one (psd_if (ptd_pw (pwd_and (ptd_cmp (cmp_eq hr.units) (pod_of_ped (ped_v 8)) (pod_of_ped (ped_v 11))) (pwd_and1 (ptd_tru (ped_call0 (ok_lie_alternately T) (hr.mono (by decide)) T.m_lie_alternately T.F_lie_alternately.kp T.b_lie_alternately (pad_v (ped_tup (pvd_cons (ped_v 6) (pvd_cons (ped_v 7) pvd_nil))) (pad_v (ped_tup (pvd_cons (ped_v 9) (pvd_cons (ped_v 10) pvd_nil))) (pad_v (ped_v 3) pad_nil)))))))) (psds_one (psd_ret ped_bl)) psds_nil)))))
  (psds_one (psd_ret ped_bl))))))
theorem sc_all_piles : FnScope ["rows", "columns", "told", "found", "square", "further", "order", "at", "there"] ["rows", "columns"] (defScope s_all_piles) := ⟨rfl, rfl, rfl, by decide +kernel, rfl, by decide +kernel, by decide +kernel⟩
theorem ok_all_piles (T : Txt K mg) : FnOk P w K mg base CX0 3 T.a_all_piles T.d_all_piles ["rows", "columns"] (spD K [.sh, .sh] [] false all_piles_f) := by
  have sc := sc_all_piles
  exact def_ok T.F_all_piles sc [.sh, .sh] [] false [.sh, .sh, .sh, .sh, .sh, .sh, .sh, .sh, .sh] rfl (how_of rfl) (by decide) (.inr (by decide)) (fun h => nomatch h) fun cdv A outer s H E hr =>
  (psds_cons (psd_set 2 sc.nd (ped_call0 (ok_joints T) (hr.mono (by decide)) T.m_joints T.F_joints.kp T.b_joints (pad_v (ped_v 0) (pad_v (ped_v 1) pad_nil))))
  (psds_cons (psd_set 3 sc.nd (ped_of_pfd (pfd_lst (pvd_cons (ped_of_pfd (pfd_lst pvd_nil)) pvd_nil))))
  (psds_cons (psd_for [.sh, .sh, .sh, .sh, .sh, .sh, .sh, .sh, .sh] (pid_r1 (ped_mul (pod_of_ped (ped_v 0)) (pod_of_ped (ped_v 1))) T.z_range) (pgd_n 4 sc.nd) (psds_cons (psd_setO 5 sc.nd (pfd_lst pvd_nil))
  (psds_cons (psd_for [.sh, .sh, .sh, .sh, .sh, .ow, .sh, .sh, .sh] (pid_a (ped_v 3)) (pgd_n 6 sc.nd) (psds_one (psd_for [.sh, .sh, .sh, .sh, .sh, .ow, .sh, .sh, .sh] (pid_r1 (ped_add (pod_of_ped (ped_len (pod_of_ped (ped_v 6)) T.z_len)) (pod_of_ped ped_int)) T.z_range) (pgd_n 7 sc.nd) (psds_cons (psd_set 8 sc.nd (ped_add (pod_of_ped (ped_add (pod_of_ped (ped_cut (pod_of_ped (ped_v 6)) ppd_none (ppd_some (ped_v 7)))) (pod_of_ped (ped_of_pfd (pfd_lst (pvd_cons (ped_v 4) pvd_nil)))))) (pod_of_ped (ped_cut (pod_of_ped (ped_v 6)) (ppd_some (ped_v 7)) ppd_none))))
  (psds_one (psd_if (ptd_tru (ped_call0 (ok_can_lie T) (hr.mono (by decide)) T.m_can_lie T.F_can_lie.kp T.b_can_lie (pad_v (ped_v 2) (pad_v (ped_v 8) (pad_v (ped_v 4) pad_nil))))) (psds_one (psd_do (ped_append 5 (ped_v 8)))) psds_nil))))))
  (psds_one (psd_pre [.sh, .sh, .sh, .sh, .sh, .sh, .sh, .sh, .sh] (psd_set 3 sc.nd (ped_v 5)))))))
  (psds_one (psd_ret (ped_v 3))))))
theorem sc_map_states : FnScope ["told", "order"] ["told"] (defScope s_map_states) := ⟨rfl, rfl, rfl, by decide +kernel, rfl, by decide +kernel, by decide +kernel⟩
theorem ok_map_states (T : Txt K mg) : FnOk P w K mg base CX0 4 T.a_map_states T.d_map_states ["told"] (spD K [.sh] [] false map_states_f) := by
  have sc := sc_map_states
  exact def_ok T.F_map_states sc [.sh] [] false [.sh, .sh] rfl (how_of rfl) (by decide) (.inr (by decide)) (fun h => nomatch h) fun cdv A outer s H E hr =>
  (psds_one (psd_ret (ped_of_pfd (pfd_sortX (hu65 hr) (pod_of_ped (ped_of_pfd (pfd_comp [("order", 1)] [.sh, .sh] sc.nd (pid_a (ped_call0 (ok_all_piles T) (hr.mono (by decide)) T.m_all_piles T.F_all_piles.kp T.b_all_piles (pad_v (ped_ix (pod_of_ped (ped_v 0)) (pod_of_ped ped_int)) (pad_v (ped_ix (pod_of_ped (ped_v 0)) (pod_of_ped ped_int)) pad_nil)))) (fun _ _ _ _ _ => (pgd_n 1 sc.nd)) (fun _ _ _ _ _ => (ptsd_one (ptd_cmp (cmp_eq hr.units) (pod_of_ped (ped_call0 (ok_map_of T) (hr.mono (by decide)) T.m_map_of T.F_map_of.kp T.b_map_of (pad_v (ped_ix (pod_of_ped (ped_v 0)) (pod_of_ped ped_int)) (pad_v (ped_ix (pod_of_ped (ped_v 0)) (pod_of_ped ped_int)) (pad_v (ped_v 1) pad_nil))))) (pod_of_ped (ped_v 0))))) (fun _ _ _ _ _ => (ped_v 1)) (sb := Subf.refl)))) T.z_sorted))))
theorem sc_u_law_mixed : FnScope ["number", "place", "first", "second", "third"] ["number", "place"] (defScope s_u_law_mixed) := ⟨rfl, rfl, rfl, by decide +kernel, rfl, by decide +kernel, by decide +kernel⟩
theorem ok_u_law_mixed (T : Txt K mg) : FnOk P w K mg base CX0 1 T.a_u_law_mixed T.d_u_law_mixed ["number", "place"] (spD K [.sh, .sh] [] false u_law_mixed_f) := by
  have sc := sc_u_law_mixed
  exact def_ok T.F_u_law_mixed sc [.sh, .sh] [] false [.sh, .sh, .sh, .sh, .sh] rfl (how_of rfl) (by decide) (.inr (by decide)) (fun h => nomatch h) fun cdv A outer s H E hr =>
  (psds_cons (psd_set 2 sc.nd (ped_mod (pod_of_ped (ped_int1 (pod_of_ped (ped_add (pod_of_ped (ped_add (pod_of_ped (ped_mul (pod_of_ped (ped_v 0)) (pod_of_ped ped_int))) (pod_of_ped (ped_mul (pod_of_ped (ped_v 1)) (pod_of_ped ped_int))))) (pod_of_ped ped_int))) T.z_int)) (pod_of_ped ped_int)))
  (psds_cons (psd_set 3 sc.nd (ped_mod (pod_of_ped (ped_int1 (pod_of_ped (ped_add (pod_of_ped (ped_add (pod_of_ped (ped_mul (pod_of_ped (ped_v 2)) (pod_of_ped (ped_v 2)))) (pod_of_ped (ped_mul (pod_of_ped ped_int) (pod_of_ped (ped_v 2)))))) (pod_of_ped (ped_v 1)))) T.z_int)) (pod_of_ped ped_int)))
  (psds_cons (psd_set 4 sc.nd (ped_mod (pod_of_ped (ped_int1 (pod_of_ped (ped_add (pod_of_ped (ped_mul (pod_of_ped (ped_v 3)) (pod_of_ped (ped_v 3)))) (pod_of_ped (ped_v 2)))) T.z_int)) (pod_of_ped ped_int)))
  (psds_one (psd_ret (ped_add (pod_of_ped (ped_mul (pod_of_ped (ped_v 3)) (pod_of_ped ped_int))) (pod_of_ped (ped_v 4))))))))
theorem sc_u_law_rest : FnScope ["script", "place", "fills", "number"] ["script", "place", "fills"] (defScope s_u_law_rest) := ⟨rfl, rfl, rfl, by decide +kernel, rfl, by decide +kernel, by decide +kernel⟩
theorem ok_u_law_rest (T : Txt K mg) : FnOk P w K mg base CX0 2 T.a_u_law_rest T.d_u_law_rest ["script", "place", "fills"] (spD K [.sh, .sh, .sh] [] false u_law_rest_f) := by
  have sc := sc_u_law_rest
  exact def_ok T.F_u_law_rest sc [.sh, .sh, .sh] [] false [.sh, .sh, .sh, .sh] rfl (how_of rfl) (by decide) (.inr (by decide)) (fun h => nomatch h) fun cdv A outer s H E hr =>
  (psds_cons (psd_set 3 sc.nd ped_int)
  (psds_cons (psd_if (ptd_cmp cmp_gt (pod_of_ped (ped_len (pod_of_ped (ped_v 0)) T.z_len)) (pod_of_ped ped_int)) (psds_one (psd_set 3 sc.nd (ped_int1 (pod_of_ped (ped_ix (pod_of_ped (ped_v 0)) (pod_of_ped (ped_mod (pod_of_ped (ped_int1 (pod_of_ped (ped_v 1)) T.z_int)) (pod_of_ped (ped_len (pod_of_ped (ped_v 0)) T.z_len)))))) T.z_int))) psds_nil)
  (psds_cons (psd_if (ptd_cmp cmp_lt (pod_of_ped (ped_v 3)) (pod_of_ped ped_int)) (psds_one (psd_set 3 sc.nd (ped_sub (pod_of_ped ped_int) (pod_of_ped (ped_mul (pod_of_ped ped_int) (pod_of_ped (ped_v 3))))))) psds_nil)
  (psds_cons (psd_if (ptd_pw (pwd_and (ptd_cmp (cmp_eq hr.units) (pod_of_ped (ped_v 2)) (pod_of_ped ped_int)) (pwd_and (ptd_cmp cmp_lt (pod_of_ped (ped_v 1)) (pod_of_ped (ped_len (pod_of_ped (ped_v 0)) T.z_len))) (pwd_and1 (ptd_cmp cmp_ge (pod_of_ped (ped_v 3)) (pod_of_ped (ped_pow (pod_of_ped ped_int) (pod_of_ped ped_int)))))))) (psds_one (psd_ret (ped_sub (pod_of_ped (ped_v 3)) (pod_of_ped (ped_pow (pod_of_ped ped_int) (pod_of_ped ped_int)))))) psds_nil)
  (psds_one (psd_ret (ped_call0 (ok_u_law_mixed T) (hr.mono (by decide)) T.m_u_law_mixed T.F_u_law_mixed.kp T.b_u_law_mixed (pad_v (ped_add (pod_of_ped (ped_v 3)) (pod_of_ped (ped_mul (pod_of_ped (ped_v 2)) (pod_of_ped ped_int)))) (pad_v (ped_v 1) pad_nil)))))))))
theorem sc_u_law_pool : FnScope ["script"] ["script"] (defScope s_u_law_pool) := ⟨rfl, rfl, rfl, by decide +kernel, rfl, by decide +kernel, by decide +kernel⟩
theorem ok_u_law_pool (T : Txt K mg) : FnOk P w K mg base CX0 3 T.a_u_law_pool T.d_u_law_pool ["script"] (spD K [.sh] [] true u_law_pool_f) := by
  have sc := sc_u_law_pool
  exact def_ok T.F_u_law_pool sc [.sh] [] true [.sh] rfl (how_of rfl) (by decide) (.inl rfl) (fun _ => nn_ret) fun cdv A outer s H E hr =>
  (psds_one (psd_retF (pfd_lst (pvd_cons (ped_v 0) (pvd_cons ped_int (pvd_cons (ped_call0 (ok_u_law_rest T) (hr.mono (by decide)) T.m_u_law_rest T.F_u_law_rest.kp T.b_u_law_rest (pad_v (ped_v 0) (pad_v ped_int (pad_v ped_int pad_nil)))) (pvd_cons ped_int pvd_nil)))))))
theorem sc_u_law_draw : FnScope ["pool", "limit", "value"] ["pool", "limit"] (defScope s_u_law_draw) := ⟨rfl, rfl, rfl, by decide +kernel, rfl, by decide +kernel, by decide +kernel⟩
theorem ok_u_law_draw (T : Txt K mg) : FnOk P w K mg base CX0 3 T.a_u_law_draw T.d_u_law_draw ["pool", "limit"] (spD K [.ow, .sh] [0] false u_law_draw_f) := by
  have sc := sc_u_law_draw
  exact def_ok T.F_u_law_draw sc [.ow, .sh] [0] false [.ow, .sh, .sh] rfl (how_of rfl) (by decide) (.inr (by decide)) (fun h => nomatch h) fun cdv A outer s H E hr =>
  (psds_cons (psd_if (ptd_cmp cmp_le (pod_of_ped (ped_ix (pod_v 0) (pod_of_ped ped_int))) (pod_of_ped ped_int)) (psds_cons (psd_setIx 0 (ped_add (pod_of_ped (ped_ix (pod_v 0) (pod_of_ped ped_int))) (pod_of_ped ped_int)) ped_int)
  (psds_one (psd_setIx 0 (ped_call0 (ok_u_law_rest T) (hr.mono (by decide)) T.m_u_law_rest T.F_u_law_rest.kp T.b_u_law_rest (pad_v (ped_ix (pod_v 0) (pod_of_ped ped_int)) (pad_v (ped_ix (pod_v 0) (pod_of_ped ped_int)) (pad_v (ped_ix (pod_v 0) (pod_of_ped ped_int)) pad_nil)))) ped_int))) psds_nil)
  (psds_cons (psd_set 2 sc.nd (ped_mod (pod_of_ped (ped_int1 (pod_of_ped (ped_ix (pod_v 0) (pod_of_ped ped_int))) T.z_int)) (pod_of_ped (ped_v 1))))
  (psds_cons (psd_setIx 0 (ped_fdiv (pod_of_ped (ped_int1 (pod_of_ped (ped_ix (pod_v 0) (pod_of_ped ped_int))) T.z_int)) (pod_of_ped (ped_v 1))) ped_int)
  (psds_one (psd_ret (ped_v 2))))))
theorem sc_u_law_pick : FnScope ["pool", "options"] ["pool", "options"] (defScope s_u_law_pick) := ⟨rfl, rfl, rfl, by decide +kernel, rfl, by decide +kernel, by decide +kernel⟩
theorem ok_u_law_pick (T : Txt K mg) : FnOk P w K mg base CX0 4 T.a_u_law_pick T.d_u_law_pick ["pool", "options"] (spD K [.ow, .sh] [0] false u_law_pick_f) := by
  have sc := sc_u_law_pick
  exact def_ok T.F_u_law_pick sc [.ow, .sh] [0] false [.ow, .sh] rfl (how_of rfl) (by decide) (.inr (by decide)) (fun h => nomatch h) fun cdv A outer s H E hr =>
  (psds_one (psd_ret (ped_ix (pod_of_ped (ped_v 1)) (pod_of_ped (ped_call1 0 0 (ok_u_law_draw T) (hr.mono (by decide)) T.m_u_law_draw T.F_u_law_draw.kp T.b_u_law_draw (pad_w 0 (pad_v (ped_len (pod_of_ped (ped_v 1)) T.z_len) pad_nil)))))))
theorem sc_u_law_next : FnScope ["pool"] ["pool"] (defScope s_u_law_next) := ⟨rfl, rfl, rfl, by decide +kernel, rfl, by decide +kernel, by decide +kernel⟩
theorem ok_u_law_next (T : Txt K mg) : FnOk P w K mg base CX0 3 T.a_u_law_next T.d_u_law_next ["pool"] (spD K [.ow] [0] false u_law_next_f) := by
  have sc := sc_u_law_next
  exact def_ok T.F_u_law_next sc [.ow] [0] false [.ow] rfl (how_of rfl) (by decide) (.inr (by decide)) (fun h => nomatch h) fun cdv A outer s H E hr =>
  (psds_cons (psd_setIx 0 (ped_add (pod_of_ped (ped_ix (pod_v 0) (pod_of_ped ped_int))) (pod_of_ped ped_int)) ped_int)
  (psds_cons (psd_setIx 0 (ped_call0 (ok_u_law_rest T) (hr.mono (by decide)) T.m_u_law_rest T.F_u_law_rest.kp T.b_u_law_rest (pad_v (ped_ix (pod_v 0) (pod_of_ped ped_int)) (pad_v (ped_ix (pod_v 0) (pod_of_ped ped_int)) (pad_v ped_int pad_nil)))) ped_int)
  (psds_one (psd_setIx 0 ped_int ped_int))))
theorem sc_u_law_letters : FnScope ["pool", "many", "text", "k"] ["pool", "many"] (defScope s_u_law_letters) := ⟨rfl, rfl, rfl, by decide +kernel, rfl, by decide +kernel, by decide +kernel⟩
theorem ok_u_law_letters (T : Txt K mg) : FnOk P w K mg base CX0 5 T.a_u_law_letters T.d_u_law_letters ["pool", "many"] (spD K [.ow, .sh] [0] false u_law_letters_f) := by
  have sc := sc_u_law_letters
  exact def_ok T.F_u_law_letters sc [.ow, .sh] [0] false [.ow, .sh, .sh, .sh] rfl (how_of rfl) (by decide) (.inr (by decide)) (fun h => nomatch h) fun cdv A outer s H E hr =>
  (psds_cons (psd_set 2 sc.nd (ped_str []))
  (psds_cons (psd_for [.ow, .sh, .sh, .sh] (pid_r1 (ped_v 1) T.z_range) (pgd_n 3 sc.nd) (psds_one (psd_set 2 sc.nd (ped_add (pod_of_ped (ped_v 2)) (pod_of_ped (ped_call1 0 0 (ok_u_law_pick T) (hr.mono (by decide)) T.m_u_law_pick T.F_u_law_pick.kp T.b_u_law_pick (pad_w 0 (pad_v (ped_of_pfd (pfd_lst (pvd_cons (ped_str [109]) (pvd_cons (ped_str [118]) pvd_nil)))) pad_nil))))))))
  (psds_one (psd_ret (ped_v 2)))))
theorem sc_u_law_map : FnScope ["pool", "rows", "columns", "across", "down", "row"] ["pool", "rows", "columns"] (defScope s_u_law_map) := ⟨rfl, rfl, rfl, by decide +kernel, rfl, by decide +kernel, by decide +kernel⟩
theorem ok_u_law_map (T : Txt K mg) : FnOk P w K mg base CX0 6 T.a_u_law_map T.d_u_law_map ["pool", "rows", "columns"] (spD K [.ow, .sh, .sh] [0] false u_law_map_f) := by
  have sc := sc_u_law_map
  exact def_ok T.F_u_law_map sc [.ow, .sh, .sh] [0] false [.ow, .sh, .sh, .sh, .sh, .sh] rfl (how_of rfl) (by decide) (.inr (by decide)) (fun h => nomatch h) fun cdv A outer s H E hr =>
  (psds_cons (psd_setCS 3 [("row", 5)] [.ow, .sh, .sh, .sh, .sh, .sh] sc.nd (pid_r1 (ped_v 1) T.z_range) (fun _ _ _ _ _ => (pgd_n 5 sc.nd)) (fun _ _ _ _ _ => (ptsd_nil)) (fun _ _ _ _ _ => (ped_call1 0 0 (ok_u_law_letters T) (hr.mono (by decide)) T.m_u_law_letters T.F_u_law_letters.kp T.b_u_law_letters (pad_w 0 (pad_v (ped_sub (pod_of_ped (ped_v 2)) (pod_of_ped ped_int)) pad_nil)))) (sb := Subf.refl))
  (psds_cons (psd_do (ped_call1 0 0 (ok_u_law_next T) (hr.mono (by decide)) T.m_u_law_next T.F_u_law_next.kp T.b_u_law_next (pad_w 0 pad_nil)))
  (psds_cons (psd_setCS 4 [("row", 5)] [.ow, .sh, .sh, .sh, .sh, .sh] sc.nd (pid_r1 (ped_sub (pod_of_ped (ped_v 1)) (pod_of_ped ped_int)) T.z_range) (fun _ _ _ _ _ => (pgd_n 5 sc.nd)) (fun _ _ _ _ _ => (ptsd_nil)) (fun _ _ _ _ _ => (ped_call1 0 0 (ok_u_law_letters T) (hr.mono (by decide)) T.m_u_law_letters T.F_u_law_letters.kp T.b_u_law_letters (pad_w 0 (pad_v (ped_v 2) pad_nil)))) (sb := Subf.refl))
  (psds_one (psd_ret (ped_tup (pvd_cons (ped_v 1) (pvd_cons (ped_v 2) (pvd_cons (ped_v 3) (pvd_cons (ped_v 4) pvd_nil))))))))))
theorem sc_u_law_turned : FnScope ["told", "rows", "columns", "across", "down", "new_across", "new_down", "column", "text", "row"] ["told"] (defScope s_u_law_turned) := ⟨rfl, rfl, rfl, by decide +kernel, rfl, by decide +kernel, by decide +kernel⟩
theorem ok_u_law_turned (T : Txt K mg) : FnOk P w K mg base CX0 1 T.a_u_law_turned T.d_u_law_turned ["told"] (spD K [.sh] [] false u_law_turned_f) := by
  have sc := sc_u_law_turned
  exact def_ok T.F_u_law_turned sc [.sh] [] false [.sh, .sh, .sh, .sh, .sh, .sh, .sh, .sh, .sh, .sh] rfl (how_of rfl) (by decide) (.inr (by decide)) (fun h => nomatch h) fun cdv A outer s H E hr =>
  (psds_cons (psd_asg (ped_v 0) (pgd_t (pgds_n 1 sc.nd (pgds_n 2 sc.nd (pgds_n 3 sc.nd (pgds_n 4 sc.nd pgds_nil))))))
  (psds_cons (psd_setO 5 sc.nd (pfd_lst pvd_nil))
  (psds_cons (psd_setO 6 sc.nd (pfd_lst pvd_nil))
  (psds_cons (psd_for [.sh, .sh, .sh, .sh, .sh, .ow, .ow, .sh, .sh, .sh] (pid_r1 (ped_v 2) T.z_range) (pgd_n 7 sc.nd) (psds_cons (psd_set 8 sc.nd (ped_str []))
  (psds_cons (psd_for [.sh, .sh, .sh, .sh, .sh, .ow, .ow, .sh, .sh, .sh] (pid_r1 (ped_sub (pod_of_ped (ped_v 1)) (pod_of_ped ped_int)) T.z_range) (pgd_n 9 sc.nd) (psds_one (psd_set 8 sc.nd (ped_add (pod_of_ped (ped_v 8)) (pod_of_ped (ped_ix (pod_of_ped (ped_ix (pod_of_ped (ped_v 4)) (pod_of_ped (ped_v 9)))) (pod_of_ped (ped_v 7))))))))
  (psds_cons (psd_do (ped_append 5 (ped_v 8)))
  (psds_one (psd_if (ptd_cmp cmp_lt (pod_of_ped (ped_add (pod_of_ped (ped_v 7)) (pod_of_ped ped_int))) (pod_of_ped (ped_v 2))) (psds_cons (psd_set 8 sc.nd (ped_str []))
  (psds_cons (psd_for [.sh, .sh, .sh, .sh, .sh, .ow, .ow, .sh, .sh, .sh] (pid_r1 (ped_v 1) T.z_range) (pgd_n 9 sc.nd) (psds_one (psd_set 8 sc.nd (ped_add (pod_of_ped (ped_v 8)) (pod_of_ped (ped_ix (pod_of_ped (ped_ix (pod_of_ped (ped_v 3)) (pod_of_ped (ped_v 9)))) (pod_of_ped (ped_v 7))))))))
  (psds_one (psd_do (ped_append 6 (ped_v 8)))))) psds_nil))))))
  (psds_one (psd_pre [.sh, .sh, .sh, .sh, .sh, .sh, .sh, .sh, .sh, .sh] (psd_ret (ped_tup (pvd_cons (ped_v 2) (pvd_cons (ped_v 1) (pvd_cons (ped_v 5) (pvd_cons (ped_v 6) pvd_nil))))))))))))
theorem sc_u_law_exchanged : FnScope ["text", "found", "letter"] ["text"] (defScope s_u_law_exchanged) := ⟨rfl, rfl, rfl, by decide +kernel, rfl, by decide +kernel, by decide +kernel⟩
theorem ok_u_law_exchanged (T : Txt K mg) : FnOk P w K mg base CX0 1 T.a_u_law_exchanged T.d_u_law_exchanged ["text"] (spD K [.sh] [] false u_law_exchanged_f) := by
  have sc := sc_u_law_exchanged
  exact def_ok T.F_u_law_exchanged sc [.sh] [] false [.sh, .sh, .sh] rfl (how_of rfl) (by decide) (.inr (by decide)) (fun h => nomatch h) fun cdv A outer s H E hr =>
  (psds_cons (psd_set 1 sc.nd (ped_str []))
  (psds_cons (psd_for [.sh, .sh, .sh] (pid_a (ped_v 0)) (pgd_n 2 sc.nd) (psds_one (psd_set 1 sc.nd (ped_add (pod_of_ped (ped_v 1)) (pod_of_ped (ped_if (ptd_cmp (cmp_eq hr.units) (pod_of_ped (ped_v 2)) (pod_of_ped (ped_str [109]))) (ped_str [118]) (ped_str [109])))))))
  (psds_one (psd_ret (ped_v 1)))))
theorem sc_law : FnScope ["script", "pool", "rows", "columns", "told", "left", "order", "due", "other", "corner", "upside", "k", "text"] ["script"] (defScope s_law) := ⟨rfl, rfl, rfl, by decide +kernel, rfl, by decide +kernel, by decide +kernel⟩
theorem ok_law (T : Txt K mg) : FnOk P w K mg base CX0 7 T.a_law T.d_law ["script"] (spD K [.sh] [] false law_f) := by
  have sc := sc_law
  exact def_ok T.F_law sc [.sh] [] false [.sh, .sh, .sh, .sh, .sh, .sh, .sh, .sh, .sh, .sh, .sh, .sh, .sh] rfl (how_of rfl) (by decide) (.inr (by decide)) (fun h => nomatch h) fun cdv A outer s H E hr =>
  (psds_cons (psd_setO 1 sc.nd (pfd_call0 (ok_u_law_pool T) (hr.mono (by decide)) T.m_u_law_pool T.F_u_law_pool.kp T.b_u_law_pool (pad_v (ped_v 0) pad_nil)))
  (psds_cons (psd_asg (ped_call1 1 0 (ok_u_law_pick T) (hr.mono (by decide)) T.m_u_law_pick T.F_u_law_pick.kp T.b_u_law_pick (pad_w 1 (pad_v (ped_of_pfd (pfd_lst (pvd_cons (ped_tup (pvd_cons ped_int (pvd_cons ped_int pvd_nil))) (pvd_cons (ped_tup (pvd_cons ped_int (pvd_cons ped_int pvd_nil))) (pvd_cons (ped_tup (pvd_cons ped_int (pvd_cons ped_int pvd_nil))) (pvd_cons (ped_tup (pvd_cons ped_int (pvd_cons ped_int pvd_nil))) (pvd_cons (ped_tup (pvd_cons ped_int (pvd_cons ped_int pvd_nil))) (pvd_cons (ped_tup (pvd_cons ped_int (pvd_cons ped_int pvd_nil))) pvd_nil)))))))) pad_nil))) (pgd_t (pgds_n 2 sc.nd (pgds_n 3 sc.nd pgds_nil))))
  (psds_cons (psd_set 4 sc.nd (ped_call1 1 0 (ok_u_law_map T) (hr.mono (by decide)) T.m_u_law_map T.F_u_law_map.kp T.b_u_law_map (pad_w 1 (pad_v (ped_v 2) (pad_v (ped_v 3) pad_nil)))))
  (psds_cons (psd_setO 5 sc.nd (pfd_listR1 (ped_mul (pod_of_ped (ped_v 2)) (pod_of_ped (ped_v 3))) T.z_list T.z_range))
  (psds_cons (psd_if (ptd_cmp (cmp_eq hr.units) (pod_of_ped (ped_call1 1 0 (ok_u_law_draw T) (hr.mono (by decide)) T.m_u_law_draw T.F_u_law_draw.kp T.b_u_law_draw (pad_w 1 (pad_v ped_int pad_nil)))) (pod_of_ped ped_int)) (psds_cons (psd_setCS 6 [("k", 11)] [.sh, .ow, .sh, .sh, .sh, .ow, .sh, .sh, .sh, .sh, .sh, .sh, .sh] sc.nd (pid_r1 (ped_mul (pod_of_ped (ped_v 2)) (pod_of_ped (ped_v 3))) T.z_range) (fun _ _ _ _ _ => (pgd_n 11 sc.nd)) (fun _ _ _ _ _ => (ptsd_nil)) (fun _ _ _ _ _ => (ped_pop1 5 (ped_call1 1 0 (ok_u_law_draw T) (hr.mono (by decide)) T.m_u_law_draw T.F_u_law_draw.kp T.b_u_law_draw (pad_w 1 (pad_v (ped_len (pod_v 5) T.z_len) pad_nil))))) (sb := Subf.refl))
  (psds_one (psd_set 4 sc.nd (ped_call0 (ok_map_of T) (hr.mono (by decide)) T.m_map_of T.F_map_of.kp T.b_map_of (pad_v (ped_v 2) (pad_v (ped_v 3) (pad_v (ped_v 6) pad_nil))))))) psds_nil)
  (psds_cons (psd_set 7 sc.nd (ped_len (pod_of_ped (ped_call0 (ok_map_states T) (hr.mono (by decide)) T.m_map_states T.F_map_states.kp T.b_map_states (pad_v (ped_v 4) pad_nil))) T.z_len))
  (psds_cons (psd_if (ptd_cmp (cmp_ne hr.units) (pod_of_ped (ped_len (pod_of_ped (ped_call0 (ok_map_states T) (hr.mono (by decide)) T.m_map_states T.F_map_states.kp T.b_map_states (pad_v (ped_call0 (ok_u_law_turned T) (hr.mono (by decide)) T.m_u_law_turned T.F_u_law_turned.kp T.b_u_law_turned (pad_v (ped_v 4) pad_nil)) pad_nil))) T.z_len)) (pod_of_ped (ped_v 7))) (psds_one (psd_ret ped_bl)) psds_nil)
  (psds_cons (psd_set 8 sc.nd (ped_tup (pvd_cons (ped_v 2) (pvd_cons (ped_v 3) (pvd_cons (ped_of_pfd (pfd_comp [("text", 12)] [.sh, .ow, .sh, .sh, .sh, .ow, .sh, .sh, .sh, .sh, .sh, .sh, .sh] sc.nd (pid_a (ped_ix (pod_of_ped (ped_v 4)) (pod_of_ped ped_int))) (fun _ _ _ _ _ => (pgd_n 12 sc.nd)) (fun _ _ _ _ _ => (ptsd_nil)) (fun _ _ _ _ _ => (ped_call0 (ok_u_law_exchanged T) (hr.mono (by decide)) T.m_u_law_exchanged T.F_u_law_exchanged.kp T.b_u_law_exchanged (pad_v (ped_v 12) pad_nil))) (sb := Subf.refl))) (pvd_cons (ped_of_pfd (pfd_comp [("text", 12)] [.sh, .ow, .sh, .sh, .sh, .ow, .sh, .sh, .sh, .sh, .sh, .sh, .sh] sc.nd (pid_a (ped_ix (pod_of_ped (ped_v 4)) (pod_of_ped ped_int))) (fun _ _ _ _ _ => (pgd_n 12 sc.nd)) (fun _ _ _ _ _ => (ptsd_nil)) (fun _ _ _ _ _ => (ped_call0 (ok_u_law_exchanged T) (hr.mono (by decide)) T.m_u_law_exchanged T.F_u_law_exchanged.kp T.b_u_law_exchanged (pad_v (ped_v 12) pad_nil))) (sb := Subf.refl))) pvd_nil))))))
  (psds_cons (psd_if (ptd_cmp (cmp_ne hr.units) (pod_of_ped (ped_len (pod_of_ped (ped_call0 (ok_map_states T) (hr.mono (by decide)) T.m_map_states T.F_map_states.kp T.b_map_states (pad_v (ped_v 8) pad_nil))) T.z_len)) (pod_of_ped (ped_v 7))) (psds_one (psd_ret ped_bl)) psds_nil)
  (psds_cons (psd_for [.sh, .ow, .sh, .sh, .sh, .ow, .sh, .sh, .sh, .sh, .sh, .sh, .sh] (pid_a (ped_call0 (ok_map_states T) (hr.mono (by decide)) T.m_map_states T.F_map_states.kp T.b_map_states (pad_v (ped_v 4) pad_nil))) (pgd_n 6 sc.nd) (psds_one (psd_if (ptd_cmp (cmp_notIn (hu65 hr)) (pod_of_ped (ped_rev (pod_of_ped (ped_v 6)))) (pod_of_ped (ped_call0 (ok_map_states T) (hr.mono (by decide)) T.m_map_states T.F_map_states.kp T.b_map_states (pad_v (ped_v 8) pad_nil)))) (psds_one (psd_ret ped_bl)) psds_nil)))
  (psds_cons (psd_set 9 sc.nd (ped_tup (pvd_cons (ped_v 2) (pvd_cons (ped_v 3) (pvd_cons (ped_of_pfd (pfd_comp [("text", 12)] [.sh, .ow, .sh, .sh, .sh, .ow, .sh, .sh, .sh, .sh, .sh, .sh, .sh] sc.nd (pid_a (ped_ix (pod_of_ped (ped_v 4)) (pod_of_ped ped_int))) (fun _ _ _ _ _ => (pgd_n 12 sc.nd)) (fun _ _ _ _ _ => (ptsd_nil)) (fun _ _ _ _ _ => (ped_rev (pod_of_ped (ped_v 12)))) (sb := Subf.refl))) (pvd_cons (ped_of_pfd (pfd_comp [("text", 12)] [.sh, .ow, .sh, .sh, .sh, .ow, .sh, .sh, .sh, .sh, .sh, .sh, .sh] sc.nd (pid_a (ped_ix (pod_of_ped (ped_v 4)) (pod_of_ped ped_int))) (fun _ _ _ _ _ => (pgd_n 12 sc.nd)) (fun _ _ _ _ _ => (ptsd_nil)) (fun _ _ _ _ _ => (ped_rev (pod_of_ped (ped_v 12)))) (sb := Subf.refl))) pvd_nil))))))
  (psds_cons (psd_set 10 sc.nd (ped_tup (pvd_cons (ped_v 2) (pvd_cons (ped_v 3) (pvd_cons (ped_rev (pod_of_ped (ped_ix (pod_of_ped (ped_v 4)) (pod_of_ped ped_int)))) (pvd_cons (ped_rev (pod_of_ped (ped_ix (pod_of_ped (ped_v 4)) (pod_of_ped ped_int)))) pvd_nil))))))
  (psds_one (psd_ret (ped_and (ped_cmp (cmp_eq hr.units) (pod_of_ped (ped_len (pod_of_ped (ped_call0 (ok_map_states T) (hr.mono (by decide)) T.m_map_states T.F_map_states.kp T.b_map_states (pad_v (ped_v 9) pad_nil))) T.z_len)) (pod_of_ped (ped_v 7))) (ped_one (ped_cmp (cmp_eq hr.units) (pod_of_ped (ped_len (pod_of_ped (ped_call0 (ok_map_states T) (hr.mono (by decide)) T.m_map_states T.F_map_states.kp T.b_map_states (pad_v (ped_v 10) pad_nil))) T.z_len)) (pod_of_ped (ped_v 7)))))))))))))))))))
end
theorem all_mk {l : PySem.W.OpenLaw} {w : World} {K : PySem.W.Frag} {h : Heap} {mg : Str → Option Value} {fa : Addr} (X : K.In h) (G : h.Ns mainGlobals mg) (hfa : mg "law" = some (.ref fa))
    {f0 : Addr} {od0 an0 : Option Addr} {sl0 : Array (Option Value)} {oc0 kV0 dc0 pm0 cd0 ct0 : Value}
    (a0 : PySem.W.nsIn K mainGlobals "letter_at" = some (some (.ref f0))) (l0 : K.lookup f0 = some ⟨oc0, od0, .func (PySem.W.fnOf "letter_at" "letter_at" (defArgs s_letter_at) (defBody s_letter_at) (defScope s_letter_at) .none kV0 dc0 pm0 an0 cd0 ct0), sl0⟩) (c0 : PySem.W.codeIn K cd0 "letter_at" = true) (k0 : PySem.W.keepIn K (.ref f0) = true)
    {f1 : Addr} {od1 an1 : Option Addr} {sl1 : Array (Option Value)} {oc1 kV1 dc1 pm1 cd1 ct1 : Value}
    (a1 : PySem.W.nsIn K mainGlobals "map_of" = some (some (.ref f1))) (l1 : K.lookup f1 = some ⟨oc1, od1, .func (PySem.W.fnOf "map_of" "map_of" (defArgs s_map_of) (defBody s_map_of) (defScope s_map_of) .none kV1 dc1 pm1 an1 cd1 ct1), sl1⟩) (c1 : PySem.W.codeIn K cd1 "map_of" = true) (k1 : PySem.W.keepIn K (.ref f1) = true)
    {f2 : Addr} {od2 an2 : Option Addr} {sl2 : Array (Option Value)} {oc2 kV2 dc2 pm2 cd2 ct2 : Value}
    (a2 : PySem.W.nsIn K mainGlobals "joints" = some (some (.ref f2))) (l2 : K.lookup f2 = some ⟨oc2, od2, .func (PySem.W.fnOf "joints" "joints" (defArgs s_joints) (defBody s_joints) (defScope s_joints) .none kV2 dc2 pm2 an2 cd2 ct2), sl2⟩) (c2 : PySem.W.codeIn K cd2 "joints" = true) (k2 : PySem.W.keepIn K (.ref f2) = true)
    {f3 : Addr} {od3 an3 : Option Addr} {sl3 : Array (Option Value)} {oc3 kV3 dc3 pm3 cd3 ct3 : Value}
    (a3 : PySem.W.nsIn K mainGlobals "lie_alternately" = some (some (.ref f3))) (l3 : K.lookup f3 = some ⟨oc3, od3, .func (PySem.W.fnOf "lie_alternately" "lie_alternately" (defArgs s_lie_alternately) (defBody s_lie_alternately) (defScope s_lie_alternately) .none kV3 dc3 pm3 an3 cd3 ct3), sl3⟩) (c3 : PySem.W.codeIn K cd3 "lie_alternately" = true) (k3 : PySem.W.keepIn K (.ref f3) = true)
    {f4 : Addr} {od4 an4 : Option Addr} {sl4 : Array (Option Value)} {oc4 kV4 dc4 pm4 cd4 ct4 : Value}
    (a4 : PySem.W.nsIn K mainGlobals "can_lie" = some (some (.ref f4))) (l4 : K.lookup f4 = some ⟨oc4, od4, .func (PySem.W.fnOf "can_lie" "can_lie" (defArgs s_can_lie) (defBody s_can_lie) (defScope s_can_lie) .none kV4 dc4 pm4 an4 cd4 ct4), sl4⟩) (c4 : PySem.W.codeIn K cd4 "can_lie" = true) (k4 : PySem.W.keepIn K (.ref f4) = true)
    {f5 : Addr} {od5 an5 : Option Addr} {sl5 : Array (Option Value)} {oc5 kV5 dc5 pm5 cd5 ct5 : Value}
    (a5 : PySem.W.nsIn K mainGlobals "all_piles" = some (some (.ref f5))) (l5 : K.lookup f5 = some ⟨oc5, od5, .func (PySem.W.fnOf "all_piles" "all_piles" (defArgs s_all_piles) (defBody s_all_piles) (defScope s_all_piles) .none kV5 dc5 pm5 an5 cd5 ct5), sl5⟩) (c5 : PySem.W.codeIn K cd5 "all_piles" = true) (k5 : PySem.W.keepIn K (.ref f5) = true)
    {f6 : Addr} {od6 an6 : Option Addr} {sl6 : Array (Option Value)} {oc6 kV6 dc6 pm6 cd6 ct6 : Value}
    (a6 : PySem.W.nsIn K mainGlobals "map_states" = some (some (.ref f6))) (l6 : K.lookup f6 = some ⟨oc6, od6, .func (PySem.W.fnOf "map_states" "map_states" (defArgs s_map_states) (defBody s_map_states) (defScope s_map_states) .none kV6 dc6 pm6 an6 cd6 ct6), sl6⟩) (c6 : PySem.W.codeIn K cd6 "map_states" = true) (k6 : PySem.W.keepIn K (.ref f6) = true)
    {f7 : Addr} {od7 an7 : Option Addr} {sl7 : Array (Option Value)} {oc7 kV7 dc7 pm7 cd7 ct7 : Value}
    (a7 : PySem.W.nsIn K mainGlobals "_law_mixed" = some (some (.ref f7))) (l7 : K.lookup f7 = some ⟨oc7, od7, .func (PySem.W.fnOf "_law_mixed" "_law_mixed" (defArgs s_u_law_mixed) (defBody s_u_law_mixed) (defScope s_u_law_mixed) .none kV7 dc7 pm7 an7 cd7 ct7), sl7⟩) (c7 : PySem.W.codeIn K cd7 "_law_mixed" = true) (k7 : PySem.W.keepIn K (.ref f7) = true)
    {f8 : Addr} {od8 an8 : Option Addr} {sl8 : Array (Option Value)} {oc8 kV8 dc8 pm8 cd8 ct8 : Value}
    (a8 : PySem.W.nsIn K mainGlobals "_law_rest" = some (some (.ref f8))) (l8 : K.lookup f8 = some ⟨oc8, od8, .func (PySem.W.fnOf "_law_rest" "_law_rest" (defArgs s_u_law_rest) (defBody s_u_law_rest) (defScope s_u_law_rest) .none kV8 dc8 pm8 an8 cd8 ct8), sl8⟩) (c8 : PySem.W.codeIn K cd8 "_law_rest" = true) (k8 : PySem.W.keepIn K (.ref f8) = true)
    {f9 : Addr} {od9 an9 : Option Addr} {sl9 : Array (Option Value)} {oc9 kV9 dc9 pm9 cd9 ct9 : Value}
    (a9 : PySem.W.nsIn K mainGlobals "_law_pool" = some (some (.ref f9))) (l9 : K.lookup f9 = some ⟨oc9, od9, .func (PySem.W.fnOf "_law_pool" "_law_pool" (defArgs s_u_law_pool) (defBody s_u_law_pool) (defScope s_u_law_pool) .none kV9 dc9 pm9 an9 cd9 ct9), sl9⟩) (c9 : PySem.W.codeIn K cd9 "_law_pool" = true) (k9 : PySem.W.keepIn K (.ref f9) = true)
    {f10 : Addr} {od10 an10 : Option Addr} {sl10 : Array (Option Value)} {oc10 kV10 dc10 pm10 cd10 ct10 : Value}
    (a10 : PySem.W.nsIn K mainGlobals "_law_draw" = some (some (.ref f10))) (l10 : K.lookup f10 = some ⟨oc10, od10, .func (PySem.W.fnOf "_law_draw" "_law_draw" (defArgs s_u_law_draw) (defBody s_u_law_draw) (defScope s_u_law_draw) .none kV10 dc10 pm10 an10 cd10 ct10), sl10⟩) (c10 : PySem.W.codeIn K cd10 "_law_draw" = true) (k10 : PySem.W.keepIn K (.ref f10) = true)
    {f11 : Addr} {od11 an11 : Option Addr} {sl11 : Array (Option Value)} {oc11 kV11 dc11 pm11 cd11 ct11 : Value}
    (a11 : PySem.W.nsIn K mainGlobals "_law_pick" = some (some (.ref f11))) (l11 : K.lookup f11 = some ⟨oc11, od11, .func (PySem.W.fnOf "_law_pick" "_law_pick" (defArgs s_u_law_pick) (defBody s_u_law_pick) (defScope s_u_law_pick) .none kV11 dc11 pm11 an11 cd11 ct11), sl11⟩) (c11 : PySem.W.codeIn K cd11 "_law_pick" = true) (k11 : PySem.W.keepIn K (.ref f11) = true)
    {f12 : Addr} {od12 an12 : Option Addr} {sl12 : Array (Option Value)} {oc12 kV12 dc12 pm12 cd12 ct12 : Value}
    (a12 : PySem.W.nsIn K mainGlobals "_law_next" = some (some (.ref f12))) (l12 : K.lookup f12 = some ⟨oc12, od12, .func (PySem.W.fnOf "_law_next" "_law_next" (defArgs s_u_law_next) (defBody s_u_law_next) (defScope s_u_law_next) .none kV12 dc12 pm12 an12 cd12 ct12), sl12⟩) (c12 : PySem.W.codeIn K cd12 "_law_next" = true) (k12 : PySem.W.keepIn K (.ref f12) = true)
    {f13 : Addr} {od13 an13 : Option Addr} {sl13 : Array (Option Value)} {oc13 kV13 dc13 pm13 cd13 ct13 : Value}
    (a13 : PySem.W.nsIn K mainGlobals "_law_letters" = some (some (.ref f13))) (l13 : K.lookup f13 = some ⟨oc13, od13, .func (PySem.W.fnOf "_law_letters" "_law_letters" (defArgs s_u_law_letters) (defBody s_u_law_letters) (defScope s_u_law_letters) .none kV13 dc13 pm13 an13 cd13 ct13), sl13⟩) (c13 : PySem.W.codeIn K cd13 "_law_letters" = true) (k13 : PySem.W.keepIn K (.ref f13) = true)
    {f14 : Addr} {od14 an14 : Option Addr} {sl14 : Array (Option Value)} {oc14 kV14 dc14 pm14 cd14 ct14 : Value}
    (a14 : PySem.W.nsIn K mainGlobals "_law_map" = some (some (.ref f14))) (l14 : K.lookup f14 = some ⟨oc14, od14, .func (PySem.W.fnOf "_law_map" "_law_map" (defArgs s_u_law_map) (defBody s_u_law_map) (defScope s_u_law_map) .none kV14 dc14 pm14 an14 cd14 ct14), sl14⟩) (c14 : PySem.W.codeIn K cd14 "_law_map" = true) (k14 : PySem.W.keepIn K (.ref f14) = true)
    {f15 : Addr} {od15 an15 : Option Addr} {sl15 : Array (Option Value)} {oc15 kV15 dc15 pm15 cd15 ct15 : Value}
    (a15 : PySem.W.nsIn K mainGlobals "_law_turned" = some (some (.ref f15))) (l15 : K.lookup f15 = some ⟨oc15, od15, .func (PySem.W.fnOf "_law_turned" "_law_turned" (defArgs s_u_law_turned) (defBody s_u_law_turned) (defScope s_u_law_turned) .none kV15 dc15 pm15 an15 cd15 ct15), sl15⟩) (c15 : PySem.W.codeIn K cd15 "_law_turned" = true) (k15 : PySem.W.keepIn K (.ref f15) = true)
    {f16 : Addr} {od16 an16 : Option Addr} {sl16 : Array (Option Value)} {oc16 kV16 dc16 pm16 cd16 ct16 : Value}
    (a16 : PySem.W.nsIn K mainGlobals "_law_exchanged" = some (some (.ref f16))) (l16 : K.lookup f16 = some ⟨oc16, od16, .func (PySem.W.fnOf "_law_exchanged" "_law_exchanged" (defArgs s_u_law_exchanged) (defBody s_u_law_exchanged) (defScope s_u_law_exchanged) .none kV16 dc16 pm16 an16 cd16 ct16), sl16⟩) (c16 : PySem.W.codeIn K cd16 "_law_exchanged" = true) (k16 : PySem.W.keepIn K (.ref f16) = true)
    {f17 : Addr} {od17 an17 : Option Addr} {sl17 : Array (Option Value)} {oc17 kV17 dc17 pm17 cd17 ct17 : Value}
    (a17 : PySem.W.nsIn K mainGlobals "law" = some (some (.ref f17))) (l17 : K.lookup f17 = some ⟨oc17, od17, .func (PySem.W.fnOf "law" "law" (defArgs s_law) (defBody s_law) (defScope s_law) .none kV17 dc17 pm17 an17 cd17 ct17), sl17⟩) (c17 : PySem.W.codeIn K cd17 "law" = true) (k17 : PySem.W.keepIn K (.ref f17) = true)
    (z_enumerate : PySem.W.nsIn K mainGlobals "enumerate" = some none) (z_int : PySem.W.nsIn K mainGlobals "int" = some none) (z_len : PySem.W.nsIn K mainGlobals "len" = some none) (z_list : PySem.W.nsIn K mainGlobals "list" = some none) (z_range : PySem.W.nsIn K mainGlobals "range" = some none) (z_sorted : PySem.W.nsIn K mainGlobals "sorted" = some none) (hl : ∀ ns : List Int, ns.length ≤ 63 → law_f [.fz (ns.map .int)] = some (.bl true, [])) :
    ∃ fd : FuncData, (∀ (s : Shared) (v : Value), BindsTo s fd ⟨[v], []⟩ [("script", v)]) ∧ ∀ base : Heap, K.In base → base.Ns mainGlobals mg → FnOk l.prog w K mg base CX0 7 fa fd ["script"] (spLaw K) := by
  have e := hfa.symm.trans (PySem.W.mg_of X G a17)
  cases e
  let T : Txt K mg := {
    a_letter_at := f0, d_letter_at := _, F_letter_at := fun_mk (st := s_letter_at) l0 c0 k0, m_letter_at := PySem.W.mg_of X G a0,
    b_letter_at := (fun_mk (st := s_letter_at) l0 c0 k0).binds (ps := ["columns", "order", "one", "other"]) fun _ _ _ _ _ _ us hl => match us, hl with | [_, _, _, _], _ => rfl,
    a_map_of := f1, d_map_of := _, F_map_of := fun_mk (st := s_map_of) l1 c1 k1, m_map_of := PySem.W.mg_of X G a1,
    b_map_of := (fun_mk (st := s_map_of) l1 c1 k1).binds (ps := ["rows", "columns", "order"]) fun _ _ _ _ _ _ us hl => match us, hl with | [_, _, _], _ => rfl,
    a_joints := f2, d_joints := _, F_joints := fun_mk (st := s_joints) l2 c2 k2, m_joints := PySem.W.mg_of X G a2,
    b_joints := (fun_mk (st := s_joints) l2 c2 k2).binds (ps := ["rows", "columns"]) fun _ _ _ _ _ _ us hl => match us, hl with | [_, _], _ => rfl,
    a_lie_alternately := f3, d_lie_alternately := _, F_lie_alternately := fun_mk (st := s_lie_alternately) l3 c3 k3, m_lie_alternately := PySem.W.mg_of X G a3,
    b_lie_alternately := (fun_mk (st := s_lie_alternately) l3 c3 k3).binds (ps := ["one", "other", "place"]) fun _ _ _ _ _ _ us hl => match us, hl with | [_, _, _], _ => rfl,
    a_can_lie := f4, d_can_lie := _, F_can_lie := fun_mk (st := s_can_lie) l4 c4 k4, m_can_lie := PySem.W.mg_of X G a4,
    b_can_lie := (fun_mk (st := s_can_lie) l4 c4 k4).binds (ps := ["told", "order", "square"]) fun _ _ _ _ _ _ us hl => match us, hl with | [_, _, _], _ => rfl,
    a_all_piles := f5, d_all_piles := _, F_all_piles := fun_mk (st := s_all_piles) l5 c5 k5, m_all_piles := PySem.W.mg_of X G a5,
    b_all_piles := (fun_mk (st := s_all_piles) l5 c5 k5).binds (ps := ["rows", "columns"]) fun _ _ _ _ _ _ us hl => match us, hl with | [_, _], _ => rfl,
    a_map_states := f6, d_map_states := _, F_map_states := fun_mk (st := s_map_states) l6 c6 k6, m_map_states := PySem.W.mg_of X G a6,
    b_map_states := (fun_mk (st := s_map_states) l6 c6 k6).binds (ps := ["told"]) fun _ _ _ _ _ _ us hl => match us, hl with | [_], _ => rfl,
    a_u_law_mixed := f7, d_u_law_mixed := _, F_u_law_mixed := fun_mk (st := s_u_law_mixed) l7 c7 k7, m_u_law_mixed := PySem.W.mg_of X G a7,
    b_u_law_mixed := (fun_mk (st := s_u_law_mixed) l7 c7 k7).binds (ps := ["number", "place"]) fun _ _ _ _ _ _ us hl => match us, hl with | [_, _], _ => rfl,
    a_u_law_rest := f8, d_u_law_rest := _, F_u_law_rest := fun_mk (st := s_u_law_rest) l8 c8 k8, m_u_law_rest := PySem.W.mg_of X G a8,
    b_u_law_rest := (fun_mk (st := s_u_law_rest) l8 c8 k8).binds (ps := ["script", "place", "fills"]) fun _ _ _ _ _ _ us hl => match us, hl with | [_, _, _], _ => rfl,
    a_u_law_pool := f9, d_u_law_pool := _, F_u_law_pool := fun_mk (st := s_u_law_pool) l9 c9 k9, m_u_law_pool := PySem.W.mg_of X G a9,
    b_u_law_pool := (fun_mk (st := s_u_law_pool) l9 c9 k9).binds (ps := ["script"]) fun _ _ _ _ _ _ us hl => match us, hl with | [_], _ => rfl,
    a_u_law_draw := f10, d_u_law_draw := _, F_u_law_draw := fun_mk (st := s_u_law_draw) l10 c10 k10, m_u_law_draw := PySem.W.mg_of X G a10,
    b_u_law_draw := (fun_mk (st := s_u_law_draw) l10 c10 k10).binds (ps := ["pool", "limit"]) fun _ _ _ _ _ _ us hl => match us, hl with | [_, _], _ => rfl,
    a_u_law_pick := f11, d_u_law_pick := _, F_u_law_pick := fun_mk (st := s_u_law_pick) l11 c11 k11, m_u_law_pick := PySem.W.mg_of X G a11,
    b_u_law_pick := (fun_mk (st := s_u_law_pick) l11 c11 k11).binds (ps := ["pool", "options"]) fun _ _ _ _ _ _ us hl => match us, hl with | [_, _], _ => rfl,
    a_u_law_next := f12, d_u_law_next := _, F_u_law_next := fun_mk (st := s_u_law_next) l12 c12 k12, m_u_law_next := PySem.W.mg_of X G a12,
    b_u_law_next := (fun_mk (st := s_u_law_next) l12 c12 k12).binds (ps := ["pool"]) fun _ _ _ _ _ _ us hl => match us, hl with | [_], _ => rfl,
    a_u_law_letters := f13, d_u_law_letters := _, F_u_law_letters := fun_mk (st := s_u_law_letters) l13 c13 k13, m_u_law_letters := PySem.W.mg_of X G a13,
    b_u_law_letters := (fun_mk (st := s_u_law_letters) l13 c13 k13).binds (ps := ["pool", "many"]) fun _ _ _ _ _ _ us hl => match us, hl with | [_, _], _ => rfl,
    a_u_law_map := f14, d_u_law_map := _, F_u_law_map := fun_mk (st := s_u_law_map) l14 c14 k14, m_u_law_map := PySem.W.mg_of X G a14,
    b_u_law_map := (fun_mk (st := s_u_law_map) l14 c14 k14).binds (ps := ["pool", "rows", "columns"]) fun _ _ _ _ _ _ us hl => match us, hl with | [_, _, _], _ => rfl,
    a_u_law_turned := f15, d_u_law_turned := _, F_u_law_turned := fun_mk (st := s_u_law_turned) l15 c15 k15, m_u_law_turned := PySem.W.mg_of X G a15,
    b_u_law_turned := (fun_mk (st := s_u_law_turned) l15 c15 k15).binds (ps := ["told"]) fun _ _ _ _ _ _ us hl => match us, hl with | [_], _ => rfl,
    a_u_law_exchanged := f16, d_u_law_exchanged := _, F_u_law_exchanged := fun_mk (st := s_u_law_exchanged) l16 c16 k16, m_u_law_exchanged := PySem.W.mg_of X G a16,
    b_u_law_exchanged := (fun_mk (st := s_u_law_exchanged) l16 c16 k16).binds (ps := ["text"]) fun _ _ _ _ _ _ us hl => match us, hl with | [_], _ => rfl,
    a_law := fa, d_law := _, F_law := fun_mk (st := s_law) l17 c17 k17, m_law := PySem.W.mg_of X G a17,
    b_law := (fun_mk (st := s_law) l17 c17 k17).binds (ps := ["script"]) fun _ _ _ _ _ _ us hl => match us, hl with | [_], _ => rfl,
    z_enumerate := PySem.W.mg_none_of X G z_enumerate,
    z_int := PySem.W.mg_none_of X G z_int,
    z_len := PySem.W.mg_none_of X G z_len,
    z_list := PySem.W.mg_none_of X G z_list,
    z_range := PySem.W.mg_none_of X G z_range,
    z_sorted := PySem.W.mg_none_of X G z_sorted }
  exact ⟨_, fun s v => .of_eq rfl, fun base _ _ => law_end (ok_law T) hl⟩
end L2.VS.LAW

open PySem PySem.W PyProof.Rows
set_option maxHeartbeats 0 in
theorem PySem.Challenge.cw_creasewise_k20_whole_maps_turned_and_mir_holds : PySem.Challenge.rw_creasewise_k20_whole_maps_turned_and_mir.Holds := by
  w_on; o_law; k_head; (case hw => w_witness2)
  k_fill
  refine L2.walk_of (l := PySem.Challenge.rw_creasewise_k20_whole_maps_turned_and_mir) (n := 63) (k := 7) (x := "script") (CX := fun _ => L2.CX0) (sp := fun w => L2.VS.spLaw _) rfl (by decide) rfl ⟨rfl, by decide, by decide⟩ (fun w h Y => PySem.W.kIn_of Y) ?F (fun _ _ a ns hl _ hS => ⟨a, ns, rfl, hS, hl, fun _ => rfl⟩) (fun _ _ _ _ _ h => h)
  case F =>
    intro w mg fa h KX G hmg
    refine' L2.VS.LAW.all_mk KX G hmg ?a0 ?l0 ?c0 ?k0 ?a1 ?l1 ?c1 ?k1 ?a2 ?l2 ?c2 ?k2 ?a3 ?l3 ?c3 ?k3 ?a4 ?l4 ?c4 ?k4 ?a5 ?l5 ?c5 ?k5 ?a6 ?l6 ?c6 ?k6 ?a7 ?l7 ?c7 ?k7 ?a8 ?l8 ?c8 ?k8 ?a9 ?l9 ?c9 ?k9 ?a10 ?l10 ?c10 ?k10 ?a11 ?l11 ?c11 ?k11 ?a12 ?l12 ?c12 ?k12 ?a13 ?l13 ?c13 ?k13 ?a14 ?l14 ?c14 ?k14 ?a15 ?l15 ?c15 ?k15 ?a16 ?l16 ?c16 ?k16 ?a17 ?l17 ?c17 ?k17 ?z_enumerate ?z_int ?z_len ?z_list ?z_range ?z_sorted ?hlaw
    (case a0 => k_is); (case l0 => k_is); (case c0 => k_is); (case k0 => k_is)
    (case a1 => k_is); (case l1 => k_is); (case c1 => k_is); (case k1 => k_is)
    (case a2 => k_is); (case l2 => k_is); (case c2 => k_is); (case k2 => k_is)
    (case a3 => k_is); (case l3 => k_is); (case c3 => k_is); (case k3 => k_is)
    (case a4 => k_is); (case l4 => k_is); (case c4 => k_is); (case k4 => k_is)
    (case a5 => k_is); (case l5 => k_is); (case c5 => k_is); (case k5 => k_is)
    (case a6 => k_is); (case l6 => k_is); (case c6 => k_is); (case k6 => k_is)
    (case a7 => k_is); (case l7 => k_is); (case c7 => k_is); (case k7 => k_is)
    (case a8 => k_is); (case l8 => k_is); (case c8 => k_is); (case k8 => k_is)
    (case a9 => k_is); (case l9 => k_is); (case c9 => k_is); (case k9 => k_is)
    (case a10 => k_is); (case l10 => k_is); (case c10 => k_is); (case k10 => k_is)
    (case a11 => k_is); (case l11 => k_is); (case c11 => k_is); (case k11 => k_is)
    (case a12 => k_is); (case l12 => k_is); (case c12 => k_is); (case k12 => k_is)
    (case a13 => k_is); (case l13 => k_is); (case c13 => k_is); (case k13 => k_is)
    (case a14 => k_is); (case l14 => k_is); (case c14 => k_is); (case k14 => k_is)
    (case a15 => k_is); (case l15 => k_is); (case c15 => k_is); (case k15 => k_is)
    (case a16 => k_is); (case l16 => k_is); (case c16 => k_is); (case k16 => k_is)
    (case a17 => k_is); (case l17 => k_is); (case c17 => k_is); (case k17 => k_is)
    (case z_enumerate => k_is)
    (case z_int => k_is)
    (case z_len => k_is)
    (case z_list => k_is)
    (case z_range => k_is)
    (case z_sorted => k_is)
    (case hlaw => exact L2.VS.LAW.law_true)

